import PyProof.Rows.All
import Wide.All
import OpenK.AllK
import Wide.FinOn
import HandS.ForMost
import HandS.ForExc
import HandS.CallSlots
import HandS.IsInst
import HandS.Deep
import HandS.SortInts
import HandS.Style
import HandS.Wide
import HandS.TupAny
import HandS.Conv
import HandS.Iter
import HandS.More
import HandS.ExcInit
import HandS.ExcField
import HandS.ExcIs
import KE.DataMinMax
import HandS.Star
import KE.GoesEnum
import HandS.Zip
import HandS.SetFor
import HandS.Strs
import HandS.TryOnly
import HandS.HotCalls
import HandS.ExcOwn
import KE.SortData
import PyProof.Rows.RowBridgeK
import HandS.Lambda
import HandS.EndTab
import PyProof.EqKinds
import PyProof.P3In
import PyProof.FactsAll.dict_1
import PyProof.FactsAll.subtypes_4
import HandS.Dict
import PyProof.Rows.SortShellAny
import PyProof.TupleOfSeq
import KE.DatumOrd
import KE.KDictZip
import KE.GoesZip
import KE.GoesMore
import HandS.Zip0
import HandS.ListItems
import PyProof.FactsAll.subtypes_1
import PyProof.FactsAll.int_1
import PyProof.WalksMore
import PyProof.SumWalkG
import PyProof.Rows.SumAny
import HandS.TupMul
import KE.KDictKeyed
import KE.DataCmp
import KE.KDictDisplayH
import KE.KDictWalk
import KE.KItemsList
import HandS.TupSets
import KE.KeyNested
import HandS.Text
import HandS.FStr
import HandS.Flow
import HandS.RaiseMore
import PyProof.StrOps2
import KE.IntTextLaws
import KE.OsRunLaw
import PySem.Challenge.RW_toppleline_k33_most_felled_stones
set_option Elab.async false
set_option linter.all false
set_option maxRecDepth 100000
set_option maxHeartbeats 4000000
set_option exponentiation.threshold 3000
namespace DL
open PySem PySem.Spec L2
def keyD : Key → PyData
  | .inl i => .int i
  | .inr x => .str x
def bigI : Int := 2 ^ 1920
abbrev objK : PyData := .tuple [.int bigI]
structure ObjC (K : PySem.W.Frag) (nm : Str) (C : Addr) : Prop where
  cls : Cls K C
  ns : PySem.W.nsIn K mainGlobals nm = some (some (.ref C))
  ha : PySem.W.findIn K (.ref C) "__class__" = some (some (.builtin "object.__class__"))
  hn : PySem.W.specialIn K (.builtin "object.__class__") "__get__" = some (some (.builtin "getset_descriptor.__get__"))
  htk : PySem.W.takesIn K (.builtin "object.__class__") = some true
  hm : PySem.W.mroIn K C (.type "object") = some true
  no : ∀ T ∈ (["int", "bool", "str", "tuple", "list", "dict"] : List String), PySem.W.kitOne K (.ref C) (.type T) = some false
def fKv (fs : List (Str × V)) : List (Key × V) := fs.map fun p => (.inr p.1, p.2)
def isObj : List (PyData × PyData) → Bool
  | (.tuple _, _) :: _ => true
  | _ => false
mutual
inductive At (K : PySem.W.Frag) (F : Hp) : V → PyData → Prop
  | non : At K F .non .none
  | bl (b : Bool) : At K F (.bl b) (.bool b)
  | int (i : Int) : At K F (.int i) (.int i)
  | str (x : Str) : At K F (.str x) (.str x)
  | lst {a : Addr} {vs : List V} {ds : List PyData} : F a = some (.lst vs) → AtL K F vs ds → At K F (.ref a) (.list ds)
  | tup {a : Addr} {vs : List V} {ds : List PyData} : F a = some (.tup vs) → AtL K F vs ds → At K F (.ref a) (.tuple ds)
  | dct {a : Addr} {kvs : List (Key × V)} {ds : List (PyData × PyData)} : Rd F a (.dK kvs) → AtKv K F kvs ds → At K F (.ref a) (.dict ds)
  | obj {a C dx : Addr} {nm : Str} {fs : List (Str × V)} {ds : List (PyData × PyData)} : F a = some (.ins C dx fs) → ObjC K nm C → (∀ p ∈ fs, NoAttr K C p.1) → AtKv K F (fKv fs) ds → At K F (.ref a) (.dict ((objK, .str nm) :: ds))
inductive AtL (K : PySem.W.Frag) (F : Hp) : List V → List PyData → Prop
  | nil : AtL K F [] []
  | cons {v : V} {vs : List V} {d : PyData} {ds : List PyData} : At K F v d → AtL K F vs ds → AtL K F (v :: vs) (d :: ds)
inductive AtKv (K : PySem.W.Frag) (F : Hp) : List (Key × V) → List (PyData × PyData) → Prop
  | nil : AtKv K F [] []
  | cons {k : Key} {v : V} {r : List (Key × V)} {d : PyData} {ds : List (PyData × PyData)} : At K F v d → AtKv K F r ds → AtKv K F ((k, v) :: r) ((keyD k, d) :: ds)
end
theorem rd_mono {F F' : Hp} (e : Same F F') {a : Addr} {u : HO} (h : Rd F a u) : Rd F' a u := by
  rcases h with h | ⟨o, h⟩
  · exact .inl (e _ _ h)
  · exact .inr ⟨o, e _ _ h⟩
theorem sqL_mono {K : PySem.W.Frag} {F F' : Hp} (e : Same F F') {a : Addr} {vs : List V} (h : SqL K F a vs) : SqL K F' a vs := e.seq h
theorem sqT_mono {K : PySem.W.Frag} {F F' : Hp} (e : Same F F') {a : Addr} {vs : List V} (h : SqT K F a vs) : SqT K F' a vs := by
  rcases h with (h | ⟨o, h⟩) | h
  · exact .inl (.inl (e _ _ h))
  · exact .inl (.inr ⟨o, e _ _ h⟩)
  · exact .inr h
section
variable {K : PySem.W.Frag} {F F' : Hp}
mutual
theorem At.mono (e : Same F F') : ∀ (d : PyData) (v : V), At K F v d → At K F' v d
  | .none, _, h => by cases h; exact .non
  | .bool b, _, h => by cases h; exact .bl b
  | .int i, _, h => by cases h; exact .int i
  | .str x, _, h => by cases h; exact .str x
  | .list ds, _, h => by
    cases h with
    | lst hs ha => exact .lst (e _ _ hs) (AtL.mono e ds _ ha)
  | .tuple ds, _, h => by
    cases h with
    | tup hs ha => exact .tup (e _ _ hs) (AtL.mono e ds _ ha)
  | .dict ds, _, h => by
    cases h with
    | dct hs ha => exact .dct (rd_mono e hs) (AtKv.mono e ds _ ha)
    | obj hs ho hn ha => exact .obj (e _ _ hs) ho hn (AtKv.mono e _ _ ha)
theorem AtL.mono (e : Same F F') : ∀ (ds : List PyData) (vs : List V), AtL K F vs ds → AtL K F' vs ds
  | [], _, h => by cases h; exact .nil
  | d :: ds, _, h => by
    cases h with
    | cons h1 h2 => exact .cons (At.mono e d _ h1) (AtL.mono e ds _ h2)
theorem AtKv.mono (e : Same F F') : ∀ (ds : List (PyData × PyData)) (kvs : List (Key × V)), AtKv K F kvs ds → AtKv K F' kvs ds
  | [], _, h => by cases h; exact .nil
  | (k, d) :: ds, _, h => by
    cases h with
    | cons h1 h2 => exact .cons (At.mono e d _ h1) (AtKv.mono e ds _ h2)
end
inductive AtKt (K : PySem.W.Frag) (F : Hp) : List (List Key × V) → List (List Key × PyData) → Prop
  | nil : AtKt K F [] []
  | cons {k : List Key} {v : V} {r : List (List Key × V)} {d : PyData} {ds : List (List Key × PyData)} : At K F v d → AtKt K F r ds → AtKt K F ((k, v) :: r) ((k, d) :: ds)
theorem AtKt.mono (e : Same F F') : ∀ (ds : List (List Key × PyData)) (kvs : List (List Key × V)), AtKt K F kvs ds → AtKt K F' kvs ds
  | [], _, h => by cases h; exact .nil
  | (k, d) :: ds, _, h => by
    cases h with
    | cons h1 h2 => exact .cons (At.mono e d _ h1) (AtKt.mono e ds _ h2)
theorem AtL.length : ∀ {vs : List V} {ds : List PyData}, AtL K F vs ds → vs.length = ds.length
  | _, _, .nil => rfl
  | _, _, .cons _ h => by rw [List.length_cons, List.length_cons, AtL.length h]
theorem AtL.get : ∀ {vs : List V} {ds : List PyData} {i : Nat} {d : PyData}, AtL K F vs ds → ds[i]? = some d → ∃ v, vs[i]? = some v ∧ At K F v d
  | _, _, i, d, .nil, e => by simp at e
  | _, _, 0, d, .cons h _, e => by
    simp at e
    subst e
    exact ⟨_, rfl, h⟩
  | _, _, i + 1, d, .cons _ h, e => by
    obtain ⟨v, h1, h2⟩ := AtL.get (i := i) (d := d) h (by simpa using e)
    exact ⟨v, by simpa using h1, h2⟩
theorem AtL.get' : ∀ {vs : List V} {ds : List PyData} {i : Nat} {v : V}, AtL K F vs ds → vs[i]? = some v → ∃ d, ds[i]? = some d ∧ At K F v d
  | _, _, i, d, .nil, e => by simp at e
  | _, _, 0, d, .cons h _, e => by
    simp at e
    subst e
    exact ⟨_, rfl, h⟩
  | _, _, i + 1, d, .cons _ h, e => by
    obtain ⟨v, h1, h2⟩ := AtL.get' (i := i) h (by simpa using e)
    exact ⟨v, by simpa using h1, h2⟩
theorem AtL.append : ∀ {vs ws : List V} {ds es : List PyData}, AtL K F vs ds → AtL K F ws es → AtL K F (vs ++ ws) (ds ++ es)
  | _, _, _, _, .nil, h => h
  | _, _, _, _, .cons h t, h' => .cons h (AtL.append t h')
theorem AtL.take : ∀ {vs : List V} {ds : List PyData} (n : Nat), AtL K F vs ds → AtL K F (vs.take n) (ds.take n)
  | _, _, 0, _ => .nil
  | _, _, n + 1, .nil => .nil
  | _, _, n + 1, .cons h t => .cons h (AtL.take n t)
theorem AtL.drop : ∀ {vs : List V} {ds : List PyData} (n : Nat), AtL K F vs ds → AtL K F (vs.drop n) (ds.drop n)
  | _, _, 0, h => h
  | _, _, n + 1, .nil => .nil
  | _, _, n + 1, .cons h t => AtL.drop n t
theorem AtL.set {v : V} {d : PyData} (h : At K F v d) : ∀ {vs : List V} {ds : List PyData} (n : Nat), AtL K F vs ds → AtL K F (vs.set n v) (ds.set n d)
  | _, _, _, .nil => .nil
  | _, _, 0, .cons _ t => .cons h t
  | _, _, n + 1, .cons g t => .cons g (AtL.set h n t)
theorem AtL.reverse : ∀ {vs : List V} {ds : List PyData}, AtL K F vs ds → AtL K F vs.reverse ds.reverse
  | _, _, .nil => .nil
  | _, _, .cons h t => by
    rw [List.reverse_cons, List.reverse_cons]
    exact (AtL.reverse t).append (.cons h .nil)
theorem AtL.rep {vs : List V} {ds : List PyData} (h : AtL K F vs ds) : ∀ k : Nat, AtL K F (List.replicate k vs).flatten (List.replicate k ds).flatten
  | 0 => .nil
  | k + 1 => by
    rw [List.replicate_succ, List.replicate_succ, List.flatten_cons, List.flatten_cons]
    exact h.append (AtL.rep h k)
theorem AtL.ints {vs : List V} : ∀ {ns : List Int}, AtL K F vs (ns.map PyData.int) → vs = ns.map V.int := by
  intro ns
  induction ns generalizing vs with
  | nil => intro h; cases h; rfl
  | cons n ns ih =>
    intro h
    cases h with
    | cons h1 h2 =>
      cases h1
      rw [ih h2]
      rfl
theorem atL_ints : ∀ (ns : List Int), AtL K F (ns.map V.int) (ns.map PyData.int)
  | [] => .nil
  | n :: ns => .cons (.int n) (atL_ints ns)
end
structure DExc where
  cls : Str
  arg : Option (Str × PyData)
structure LkP where
  a : Addr
  o : Obj
  k : List (Key × V)
structure LkT where
  a : Addr
  o : Obj
  k : List (List Key × V)
inductive FV where
  | d (x : PyData)
  | r (a : Addr)
inductive AtF (K : PySem.W.Frag) (F : Hp) : V → FV → Prop
  | d {v : V} {x : PyData} : At K F v x → AtF K F v (.d x)
  | r (a : Addr) : AtF K F (.ref a) (.r a)
inductive AtFs (K : PySem.W.Frag) (F : Hp) : List (Str × V) → List (Str × FV) → Prop
  | nil : AtFs K F [] []
  | cons {f : Str} {v : V} {r : List (Str × V)} {x : FV} {xs : List (Str × FV)} : AtF K F v x → AtFs K F r xs → AtFs K F ((f, v) :: r) ((f, x) :: xs)
theorem AtF.mono {K : PySem.W.Frag} {F F' : Hp} (e : Same F F') {v : V} {x : FV} (h : AtF K F v x) : AtF K F' v x := by
  cases h with
  | d h => exact .d (At.mono e _ _ h)
  | r a => exact .r a
theorem AtFs.mono {K : PySem.W.Frag} {F F' : Hp} (e : Same F F') : ∀ {vs : List (Str × V)} {fs : List (Str × FV)}, AtFs K F vs fs → AtFs K F' vs fs
  | _, _, .nil => .nil
  | _, _, .cons h r => .cons (h.mono e) (AtFs.mono e r)
inductive AtFl (K : PySem.W.Frag) (F : Hp) : List V → List FV → Prop
  | nil : AtFl K F [] []
  | cons {v : V} {r : List V} {x : FV} {xs : List FV} : AtF K F v x → AtFl K F r xs → AtFl K F (v :: r) (x :: xs)
theorem AtFl.mono {K : PySem.W.Frag} {F F' : Hp} (e : Same F F') : ∀ {vs : List V} {fs : List FV}, AtFl K F vs fs → AtFl K F' vs fs
  | _, _, .nil => .nil
  | _, _, .cons h r => .cons (h.mono e) (AtFl.mono e r)
def sqO (tup : Bool) (vs : List V) : HO := match tup with
  | true => .tup vs
  | false => .lst vs
inductive DV where
  | d (x : PyData)
  | own (xs : List PyData)
  | bor (xs : List PyData)
  | cask
  | raw (v : V)
  | scr (xs : List Int)
  | odk (ks : List (PyData × PyData))
  | bdk (ks : List (PyData × PyData))
  | olk (p : Unit → LkP) (ks : List (PyData × PyData))
  | blk (p : Unit → LkP) (ks : List (PyData × PyData))
  | ldk (p : Unit → LkP) (ks : List (PyData × PyData))
  | exc (a C : Addr) (d : Option Addr) (e : DExc)
  | odt (a : Addr) (ks : List (List Key × PyData))
  | bdt (a : Addr) (ks : List (List Key × PyData))
  | ldt (p : Unit → LkT) (ks : List (List Key × PyData))
  | ins (a : Addr) (nm : Str) (fs : List (Str × FV))
  | fvs (tup : Bool) (xs : List FV)
def DV.isOwn : DV → Bool
  | .ins _ _ _ => true
  | .own _ => true
  | .odk _ => true
  | .olk _ _ => true
  | .odt _ _ => true
  | _ => false
def DV.isBor : DV → Bool
  | .bor _ => true
  | .bdk _ => true
  | .blk _ _ => true
  | .bdt _ _ => true
  | _ => false
abbrev Env := List (Option DV)
structure Gm where
  K : PySem.W.Frag
  F0 : Hp
  B : Hp
  C : Addr → Prop
  cv : V
  J : Nat → Hp → Prop
  n : Nat
  lim : Nat
@[reducible] def Gm.up (G : Gm) (u : Nat) : Gm := { G with n := G.n + u }
theorem up_up {G : Gm} {a b : Nat} : (G.up a).up b = G.up (a + b) := by
  show ({ G with n := G.n + a + b } : Gm) = { G with n := G.n + (a + b) }
  rw [Nat.add_assoc]
structure Gm.Ok (G : Gm) : Prop where
  js : ∀ n H H', G.J n H → (∀ p, G.C p → H' p = H p) → (∀ p x, H p = some (.ext x) → H' p = some (.ext x)) → G.J n H'
  jm : ∀ n k H, n ≤ k → G.J n H → G.J k H
  jn : ∀ n H, G.J n H → ∀ p, G.C p → H p ≠ none
  cb : ∀ p, G.C p → G.B p ≠ none
  jt : ∀ n H, G.J n H → ∀ p, G.C p → ∀ vs, H p ≠ some (.tup vs)
def VOk (G : Gm) (F H : Hp) (v : V) : DV → Prop
  | .d x => At G.K F v x
  | .own xs => ∃ l vs, v = .ref l ∧ H l = some (.lst vs) ∧ AtL G.K F vs xs ∧ F l = none ∧ G.B l = none
  | .bor xs => ∃ l vs, v = .ref l ∧ H l = some (.lst vs) ∧ AtL G.K F vs xs ∧ G.B l = none
  | .cask => v = G.cv
  | .raw u => v = u
  | .scr xs => ∃ a, v = .ref a ∧ SqL G.K F a (xs.map V.int)
  | .fvs tup xs => ∃ a vs, v = .ref a ∧ F a = some (sqO tup vs) ∧ AtFl G.K F vs xs
  | .odk ks => ∃ l kvs, v = .ref l ∧ H l = some (.dK kvs) ∧ AtKv G.K F kvs ks ∧ F l = none ∧ G.B l = none
  | .bdk ks => ∃ l kvs, v = .ref l ∧ Rd H l (.dK kvs) ∧ AtKv G.K F kvs ks ∧ G.B l = none
  | .olk p ks => ∃ q : LkP, q = p () ∧ v = .ref (p ()).a ∧ H (p ()).a = some (.frz (p ()).o (.dK (p ()).k)) ∧ AtKv G.K F (p ()).k ks ∧ F (p ()).a = none ∧ G.B (p ()).a = none
  | .blk p ks => ∃ q : LkP, q = p () ∧ v = .ref (p ()).a ∧ H (p ()).a = some (.frz (p ()).o (.dK (p ()).k)) ∧ AtKv G.K F (p ()).k ks ∧ G.B (p ()).a = none
  | .ldk p ks => ∃ q : LkP, q = p () ∧ v = .ref (p ()).a ∧ F (p ()).a = some (.frz (p ()).o (.dK (p ()).k)) ∧ AtKv G.K F (p ()).k ks
  | .odt a ks => v = .ref a ∧ ∃ kvs, H a = some (.dT kvs) ∧ AtKt G.K F kvs ks ∧ F a = none ∧ G.B a = none
  | .ldt p ks => ∃ q : LkT, q = p () ∧ v = .ref (p ()).a ∧ F (p ()).a = some (.frz (p ()).o (.dT (p ()).k)) ∧ AtKt G.K F (p ()).k ks
  | .bdt a ks => v = .ref a ∧ ∃ kvs, Rd H a (.dT kvs) ∧ AtKt G.K F kvs ks ∧ G.B a = none
  | .ins a nm fs => v = .ref a ∧ ∃ (C dx : Addr) (vs : List (Str × V)), H a = some (.ins C dx vs) ∧ ObjC G.K nm C ∧ (∀ p ∈ vs, NoAttr G.K C p.1) ∧ AtFs G.K F vs fs ∧ F a = none ∧ G.B a = none
  | .exc a _ d e => v = .ref a ∧ match e.arg with
    | none => d = none
    | some (f, x) => ∃ dd w, d = some dd ∧ F dd = some (.xd [(f, w)]) ∧ At G.K F w x
structure Good (G : Gm) (F : Hp) (δ : Env) (σ : L2.St) (H : Hp) : Prop where
  g : G.Ok
  len : δ.length = σ.length
  f0 : Same G.F0 F
  fh : Same F H
  fr : ∀ p, F p ≠ none → G.F0 p = none → G.B p = none ∨ ∃ vs, F p = some (.tup vs)
  bh : ∀ p o, ¬ G.C p → G.B p = some o → H p = some o
  cf : ∀ p, G.C p → F p = none
  jh : G.J G.n H
  sl : ∀ (i : Nat) (dv : DV), δ[i]? = some (some dv) → ∃ v, σ[i]? = some (some v) ∧ VOk G F H v dv
  di : ∀ (i j : Nat) (x y : DV) (l : Addr), x.isOwn = true → y.isOwn = true → δ[i]? = some (some x) → δ[j]? = some (some y) → σ[i]? = some (some (.ref l)) → σ[j]? = some (some (.ref l)) → i = j
section
variable {G : Gm} {F F' H H' : Hp} {δ δ' : Env} {σ σ' : L2.St} {v : V} {dv : DV}
theorem VOk.keep (h : VOk G F H v dv) (hf : Same F F') (hh : ∀ l (o : HO), (dv.isOwn || dv.isBor) = true → v = .ref l → H l = some o → H' l = some o) (hn : ∀ l, dv.isOwn = true → v = .ref l → F l = none → F' l = none) : VOk G F' H' v dv := by
  cases dv with
  | d x => exact At.mono hf _ _ h
  | own xs =>
    obtain ⟨l, vs, rfl, h1, h2, h3, h4⟩ := h
    exact ⟨l, vs, rfl, hh l _ rfl rfl h1, AtL.mono hf _ _ h2, hn l rfl rfl h3, h4⟩
  | bor xs =>
    obtain ⟨l, vs, rfl, h1, h2, h3⟩ := h
    exact ⟨l, vs, rfl, hh l _ rfl rfl h1, AtL.mono hf _ _ h2, h3⟩
  | odk xs =>
    obtain ⟨l, vs, rfl, h1, h2, h3, h4⟩ := h
    exact ⟨l, vs, rfl, hh l _ rfl rfl h1, AtKv.mono hf _ _ h2, hn l rfl rfl h3, h4⟩
  | bdk xs =>
    obtain ⟨l, vs, rfl, h1, h2, h3⟩ := h
    refine ⟨l, vs, rfl, ?_, AtKv.mono hf _ _ h2, h3⟩
    rcases h1 with h1 | ⟨o, h1⟩
    · exact .inl (hh l _ rfl rfl h1)
    · exact .inr ⟨o, hh l _ rfl rfl h1⟩
  | olk p xs =>
    obtain ⟨_, _, rfl, h1, h2, h3, h4⟩ := h
    exact ⟨_, rfl, rfl, hh _ _ rfl rfl h1, AtKv.mono hf _ _ h2, hn _ rfl rfl h3, h4⟩
  | blk p xs =>
    obtain ⟨_, _, rfl, h1, h2, h3⟩ := h
    exact ⟨_, rfl, rfl, hh _ _ rfl rfl h1, AtKv.mono hf _ _ h2, h3⟩
  | ldk p xs =>
    obtain ⟨_, _, rfl, h1, h2⟩ := h
    exact ⟨_, rfl, rfl, hf _ _ h1, AtKv.mono hf _ _ h2⟩
  | odt a xs =>
    obtain ⟨rfl, vs, h1, h2, h3, h4⟩ := h
    exact ⟨rfl, vs, hh a _ rfl rfl h1, AtKt.mono hf _ _ h2, hn a rfl rfl h3, h4⟩
  | bdt a xs =>
    obtain ⟨rfl, vs, h1, h2, h3⟩ := h
    refine ⟨rfl, vs, ?_, AtKt.mono hf _ _ h2, h3⟩
    rcases h1 with h1 | ⟨o, h1⟩
    · exact .inl (hh a _ rfl rfl h1)
    · exact .inr ⟨o, hh a _ rfl rfl h1⟩
  | ldt p xs =>
    obtain ⟨_, _, rfl, h1, h2⟩ := h
    exact ⟨_, rfl, rfl, hf _ _ h1, AtKt.mono hf _ _ h2⟩
  | ins a nm fs =>
    obtain ⟨rfl, C, dx, vs, h1, h2, h3, h4, h5, h6⟩ := h
    exact ⟨rfl, C, dx, vs, hh a _ rfl rfl h1, h2, h3, AtFs.mono hf h4, hn a rfl rfl h5, h6⟩
  | cask => exact h
  | raw u => exact h
  | scr xs =>
    obtain ⟨a, h1, h2⟩ := h
    exact ⟨a, h1, sqL_mono hf h2⟩
  | fvs tup xs =>
    obtain ⟨a, vs, h1, h2, h3⟩ := h
    exact ⟨a, vs, h1, hf _ _ h2, h3.mono hf⟩
  | exc a C d er =>
    obtain ⟨cn, arg⟩ := er
    cases arg with
    | none => exact h
    | some p =>
      obtain ⟨f, x⟩ := p
      obtain ⟨e, dd, w, h1, h2, h3⟩ := h
      exact ⟨e, dd, w, h1, hf _ _ h2, At.mono hf _ _ h3⟩
theorem own_at (h : VOk G F H v dv) (ho : dv.isOwn = true) : ∃ l o, v = .ref l ∧ H l = some o ∧ F l = none ∧ G.B l = none := by
  cases dv with
  | own xs =>
    obtain ⟨l, vs, h0, h1, h2, h3, h4⟩ := h
    exact ⟨l, _, h0, h1, h3, h4⟩
  | odk xs =>
    obtain ⟨l, vs, h0, h1, h2, h3, h4⟩ := h
    exact ⟨l, _, h0, h1, h3, h4⟩
  | olk p xs =>
    obtain ⟨_, _, h0, h1, h2, h3, h4⟩ := h
    exact ⟨_, _, h0, h1, h3, h4⟩
  | odt a xs =>
    obtain ⟨h0, vs, h1, h2, h3, h4⟩ := h
    exact ⟨_, _, h0, h1, h3, h4⟩
  | ins a nm fs =>
    obtain ⟨h0, C, dx, vs, h1, _, _, _, h3, h4⟩ := h
    exact ⟨_, _, h0, h1, h3, h4⟩
  | _ => cases ho
theorem own_nt (h : VOk G F H v dv) (ho : dv.isOwn = true) {l : Addr} {o : HO} (hv : v = .ref l) (hl : H l = some o) : ∀ vs, o ≠ .tup vs := by
  intro vs e
  subst e
  cases dv with
  | own xs =>
    obtain ⟨l', _, h0, h1, _⟩ := h
    rw [hv] at h0; cases h0; rw [hl] at h1; cases h1
  | odk xs =>
    obtain ⟨l', _, h0, h1, _⟩ := h
    rw [hv] at h0; cases h0; rw [hl] at h1; cases h1
  | olk p xs =>
    obtain ⟨_, _, h0, h1, _⟩ := h
    rw [hv] at h0; cases h0; rw [hl] at h1; cases h1
  | odt a xs =>
    obtain ⟨h0, _, h1, _⟩ := h
    rw [hv] at h0; cases h0; rw [hl] at h1; cases h1
  | ins a nm fs =>
    obtain ⟨h0, C, dx, us, h1, _⟩ := h
    rw [hv] at h0; cases h0; rw [hl] at h1; cases h1
  | _ => cases ho
theorem own_ne {l : Addr} (h : VOk G F H (.ref l) dv) (ho : dv.isOwn = true) (φ : Heap → Prop) : H l ≠ some (.ext φ) := fun z => by
  cases dv with
  | own xs =>
    obtain ⟨l', vs, h0, h1, _⟩ := h
    cases h0
    rw [h1] at z
    cases z
  | odk xs =>
    obtain ⟨l', vs, h0, h1, _⟩ := h
    cases h0
    rw [h1] at z
    cases z
  | olk p xs =>
    obtain ⟨_, _, h0, h1, _⟩ := h
    cases h0
    rw [h1] at z
    cases z
  | odt a xs =>
    obtain ⟨h0, _, h1, _⟩ := h
    cases h0
    rw [h1] at z
    cases z
  | ins a nm fs =>
    obtain ⟨h0, C, dx, us, h1, _⟩ := h
    cases h0
    rw [h1] at z
    cases z
  | _ => cases ho
theorem bor_at (h : VOk G F H v dv) (ho : (dv.isOwn || dv.isBor) = true) : ∃ l o, v = .ref l ∧ H l = some o ∧ G.B l = none := by
  cases dv with
  | own xs =>
    obtain ⟨l, vs, h0, h1, h2, h3, h4⟩ := h
    exact ⟨l, _, h0, h1, h4⟩
  | odk xs =>
    obtain ⟨l, vs, h0, h1, h2, h3, h4⟩ := h
    exact ⟨l, _, h0, h1, h4⟩
  | bor xs =>
    obtain ⟨l, vs, h0, h1, h2, h4⟩ := h
    exact ⟨l, _, h0, h1, h4⟩
  | bdk xs =>
    obtain ⟨l, vs, h0, h1, h2, h4⟩ := h
    rcases h1 with h1 | ⟨o, h1⟩
    · exact ⟨l, _, h0, h1, h4⟩
    · exact ⟨l, _, h0, h1, h4⟩
  | olk p xs =>
    obtain ⟨_, _, h0, h1, h2, h3, h4⟩ := h
    exact ⟨_, _, h0, h1, h4⟩
  | blk p xs =>
    obtain ⟨_, _, h0, h1, h2, h4⟩ := h
    exact ⟨_, _, h0, h1, h4⟩
  | odt a xs =>
    obtain ⟨h0, vs, h1, h2, h3, h4⟩ := h
    exact ⟨_, _, h0, h1, h4⟩
  | bdt a xs =>
    obtain ⟨h0, vs, h1, h2, h4⟩ := h
    rcases h1 with h1 | ⟨o, h1⟩ <;> exact ⟨_, _, h0, h1, h4⟩
  | ins a nm fs =>
    obtain ⟨h0, C, dx, us, h1, _, _, _, _, h4⟩ := h
    exact ⟨_, _, h0, h1, h4⟩
  | _ => cases ho
theorem Good.get (g : Good G F δ σ H) {i : Nat} (e : δ[i]? = some (some dv)) : ∃ v, σ[i]? = some (some v) ∧ VOk G F H v dv := g.sl i dv e
theorem Good.top (g : Good G F (δ ++ [some dv]) (σ ++ [some v]) H) : VOk G F H v dv := by
  have hl : δ.length = σ.length := by
    have := g.len
    simpa using this
  obtain ⟨w, e, h⟩ := g.sl δ.length dv (by simp)
  rw [hl] at e
  simp at e
  subst e
  exact h
theorem Good.pop {x : Option DV} {y : Option V} (g : Good G F (δ ++ [x]) (σ ++ [y]) H) : Good G F δ σ H := by
  have hl : δ.length = σ.length := by
    have := g.len
    simpa using this
  have inD : ∀ {i : Nat} {z : DV}, δ[i]? = some (some z) → i < δ.length := fun {i z} e => (List.getElem?_eq_some_iff.mp e).1
  refine ⟨g.g, hl, g.f0, g.fh, g.fr, g.bh, g.cf, g.jh, fun i z e => ?_, fun i j a b l ha hb e1 e2 e3 e4 => ?_⟩
  · obtain ⟨w, e', h⟩ := g.sl i z (by rw [List.getElem?_append_left (inD e)]; exact e)
    rw [List.getElem?_append_left (by rw [← hl]; exact inD e)] at e'
    exact ⟨w, e', h⟩
  · exact g.di i j a b l ha hb (by rw [List.getElem?_append_left (inD e1)]; exact e1) (by rw [List.getElem?_append_left (inD e2)]; exact e2)
      (by rw [List.getElem?_append_left (by rw [← hl]; exact inD e1)]; exact e3) (by rw [List.getElem?_append_left (by rw [← hl]; exact inD e2)]; exact e4)
theorem Good.push (g : Good G F δ σ H) (h : VOk G F H v dv) (hd : dv.isOwn = true → ∀ (i : Nat) (x : DV), x.isOwn = true → δ[i]? = some (some x) → σ[i]? ≠ some (some v)) : Good G F (δ ++ [some dv]) (σ ++ [some v]) H := by
  have hl := g.len
  have cut : ∀ {α : Type} {l : List α} {a : α} {i : Nat} {z : α}, (l ++ [a])[i]? = some z → (i < l.length ∧ l[i]? = some z) ∨ (i = l.length ∧ a = z) := fun {α l a i z} e => by
    rcases Nat.lt_trichotomy i l.length with q | q | q
    · rw [List.getElem?_append_left q] at e
      exact .inl ⟨q, e⟩
    · subst q
      simp at e
      exact .inr ⟨rfl, e⟩
    · have : (l ++ [a])[i]? = none := List.getElem?_eq_none_iff.mpr (by simp; omega)
      rw [this] at e
      cases e
  refine ⟨g.g, by simp [hl], g.f0, g.fh, g.fr, g.bh, g.cf, g.jh, fun i z e => ?_, fun i j a b l ha hb e1 e2 e3 e4 => ?_⟩
  · rcases cut e with ⟨q, e⟩ | ⟨q, e⟩
    · obtain ⟨w, e', hw⟩ := g.sl i z e
      exact ⟨w, by rw [List.getElem?_append_left (by omega)]; exact e', hw⟩
    · cases e
      exact ⟨v, by rw [q, hl]; simp, h⟩
  · rcases cut e1 with ⟨q1, e1⟩ | ⟨q1, e1⟩
    · rw [List.getElem?_append_left (by omega)] at e3
      rcases cut e2 with ⟨q2, e2⟩ | ⟨q2, e2⟩
      · rw [List.getElem?_append_left (by omega)] at e4
        exact g.di i j a b l ha hb e1 e2 e3 e4
      · cases e2
        rw [q2, hl] at e4
        simp at e4
        subst e4
        exact absurd e3 (hd hb i a ha e1)
    · cases e1
      rw [q1, hl] at e3
      simp at e3
      subst e3
      rcases cut e2 with ⟨q2, e2⟩ | ⟨q2, e2⟩
      · rw [List.getElem?_append_left (by omega)] at e4
        exact absurd e4 (hd ha j b hb e2)
      · omega
theorem Good.pushD (g : Good G F δ σ H) {x : PyData} (h : At G.K F v x) : Good G F (δ ++ [some (.d x)]) (σ ++ [some v]) H := g.push h (fun z => by cases z)
theorem Good.grow (g : Good G F δ σ H) {p : Addr} {o : HO} (hp : H p = none) : Good G (upd F p o) δ σ (upd H p o) := by
  have fp : F p = none := by
    cases q : F p with
    | none => rfl
    | some u => rw [g.fh _ _ q] at hp; cases hp
  have cp : ¬ G.C p := fun c => g.g.jn _ H g.jh p c hp
  have bp : G.B p = none := by
    cases q : G.B p with
    | none => rfl
    | some u => rw [g.bh _ _ cp q] at hp; cases hp
  have hF : Same F (upd F p o) := fun b u e => by rw [upd_ne (ne_of_none e fp)]; exact e
  refine ⟨g.g, g.len, g.f0.trans hF, fun b u e => ?_, fun b e1 e2 => ?_, fun b u c e => ?_, fun b c => ?_, g.g.js _ _ _ g.jh (fun b c => ?_) (fun b x e => by rw [upd_ne (ne_of_none e hp)]; exact e), fun i z e => ?_, g.di⟩
  · by_cases q : b = p
    · subst q
      rw [upd_same] at e ⊢
      exact e
    · rw [upd_ne q] at e ⊢
      exact g.fh _ _ e
  · by_cases q : b = p
    · subst q
      exact .inl bp
    · rw [upd_ne q] at e1 ⊢
      exact g.fr b e1 e2
  · rw [upd_ne (ne_of_none (g.bh _ _ c e) hp)]
    exact g.bh _ _ c e
  · have q : b ≠ p := fun z => cp (z ▸ c)
    rw [upd_ne q]
    exact g.cf b c
  · exact upd_ne (fun z => cp (z ▸ c))
  · obtain ⟨w, e', h⟩ := g.sl i z e
    refine ⟨w, e', h.keep hF (fun l vs _ _ hl => by rw [upd_ne (ne_of_none hl hp)]; exact hl) fun l ho hv hl => ?_⟩
    obtain ⟨l', o', q1, q2, _⟩ := own_at h ho
    rw [hv] at q1
    cases q1
    rw [upd_ne (ne_of_none q2 hp)]
    exact hl
theorem Good.newT (g : Good G F δ σ H) {p : Addr} {vs : List V} {ds : List PyData} (hp : H p = none) (h : AtL G.K F vs ds) : Good G (upd F p (.tup vs)) (δ ++ [some (.d (.tuple ds))]) (σ ++ [some (.ref p)]) (upd H p (.tup vs)) := by
  have fp : F p = none := by
    cases q : F p with
    | none => rfl
    | some u => rw [g.fh _ _ q] at hp; cases hp
  have hF : Same F (upd F p (.tup vs)) := fun b u e => by rw [upd_ne (ne_of_none e fp)]; exact e
  exact (g.grow (o := .tup vs) hp).pushD (.tup upd_same (AtL.mono hF _ _ h))
theorem Good.newG (g : Good G F δ σ H) {p : Addr} {o : HO} {y : DV} (hp : H p = none) (h : ∀ H' : Hp, H' p = some o → F p = none → G.B p = none → VOk G F H' (.ref p) y) : Good G F (δ ++ [some y]) (σ ++ [some (.ref p)]) (upd H p o) := by
  have fp : F p = none := by
    cases q : F p with
    | none => rfl
    | some u => rw [g.fh _ _ q] at hp; cases hp
  have cp : ¬ G.C p := fun c => g.g.jn _ H g.jh p c hp
  have bp : G.B p = none := by
    cases q : G.B p with
    | none => rfl
    | some u => rw [g.bh _ _ cp q] at hp; cases hp
  have g1 : Good G F δ σ (upd H p o) := by
    refine ⟨g.g, g.len, g.f0, fun b u e => ?_, g.fr, fun b u c e => ?_, g.cf, g.g.js _ _ _ g.jh (fun b c => upd_ne (fun z => cp (z ▸ c))) (fun b x e => by rw [upd_ne (ne_of_none e hp)]; exact e), fun i z e => ?_, g.di⟩
    · rw [upd_ne (ne_of_none (g.fh _ _ e) hp)]
      exact g.fh _ _ e
    · rw [upd_ne (ne_of_none (g.bh _ _ c e) hp)]
      exact g.bh _ _ c e
    · obtain ⟨w, e', h'⟩ := g.sl i z e
      exact ⟨w, e', h'.keep (fun _ _ q => q) (fun l vs _ _ hl => by rw [upd_ne (ne_of_none hl hp)]; exact hl) fun l _ _ hl => hl⟩
  refine g1.push (h _ upd_same fp bp) fun _ i x hx e q => ?_
  obtain ⟨w, e', h'⟩ := g.sl i x e
  rw [q] at e'
  cases e'
  obtain ⟨l, o', q1, q2, _⟩ := own_at h' hx
  cases q1
  rw [hp] at q2
  cases q2
theorem Good.newO (g : Good G F δ σ H) {p : Addr} {vs : List V} {ds : List PyData} (hp : H p = none) (h : AtL G.K F vs ds) : Good G F (δ ++ [some (.own ds)]) (σ ++ [some (.ref p)]) (upd H p (.lst vs)) :=
  g.newG hp fun H' e f b => ⟨p, vs, rfl, e, h, f, b⟩
theorem Good.newK (g : Good G F δ σ H) {p : Addr} {kvs : List (Key × V)} {ks : List (PyData × PyData)} (hp : H p = none) (h : AtKv G.K F kvs ks) : Good G F (δ ++ [some (.odk ks)]) (σ ++ [some (.ref p)]) (upd H p (.dK kvs)) :=
  g.newG hp fun H' e f b => ⟨p, kvs, rfl, e, h, f, b⟩
theorem get_set {α : Type} {l : List α} {i j : Nat} {a z : α} (e : (l.set i a)[j]? = some z) : (j = i ∧ a = z ∧ i < l.length) ∨ (j ≠ i ∧ l[j]? = some z) := by
  by_cases q : j = i
  · subst q
    have hj : j < l.length := by
      have := (List.getElem?_eq_some_iff.mp e).1
      simpa using this
    rw [List.getElem?_set_self hj] at e
    cases e
    exact .inl ⟨rfl, rfl, hj⟩
  · rw [List.getElem?_set_ne (fun z => q z.symm)] at e
    exact .inr ⟨q, e⟩
theorem Good.setTop (g : Good G F (δ ++ [some dv]) (σ ++ [some v]) H) {i : Nat} (hi : i < δ.length) : Good G F (δ.set i (some dv)) (σ.set i (some v)) H := by
  have hl : δ.length = σ.length := by
    have := g.len
    simpa using this
  have q := g.pop
  have low : ∀ {j : Nat} {z : DV}, δ[j]? = some (some z) → (δ ++ [some dv])[j]? = some (some z) := fun {j z} e => by
    rw [List.getElem?_append_left (List.getElem?_eq_some_iff.mp e).1]; exact e
  have lowS : ∀ {j : Nat} {z : V}, σ[j]? = some (some z) → (σ ++ [some v])[j]? = some (some z) := fun {j z} e => by
    rw [List.getElem?_append_left (List.getElem?_eq_some_iff.mp e).1]; exact e
  have topD : (δ ++ [some dv])[δ.length]? = some (some dv) := by simp
  have topS : (σ ++ [some v])[δ.length]? = some (some v) := by rw [hl]; simp
  refine ⟨g.g, by simp [hl], g.f0, g.fh, g.fr, g.bh, g.cf, g.jh, fun j z e => ?_, fun j k a b l ha hb e1 e2 e3 e4 => ?_⟩
  · rcases get_set e with ⟨rfl, e', hj⟩ | ⟨hj, e'⟩
    · cases e'
      exact ⟨v, List.getElem?_set_self (by omega), g.top⟩
    · obtain ⟨w, h1, h2⟩ := q.sl j z e'
      exact ⟨w, by rw [List.getElem?_set_ne (fun z => hj z.symm)]; exact h1, h2⟩
  · rcases get_set e1 with ⟨rfl, f1, _⟩ | ⟨h1, f1⟩
    · cases f1
      rcases get_set e2 with ⟨rfl, f2, _⟩ | ⟨h2, f2⟩
      · rfl
      · rw [List.getElem?_set_self (by omega)] at e3
        cases e3
        rw [List.getElem?_set_ne (fun z => h2 z.symm)] at e4
        have r := g.di _ _ _ _ l ha hb topD (low f2) topS (lowS e4)
        have := (List.getElem?_eq_some_iff.mp f2).1
        omega
    · rw [List.getElem?_set_ne (fun z => h1 z.symm)] at e3
      rcases get_set e2 with ⟨rfl, f2, _⟩ | ⟨h2, f2⟩
      · cases f2
        rw [List.getElem?_set_self (by omega)] at e4
        cases e4
        have r := g.di _ _ _ _ l ha hb (low f1) topD (lowS e3) topS
        have := (List.getElem?_eq_some_iff.mp f1).1
        omega
      · rw [List.getElem?_set_ne (fun z => h2 z.symm)] at e4
        exact q.di _ _ _ _ l ha hb f1 f2 e3 e4
theorem own_nc (g : Good G F δ σ H) {l : Addr} (h : G.B l = none) : ¬ G.C l := fun c => g.g.cb l c h
theorem Good.freezeG (g : Good G F δ σ H) {n : Nat} {x : DV} {y : PyData} (ho : x.isOwn = true) (e : δ[n]? = some (some x)) (hx : ∀ v F' l o, VOk G F H v x → v = .ref l → H l = some o → Same F F' → F' l = some o → At G.K F' v y) : ∃ F', Same F F' ∧ Good G F' (δ.set n (some (.d y))) σ H := by
  obtain ⟨v, ev, hv⟩ := g.sl n _ e
  obtain ⟨l, o, rfl, h1, h3, h4⟩ := own_at hv ho
  have hn : n < δ.length := (List.getElem?_eq_some_iff.mp e).1
  have hF : Same F (upd F l o) := fun b u q => by rw [upd_ne (ne_of_none q h3)]; exact q
  have cl := own_nc g h4
  refine ⟨upd F l o, hF, g.g, by simpa using g.len, g.f0.trans hF, fun b u q => ?_, fun b q1 q2 => ?_, g.bh, fun b c => ?_, g.jh, fun i z q => ?_, fun i j a b p ha hb e1 e2 e3 e4 => ?_⟩
  · by_cases hb : b = l
    · subst hb
      rw [upd_same] at q
      cases q
      exact h1
    · rw [upd_ne hb] at q
      exact g.fh _ _ q
  · by_cases hb : b = l
    · subst hb
      exact .inl h4
    · rw [upd_ne hb] at q1 ⊢
      exact g.fr b q1 q2
  · rw [upd_ne (fun z : b = l => cl (z ▸ c))]
    exact g.cf b c
  · rcases get_set q with ⟨rfl, q', _⟩ | ⟨hi, q'⟩
    · cases q'
      exact ⟨_, ev, hx _ _ l o hv rfl h1 hF upd_same⟩
    · obtain ⟨w, ew, hw⟩ := g.sl i z q'
      refine ⟨w, ew, hw.keep hF (fun _ _ _ _ q => q) fun p hz hq hp => ?_⟩
      by_cases hpl : p = l
      · subst hpl
        subst hq
        exact absurd (g.di i n z _ p hz ho q' e ew ev) hi
      · rw [upd_ne hpl]
        exact hp
  · have back : ∀ {i : Nat} {z : DV}, z.isOwn = true → (δ.set n (some (.d y)))[i]? = some (some z) → δ[i]? = some (some z) := fun {i z} ho q => by
      rcases get_set q with ⟨rfl, q', _⟩ | ⟨_, q'⟩
      · cases q'
        cases ho
      · exact q'
    exact g.di i j a b p ha hb (back ha e1) (back hb e2) e3 e4
theorem Good.freeze (g : Good G F δ σ H) {n : Nat} {xs : List PyData} (e : δ[n]? = some (some (.own xs))) : ∃ F', Same F F' ∧ Good G F' (δ.set n (some (.d (.list xs)))) σ H :=
  g.freezeG rfl e fun v F' l o h ev eo hs hl => by
    obtain ⟨l', vs, e1, e2, e3, _⟩ := h
    subst e1
    cases ev
    rw [eo] at e2
    cases e2
    exact .lst hl (AtL.mono hs _ _ e3)
theorem Good.freezeK (g : Good G F δ σ H) {n : Nat} {xs : List (PyData × PyData)} (e : δ[n]? = some (some (.odk xs))) : ∃ F', Same F F' ∧ Good G F' (δ.set n (some (.d (.dict xs)))) σ H :=
  g.freezeG rfl e fun v F' l o h ev eo hs hl => by
    obtain ⟨l', vs, e1, e2, e3, _⟩ := h
    subst e1
    cases ev
    rw [eo] at e2
    cases e2
    exact .dct (.inl hl) (AtKv.mono hs _ _ e3)
theorem Good.freezeL (g : Good G F δ σ H) {n : Nat} {p : Unit → LkP} {xs : List (PyData × PyData)} (e : δ[n]? = some (some (.olk p xs))) : ∃ F', Same F F' ∧ Good G F' (δ.set n (some (.d (.dict xs)))) σ H :=
  g.freezeG rfl e fun v F' l o h ev eo hs hl => by
    obtain ⟨_, _, e1, e2, e3, _⟩ := h
    subst e1
    cases ev
    rw [eo] at e2
    cases e2
    exact .dct (.inr ⟨_, hl⟩) (AtKv.mono hs _ _ e3)
def NoBor (δ : Env) : Prop := ∀ (i : Nat) (x : DV), δ[i]? = some (some x) → x.isBor = false
theorem Good.writeG (g : Good G F δ σ H) {n : Nat} {x y : DV} {l : Addr} {o : HO} (hx : x.isOwn = true) (hy : y.isOwn = true) (nb : ∀ (j : Nat) (x : DV), δ[j]? = some (some x) → x.isBor = true → σ[j]? ≠ some (some (.ref l))) (e : δ[n]? = some (some x)) (el : σ[n]? = some (some (.ref l)))
    (h : ∀ H' : Hp, H' l = some o → F l = none → G.B l = none → VOk G F H' (.ref l) y) : Good G F (δ.set n (some y)) σ (upd H l o) := by
  obtain ⟨v, ev, hv⟩ := g.sl n _ e
  obtain ⟨l', o', rfl, h1, h3, h4⟩ := own_at hv hx
  rw [ev] at el
  cases el
  have hn : n < δ.length := (List.getElem?_eq_some_iff.mp e).1
  have cl := own_nc g h4
  refine ⟨g.g, by simpa using g.len, g.f0, fun b u q => ?_, g.fr, fun b u c q => ?_, g.cf, g.g.js _ _ _ g.jh (fun b c => upd_ne (fun z => cl (z ▸ c))) (fun b φ e => (upd_ne (fun z => own_ne hv hx φ (by rw [← z]; exact e))).trans e), fun i z q => ?_, fun i j a b p ha hb e1 e2 e3 e4 => ?_⟩
  · rw [upd_ne (ne_of_none q h3)]
    exact g.fh _ _ q
  · rw [upd_ne (ne_of_none q h4)]
    exact g.bh _ _ c q
  · rcases get_set q with ⟨rfl, q', _⟩ | ⟨hi, q'⟩
    · cases q'
      exact ⟨_, ev, h _ upd_same h3 h4⟩
    · obtain ⟨w, ew, hw⟩ := g.sl i z q'
      refine ⟨w, ew, hw.keep (Same.refl F) (fun p vs ho hq hp => ?_) fun _ _ _ q => q⟩
      by_cases hpl : p = l
      · subst hpl
        subst hq
        cases hz : z.isOwn with
        | true => exact absurd (g.di i n z _ p hz hx q' e ew ev) hi
        | false =>
          rw [hz, Bool.false_or] at ho
          exact absurd ew (nb i z q' ho)
      · rw [upd_ne hpl]
        exact hp
  · have back : ∀ {i : Nat} {z : DV}, z.isOwn = true → (δ.set n (some y))[i]? = some (some z) → ∃ z', z'.isOwn = true ∧ δ[i]? = some (some z') := fun {i z} ho q => by
      rcases get_set q with ⟨rfl, q', _⟩ | ⟨_, q'⟩
      · exact ⟨_, hx, e⟩
      · exact ⟨z, ho, q'⟩
    obtain ⟨a', ha', f1⟩ := back ha e1
    obtain ⟨b', hb', f2⟩ := back hb e2
    exact g.di i j a' b' p ha' hb' f1 f2 e3 e4
theorem Good.write' (g : Good G F δ σ H) {n : Nat} {xs ys : List PyData} {l : Addr} {ws : List V} (nb : ∀ (j : Nat) (x : DV), δ[j]? = some (some x) → x.isBor = true → σ[j]? ≠ some (some (.ref l))) (e : δ[n]? = some (some (.own xs))) (el : σ[n]? = some (some (.ref l))) (h : AtL G.K F ws ys) :
    Good G F (δ.set n (some (.own ys))) σ (upd H l (.lst ws)) := g.writeG rfl rfl nb e el fun H' q f b => ⟨l, ws, rfl, q, h, f, b⟩
theorem Good.write (g : Good G F δ σ H) (nb : NoBor δ) {n : Nat} {xs ys : List PyData} {l : Addr} {ws : List V} (e : δ[n]? = some (some (.own xs))) (el : σ[n]? = some (some (.ref l))) (h : AtL G.K F ws ys) :
    Good G F (δ.set n (some (.own ys))) σ (upd H l (.lst ws)) := g.write' (fun j x q b => by rw [nb j x q] at b; cases b) e el h
theorem Good.writeK' (g : Good G F δ σ H) {n : Nat} {xs ys : List (PyData × PyData)} {l : Addr} {kvs : List (Key × V)} (nb : ∀ (j : Nat) (x : DV), δ[j]? = some (some x) → x.isBor = true → σ[j]? ≠ some (some (.ref l))) (e : δ[n]? = some (some (.odk xs))) (el : σ[n]? = some (some (.ref l))) (h : AtKv G.K F kvs ys) :
    Good G F (δ.set n (some (.odk ys))) σ (upd H l (.dK kvs)) := g.writeG rfl rfl nb e el fun H' q f b => ⟨l, kvs, rfl, q, h, f, b⟩
theorem Good.writeK (g : Good G F δ σ H) (nb : NoBor δ) {n : Nat} {xs ys : List (PyData × PyData)} {l : Addr} {kvs : List (Key × V)} (e : δ[n]? = some (some (.odk xs))) (el : σ[n]? = some (some (.ref l))) (h : AtKv G.K F kvs ys) :
    Good G F (δ.set n (some (.odk ys))) σ (upd H l (.dK kvs)) := g.writeK' (fun j x q b => by rw [nb j x q] at b; cases b) e el h
def DV.arg : DV → Bool
  | .d _ => true
  | .cask => true
  | .raw _ => true
  | .scr _ => true
  | .fvs _ _ => true
  | _ => false
def Gm.into (G : Gm) (F H : Hp) : Gm := { G with F0 := F, B := H }
theorem Good.into (g : Good G F δ σ H) {as : List DV} {vs : List V} (ha : ∀ x ∈ as, x.arg = true) (hl : as.length = vs.length) (h : ∀ (i : Nat) (x : DV), as[i]? = some x → ∃ v, vs[i]? = some v ∧ VOk G F H v x) :
    Good (G.into F H) F (as.map some) (vs.map some) H := by
  refine ⟨⟨g.g.js, g.g.jm, g.g.jn, fun p c => g.g.jn _ H g.jh p c, g.g.jt⟩, by simpa using hl, Same.refl F, g.fh, fun p q1 q2 => absurd q2 q1, fun p o _ q => q, g.cf, g.jh, fun i x e => ?_, fun i j a b l hx _ e1 _ _ _ => ?_⟩
  · rw [List.getElem?_map] at e
    cases q : as[i]? with
    | none => rw [q] at e; cases e
    | some y =>
      rw [q] at e
      cases e
      obtain ⟨v, e1, e2⟩ := h i x q
      have hm := ha x (List.mem_of_getElem? q)
      refine ⟨v, by rw [List.getElem?_map, e1]; rfl, ?_⟩
      cases x with
      | d _ => exact e2
      | cask => exact e2
      | raw _ => exact e2
      | scr _ => exact e2
      | fvs _ _ => exact e2
      | _ => cases hm
  · rw [List.getElem?_map] at e1
    cases q : as[i]? with
    | none => rw [q] at e1; cases e1
    | some y =>
      rw [q] at e1
      cases e1
      have hm := ha a (List.mem_of_getElem? q)
      cases a with
      | own _ => cases hm
      | odk _ => cases hm
      | olk _ _ => cases hm
      | odt _ _ => cases hm
      | ins _ _ _ => cases hm
      | _ => cases hx
theorem vok_up {u : Nat} : VOk (G.up u) F H v dv = VOk G F H v dv := by cases dv <;> rfl
theorem Gm.Ok.up (h : G.Ok) (u : Nat) : (G.up u).Ok := ⟨h.js, h.jm, h.jn, h.cb, h.jt⟩
theorem Good.mono {a b : Nat} (g : Good (G.up a) F δ σ H) (h : a ≤ b) : Good (G.up b) F δ σ H :=
  ⟨⟨g.g.js, g.g.jm, g.g.jn, g.g.cb, g.g.jt⟩, g.len, g.f0, g.fh, g.fr, g.bh, g.cf, g.g.jm _ _ _ (Nat.add_le_add_left h _) g.jh, fun i z e => by
    obtain ⟨w, ew, hw⟩ := g.sl i z e
    exact ⟨w, ew, by rw [vok_up] at hw ⊢; exact hw⟩, g.di⟩
theorem Good.later (g : Good G F δ σ H) (u : Nat) : Good (G.up u) F δ σ H := Good.mono (a := 0) g (Nat.zero_le u)
theorem Good.back {u : Nat} (g : Good G F δ σ H) {δ₁ : Env} {σ₁ : L2.St} (g' : Good ((G.into F H).up u) F' δ₁ σ₁ H') : Good (G.up u) F' δ σ H' := by
  have fr' : ∀ p, F' p ≠ none → F p = none → H p = none ∨ ∃ vs, F' p = some (.tup vs) := g'.fr
  have bh' : ∀ p o, ¬ G.C p → H p = some o → H' p = some o := g'.bh
  refine ⟨g.g.up u, g.len, g.f0.trans g'.f0, g'.fh, fun p q1 q2 => ?_, fun p o c q => bh' p o c (g.bh p o c q), g'.cf, g'.jh, fun i z e => ?_, g.di⟩
  · cases q : F p with
    | some u =>
      rcases g.fr p (by rw [q]; simp) q2 with h | ⟨vs, h⟩
      · exact .inl h
      · exact .inr ⟨vs, g'.f0 _ _ h⟩
    | none =>
      rcases fr' p q1 q with hn | hn
      · left
        cases r : G.B p with
        | none => rfl
        | some u =>
          by_cases c : G.C p
          · exact absurd hn (g.g.jn _ H g.jh p c)
          · rw [g.bh p u c r] at hn
            cases hn
      · exact .inr hn
  · obtain ⟨w, ew, hw⟩ := g.sl i z e
    refine ⟨w, ew, by
      rw [vok_up]
      refine hw.keep g'.f0 (fun l vs ho hv hl => ?_) fun l ho hv hl => ?_
      · refine bh' l _ ?_ hl
        obtain ⟨l', _, r1, _, r5⟩ := bor_at hw ho
        rw [hv] at r1; cases r1; exact own_nc g r5
      · cases q : F' l with
        | none => rfl
        | some u =>
          obtain ⟨l', o', r1, r2, _, r5⟩ := own_at hw ho
          rw [hv] at r1; cases r1
          rcases fr' l (by rw [q]; simp) hl with hn | ⟨vs, hn⟩
          · rw [hn] at r2; cases r2
          · have h1 := g'.fh _ _ hn
            have h2 := bh' l _ (own_nc g r5) r2
            rw [h1] at h2
            cases h2
            exact absurd rfl (own_nt hw ho hv r2 vs)⟩
theorem Good.ret {u : Nat} (g : Good G F δ σ H) {r : DV} {δ₁ : Env} {σ₁ : L2.St} (hr : r.arg = true) (g' : Good ((G.into F H).up u) F' (δ₁ ++ [some r]) (σ₁ ++ [some v]) H') : Good (G.up u) F' (δ ++ [some r]) (σ ++ [some v]) H' := by
  refine (g.back g').push ?_ (fun z => ?_)
  · have := g'.top
    cases r with
    | d _ => exact this
    | cask => exact this
    | raw _ => exact this
    | scr _ => exact this
    | fvs _ _ => exact this
    | _ => cases hr
  · cases r with
    | own _ => cases hr
    | odk _ => cases hr
    | olk _ _ => cases hr
    | odt _ _ => cases hr
    | ins _ _ _ => cases hr
    | _ => cases z
def DV.fix : DV → DV
  | .own xs => .d (.list xs)
  | .bor xs => .d (.list xs)
  | .odk xs => .d (.dict xs)
  | .bdk xs => .d (.dict xs)
  | .olk _ xs => .d (.dict xs)
  | .blk _ xs => .d (.dict xs)
  | .ldk _ xs => .d (.dict xs)
  | .exc a _ _ _ => .raw (.ref a)
  | .odt a _ => .raw (.ref a)
  | .bdt a _ => .raw (.ref a)
  | .ldt p _ => .raw (.ref (p ()).a)
  | .ins a _ _ => .raw (.ref a)
  | x => x
theorem Good.last (g : Good G F (δ ++ [some dv]) (σ ++ [some v]) H) : Good G F [some dv] [some v] H := by
  have t := g.top
  refine ⟨g.g, rfl, g.f0, g.fh, g.fr, g.bh, g.cf, g.jh, fun i z e => ?_, fun i j a b l _ _ e1 e2 _ _ => ?_⟩
  · match i, e with
    | 0, e => cases e; exact ⟨v, rfl, t⟩
    | i + 1, e => simp at e
  · match i, j, e1, e2 with
    | 0, 0, _, _ => rfl
    | i + 1, _, e1, _ => simp at e1
    | 0, j + 1, _, e2 => simp at e2
theorem Good.asOwn (q : Good G F [some dv] [some v] H) {x : DV} (h : VOk G F H v x) : Good G F [some x] [some v] H := by
  refine ⟨q.g, rfl, q.f0, q.fh, q.fr, q.bh, q.cf, q.jh, fun i z e => ?_, fun i j a b l _ _ e1 e2 _ _ => ?_⟩
  · match i, e with
    | 0, e => cases e; exact ⟨_, rfl, h⟩
    | i + 1, e => simp at e
  · match i, j, e1, e2 with
    | 0, 0, _, _ => rfl
    | i + 1, _, e1, _ => simp at e1
    | 0, j + 1, _, e2 => simp at e2
theorem Good.fixLast (g : Good G F (δ ++ [some dv]) (σ ++ [some v]) H) : ∃ F', Same F F' ∧ Good G F' [some dv.fix] [some v] H := by
  have q := g.last
  cases dv with
  | own xs => exact q.freeze (n := 0) rfl
  | odk xs => exact q.freezeK (n := 0) rfl
  | bor xs =>
    obtain ⟨l, vs, rfl, h1, h2, h4⟩ := g.top
    cases h3 : F l with
    | none => exact (q.asOwn (x := .own xs) ⟨l, vs, rfl, h1, h2, h3, h4⟩).freeze (n := 0) rfl
    | some u =>
      have hu := g.fh _ _ h3
      rw [h1] at hu
      cases hu
      exact ⟨F, Same.refl F, q.asOwn (x := .d (.list xs)) (.lst h3 h2)⟩
  | olk p xs => exact q.freezeL (n := 0) rfl
  | ldk p xs =>
    obtain ⟨_, _, rfl, h1, h2⟩ := g.top
    exact ⟨F, Same.refl F, q.asOwn (x := .d (.dict xs)) (.dct (.inr ⟨_, h1⟩) h2)⟩
  | blk p xs =>
    obtain ⟨_, _, rfl, h1, h2, h4⟩ := g.top
    cases h3 : F (p ()).a with
    | none => exact (q.asOwn (x := .olk p xs) ⟨_, rfl, rfl, h1, h2, h3, h4⟩).freezeL (n := 0) rfl
    | some u =>
      have hu := g.fh _ _ h3
      rw [h1] at hu
      cases hu
      exact ⟨F, Same.refl F, q.asOwn (x := .d (.dict xs)) (.dct (.inr ⟨_, h3⟩) h2)⟩
  | bdk xs =>
    obtain ⟨l, vs, rfl, h1, h2, h4⟩ := g.top
    cases h3 : F l with
    | none =>
      rcases h1 with h1 | ⟨o, h1⟩
      · exact (q.asOwn (x := .odk xs) ⟨l, vs, rfl, h1, h2, h3, h4⟩).freezeK (n := 0) rfl
      · exact (q.asOwn (x := .olk (fun _ => ⟨l, o, vs⟩) xs) ⟨_, rfl, rfl, h1, h2, h3, h4⟩).freezeL (n := 0) rfl
    | some u =>
      have hu := g.fh _ _ h3
      rcases h1 with h1 | ⟨o, h1⟩
      · rw [h1] at hu
        cases hu
        exact ⟨F, Same.refl F, q.asOwn (x := .d (.dict xs)) (.dct (.inl h3) h2)⟩
      · rw [h1] at hu
        cases hu
        exact ⟨F, Same.refl F, q.asOwn (x := .d (.dict xs)) (.dct (.inr ⟨_, h3⟩) h2)⟩
  | d x => exact ⟨F, Same.refl F, q⟩
  | cask => exact ⟨F, Same.refl F, q⟩
  | raw u => exact ⟨F, Same.refl F, q⟩
  | scr _ => exact ⟨F, Same.refl F, q⟩
  | fvs _ _ => exact ⟨F, Same.refl F, q⟩
  | exc a C d arg => exact ⟨F, Same.refl F, q.asOwn (x := .raw (.ref a)) g.top.1⟩
  | odt a ks => exact ⟨F, Same.refl F, q.asOwn (x := .raw (.ref a)) g.top.1⟩
  | bdt a ks => exact ⟨F, Same.refl F, q.asOwn (x := .raw (.ref a)) g.top.1⟩
  | ins a nm fs => exact ⟨F, Same.refl F, q.asOwn (x := .raw (.ref a)) g.top.1⟩
  | ldt p ks =>
    obtain ⟨_, _, h0, _⟩ := g.top
    exact ⟨F, Same.refl F, q.asOwn (x := .raw (.ref (p ()).a)) h0⟩
theorem fix_arg (dv : DV) : dv.fix.arg = true := by cases dv <;> rfl
end
end DL
namespace DL
open PySem PySem.Spec L2
def ExcAt (K : PySem.W.Frag) (mg : Str → Option Value) (F H : Hp) (e : DExc) (cls : Value) (d : Option Addr) : Prop :=
  ∃ C, mg e.cls = some (.ref C) ∧ cls = .ref C ∧ match e.arg with
    | none => d = none
    | some (f, x) => ∃ dd v, d = some dd ∧ F dd = some (.xd [(f, v)]) ∧ At K F v x
abbrev XD := DExc → Env → Prop
abbrev ME := XD → Env → (DV → Prop) → Prop
abbrev MT := XD → Env → (Bool → Prop) → Prop
abbrev MA := XD → Env → (List DV → Prop) → Prop
abbrev MG := DV → Env → (Env → Prop) → Prop
structure DEnds where
  nx : Env → Prop
  rt : DV → Prop
  bk : Env → Prop
  ct : Env → Prop
  /-- left by a return that tells the slots too -/
  ro : DV → Env → Prop := fun _ _ => False
abbrev MS := XD → DEnds → Env → Prop
abbrev MF := List DV → (DV → Prop) → (DExc → Prop) → Prop
structure WC where
  w : WX
  ck : (Addr → Prop) → V → (Nat → Hp → Prop) → Nat → Prop
def Link (K : PySem.W.Frag) (mg : Str → Option Value) (W : WC) (u : Nat) (G : Gm) (τ : Env) (ts : L2.St) (ex : XD) : Prop :=
  ∀ (b : Nat) (F : Hp) (δ : Env) (σ : L2.St) (H : Hp) (τ1 : Env) (ts1 : L2.St) (e : DExc) (cls : Value) (d : Option Addr), b ≤ u → δ.length = σ.length → Good (G.up b) F (δ ++ τ ++ τ1) (σ ++ ts ++ ts1) H → ExcAt K mg F H e cls d → ex e δ → W.w cls d σ H
structure Now (K : PySem.W.Frag) (mg : Str → Option Value) (W : WC) (u : Nat) (ex : XD) (G : Gm) (F : Hp) (δ : Env) (σ : L2.St) (τ : Env) (ts : L2.St) (τ1 : Env) (ts1 : L2.St) (H : Hp) : Prop where
  k : G.K = K
  l1 : δ.length = σ.length
  l2 : τ.length = ts.length
  good : Good G F (δ ++ τ ++ τ1) (σ ++ ts ++ ts1) H
  link : Link K mg W u G τ ts ex
  ck : W.ck G.C G.cv G.J G.lim ∧ G.n + u ≤ G.lim
def liftE (K : PySem.W.Frag) (mg : Str → Option Value) (W : WC) (u : Nat) (m : ME) : TE := fun σ H Q => ∃ (ex : XD) (G : Gm) (F : Hp) (δ τ : Env) (ts : L2.St) (τ1 : Env) (ts1 : L2.St) (R : DV → Prop), Now K mg W u ex G F δ σ τ ts τ1 ts1 H ∧ m ex δ R ∧
  ∀ r, R r → ∀ v F' H', Good (G.up u) F' (δ ++ τ ++ τ1 ++ [some r]) (σ ++ ts ++ ts1 ++ [some v]) H' → Q v H'
def liftT (K : PySem.W.Frag) (mg : Str → Option Value) (W : WC) (u : Nat) (m : MT) : TT := fun σ H Q => ∃ (ex : XD) (G : Gm) (F : Hp) (δ τ : Env) (ts : L2.St) (τ1 : Env) (ts1 : L2.St) (R : Bool → Prop), Now K mg W u ex G F δ σ τ ts τ1 ts1 H ∧ m ex δ R ∧
  ∀ r, R r → ∀ F' H', Good (G.up u) F' (δ ++ τ ++ τ1) (σ ++ ts ++ ts1) H' → Q r H'
def liftA (K : PySem.W.Frag) (mg : Str → Option Value) (W : WC) (u : Nat) (m : MA) : TA := fun σ H Q => ∃ (ex : XD) (G : Gm) (F : Hp) (δ τ : Env) (ts : L2.St) (τ1 : Env) (ts1 : L2.St) (R : List DV → Prop), Now K mg W u ex G F δ σ τ ts τ1 ts1 H ∧ m ex δ R ∧
  ∀ rs, R rs → ∀ (vs : List V) F' H', rs.length = vs.length → Good (G.up u) F' (δ ++ τ ++ τ1 ++ rs.map some) (σ ++ ts ++ ts1 ++ vs.map some) H' → Q vs H'
def liftG (K : PySem.W.Frag) (dom : List Nat) (m : MG) : TG := fun v σ H Q => ∃ (G : Gm) (F : Hp) (δ τ : Env) (ts : L2.St) (r : DV) (R : Env → Prop), G.K = K ∧ δ.length = σ.length ∧ τ.length = ts.length ∧ Good G F (δ ++ τ ++ [some r]) (σ ++ ts ++ [some v]) H ∧ m r δ R ∧
  ∀ δ', R δ' → ∀ σ' F' H', δ'.length = δ.length → σ'.length = σ.length → (∀ j, j ∉ dom → σ'[j]? = σ[j]?) → (NoBor δ → NoBor δ') → Good G F' (δ' ++ τ) (σ' ++ ts) H' → Q σ' H'
structure EndsOk (G : Gm) (u : Nat) (τ : Env) (ts : L2.St) (E : DEnds) (D : Ends) : Prop where
  nx : ∀ δ, E.nx δ → ∀ b σ F H, b ≤ u → δ.length = σ.length → NoBor (δ ++ τ) → Good (G.up b) F (δ ++ τ) (σ ++ ts) H → D.nx σ H
  bk : ∀ δ, E.bk δ → ∀ b σ F H, b ≤ u → δ.length = σ.length → NoBor (δ ++ τ) → Good (G.up b) F (δ ++ τ) (σ ++ ts) H → D.bk σ H
  ct : ∀ δ, E.ct δ → ∀ b σ F H, b ≤ u → δ.length = σ.length → NoBor (δ ++ τ) → Good (G.up b) F (δ ++ τ) (σ ++ ts) H → D.ct σ H
  rt : ∀ r, E.rt r → r.arg = true → ∀ b v F H, b ≤ u → Good (G.up b) F [some r] [some v] H → D.rt v H
  ro : ∀ r δ, E.ro r δ → ∀ b v σ F H, b ≤ u → δ.length = σ.length → Good (G.up b) F (δ ++ [some r]) (σ ++ [some v]) H → D.rt v H
def liftS (K : PySem.W.Frag) (mg : Str → Option Value) (W : WC) (u : Nat) (m : MS) : TS := fun D σ H => ∃ (ex : XD) (G : Gm) (F : Hp) (δ τ : Env) (ts : L2.St) (E : DEnds), Now K mg W u ex G F δ σ τ ts [] [] H ∧ NoBor (δ ++ τ) ∧ EndsOk G u τ ts E D ∧ m ex E δ
structure DE (X : Cx) (W : WC) (e : Expr) (m : ME) (u : Nat) : Prop where
  pe : PE X e (liftE X.K X.mg W u m)
structure DT (X : Cx) (W : WC) (e : Expr) (m : MT) (u : Nat) : Prop where
  pt : PT X e (liftT X.K X.mg W u m)
structure DW (X : Cx) (W : WC) (e : Expr) (m : MT) (u : Nat) : Prop where
  pw : PW X e (liftT X.K X.mg W u m)
structure DA (X : Cx) (W : WC) (es : List Expr) (m : MA) (u : Nat) : Prop where
  pa : PA X es (liftA X.K X.mg W u m)
structure DG (X : Cx) (tg : Expr) (dom : List Nat) (m : MG) : Prop where
  pg : PG X tg (liftG X.K dom m)
structure DS (X : Cx) (W : WC) (st : Stmt) (m : MS) (u : Nat) : Prop where
  ps : PS X st (liftS X.K X.mg W u m)
structure DSs (X : Cx) (W : WC) (st : List Stmt) (m : MS) (u : Nat) : Prop where
  pss : PSs X st (liftS X.K X.mg W u m)
theorem PE.imp {X : Cx} {e : Expr} {t t' : TE} (h : PE X e t) (i : ∀ σ H Q, t' σ H Q → t σ H Q) : PE X e t' := ⟨fun pins s σ H Q I q => h.run pins s σ H Q I (i _ _ _ q)⟩
theorem PT.imp {X : Cx} {e : Expr} {t t' : TT} (h : PT X e t) (i : ∀ σ H Q, t' σ H Q → t σ H Q) : PT X e t' := ⟨fun pins s σ H Q I q => h.run pins s σ H Q I (i _ _ _ q)⟩
theorem PW.imp {X : Cx} {e : Expr} {t t' : TT} (h : PW X e t) (i : ∀ σ H Q, t' σ H Q → t σ H Q) : PW X e t' := ⟨fun w pins s σ H Q I q => h.run w pins s σ H Q I (i _ _ _ q)⟩
theorem PA.imp {X : Cx} {e : List Expr} {t t' : TA} (h : PA X e t) (i : ∀ σ H Q, t' σ H Q → t σ H Q) : PA X e t' := ⟨fun p pins s σ H Q I q => h.run p pins s σ H Q I (i _ _ _ q)⟩
theorem PG.imp {X : Cx} {e : Expr} {t t' : TG} (h : PG X e t) (i : ∀ v σ H Q, t' v σ H Q → t v σ H Q) : PG X e t' := ⟨fun pins s σ H v u Q I r q => h.run pins s σ H v u Q I r (i _ _ _ _ q)⟩
theorem PS.imp {X : Cx} {e : Stmt} {t t' : TS} (h : PS X e t) (i : ∀ D σ H, t' D σ H → t D σ H) : PS X e t' := ⟨fun pins s σ H D I q => h.run pins s σ H D I (i _ _ _ q)⟩
theorem PSs.imp {X : Cx} {e : List Stmt} {t t' : TS} (h : PSs X e t) (i : ∀ D σ H, t' D σ H → t D σ H) : PSs X e t' := ⟨fun pins s σ H D I q => h.run pins s σ H D I (i _ _ _ q)⟩
theorem PI.imp {X : Cx} {tg e : Expr} {t t' : TI} (h : PI X tg e t) (i : ∀ σ H Q, t' σ H Q → t σ H Q) : PI X tg e t' := ⟨fun pins s σ H Q I q => h.run pins s σ H Q I (i _ _ _ q)⟩
section
variable {X : Cx} {W : WC}
variable {u u1 u2 u3 : Nat}
theorem Now.after {ex : XD} {G : Gm} {F F' : Hp} {δ τ τ1 : Env} {σ ts ts1 : L2.St} {H H' : Hp} {rs : Env} {vs : L2.St} (n : Now X.K X.mg W (u1 + u2) ex G F δ σ τ ts τ1 ts1 H) (g : Good (G.up u1) F' (δ ++ τ ++ τ1 ++ rs) (σ ++ ts ++ ts1 ++ vs) H') :
    Now X.K X.mg W u2 ex (G.up u1) F' δ σ τ ts (τ1 ++ rs) (ts1 ++ vs) H' := ⟨n.k, n.l1, n.l2, by rw [← List.append_assoc (δ ++ τ), ← List.append_assoc (σ ++ ts)]; exact g,
  fun b F δ σ H τ1 ts1 e cls d hb h1 h2 h3 h4 => n.link (u1 + b) F δ σ H τ1 ts1 e cls d (Nat.add_le_add_left hb _) h1 (by rw [← up_up]; exact h2) h3 h4, n.ck.1, by have := n.ck.2; show G.n + u1 + u2 ≤ G.lim; omega⟩
theorem Now.here {ex : XD} {G : Gm} {F F' : Hp} {δ τ τ1 : Env} {σ ts ts1 : L2.St} {H H' : Hp} (n : Now X.K X.mg W (u1 + u2) ex G F δ σ τ ts τ1 ts1 H) (g : Good (G.up u1) F' (δ ++ τ ++ τ1) (σ ++ ts ++ ts1) H') :
    Now X.K X.mg W u2 ex (G.up u1) F' δ σ τ ts τ1 ts1 H' := ⟨n.k, n.l1, n.l2, g, fun b F δ σ H τ1 ts1 e cls d hb h1 h2 h3 h4 => n.link (u1 + b) F δ σ H τ1 ts1 e cls d (Nat.add_le_add_left hb _) h1 (by rw [← up_up]; exact h2) h3 h4, n.ck.1, by have := n.ck.2; show G.n + u1 + u2 ≤ G.lim; omega⟩
theorem Now.le {ex : XD} {G : Gm} {F : Hp} {δ τ τ1 : Env} {σ ts ts1 : L2.St} {H : Hp} (n : Now X.K X.mg W u ex G F δ σ τ ts τ1 ts1 H) (h : u1 ≤ u) : Now X.K X.mg W u1 ex G F δ σ τ ts τ1 ts1 H :=
  ⟨n.k, n.l1, n.l2, n.good, fun b F δ σ H τ1 ts1 e cls d hb => n.link b F δ σ H τ1 ts1 e cls d (Nat.le_trans hb h), n.ck.1, by have := n.ck.2; omega⟩
theorem Now.fst {ex : XD} {G : Gm} {F : Hp} {δ τ τ1 : Env} {σ ts ts1 : L2.St} {H : Hp} (n : Now X.K X.mg W (u1 + u2) ex G F δ σ τ ts τ1 ts1 H) : Now X.K X.mg W u1 ex G F δ σ τ ts τ1 ts1 H := n.le (Nat.le_add_right _ _)
def DV.seen : DV → DV
  | .own xs => .bor xs
  | .odk xs => .bdk xs
  | .olk p xs => .blk p xs
  | .odt a xs => .bdt a xs
  | .ins a _ _ => .raw (.ref a)
  | x => x
def mVar (i : Nat) : ME := fun _ δ R => match δ[i]? with
  | some (some dv) => R dv.seen
  | _ => False
theorem seen_ok {G : Gm} {F H : Hp} {v : V} {dv : DV} (h : VOk G F H v dv) : VOk G F H v dv.seen := by
  cases dv with
  | own xs => obtain ⟨l, vs, h1, h2, h3, _, h5⟩ := h; exact ⟨l, vs, h1, h2, h3, h5⟩
  | odk xs => obtain ⟨l, vs, h1, h2, h3, _, h5⟩ := h; exact ⟨l, vs, h1, .inl h2, h3, h5⟩
  | olk p xs => obtain ⟨_, _, h1, h2, h3, _, h5⟩ := h; exact ⟨_, rfl, h1, h2, h3, h5⟩
  | odt a xs => obtain ⟨h1, vs, h2, h3, _, h5⟩ := h; exact ⟨h1, vs, .inl h2, h3, h5⟩
  | ins a nm fs => exact h.1
  | _ => exact h
theorem seen_own (dv : DV) : dv.seen.isOwn = false := by cases dv <;> rfl
theorem de_pv (i : Nat) {x : Str} {pos : Pos} (hN : X.N[i]? = some x := by rfl) (hv : Vis X.env.scope x := by first | exact Or.inl rfl | exact Or.inr (Or.inl rfl) | exact Or.inr (Or.inr rfl)) (hd : (x == ("__debug__" : Str)) = false := by decide)
    (hcd : (x == ("__classdict__" : Str)) = false := by decide) : DE X W (.Name x pos) (mVar i) 0 := by
  refine ⟨PE.imp (pe_var hN hv hd hcd) ?_⟩
  rintro σ H Q ⟨ex, G, F, δ, τ, ts, τ1, ts1, R, n, m, k⟩
  unfold mVar at m
  split at m
  · rename_i dv e
    have hi : i < δ.length := (List.getElem?_eq_some_iff.mp e).1
    have e' : (δ ++ τ ++ τ1)[i]? = some (some dv) := by rw [List.append_assoc, List.getElem?_append_left hi]; exact e
    obtain ⟨v, ev, hv⟩ := n.good.get e'
    rw [List.append_assoc, List.getElem?_append_left (by rw [← n.l1]; exact hi)] at ev
    refine ⟨v, ev, k _ m v F H (n.good.push (seen_ok hv) fun z => ?_)⟩
    rw [seen_own] at z
    cases z
  · exact m.elim
def mC (x : PyData) : ME := fun _ _ R => R (.d x)
def mRaw (v : V) : ME := fun _ _ R => R (.raw v)
theorem de_of_tC {e : Expr} {v : V} {x : PyData} (h : PE X e (tC v)) (hx : ∀ F, At X.K F v x) : DE X W e (mC x) 0 := by
  refine ⟨PE.imp h ?_⟩
  rintro σ H Q ⟨ex, G, F, δ, τ, ts, τ1, ts1, R, n, m, k⟩
  exact k _ m v F H (n.good.pushD (by rw [n.k]; exact hx F))
theorem de_of_tR {e : Expr} {v : V} (h : PE X e (tC v)) : DE X W e (mRaw v) 0 := by
  refine ⟨PE.imp h ?_⟩
  rintro σ H Q ⟨ex, G, F, δ, τ, ts, τ1, ts1, R, n, m, k⟩
  exact k _ m v F H (n.good.push rfl fun z => by cases z)
theorem de_int {i j pos} : DE X W (.Constant (.int i) j pos) (mC (.int i)) 0 := de_of_tC pe_int fun _ => .int i
theorem de_bl {b j pos} : DE X W (.Constant (.bool b) j pos) (mC (.bool b)) 0 := de_of_tC pe_bl fun _ => .bl b
theorem de_non {j pos} : DE X W (.Constant .none j pos) (mC .none) 0 := de_of_tC pe_non fun _ => .non
theorem de_str {x j pos} : DE X W (.Constant (.str x) j pos) (mC (.str x)) 0 := de_of_tC pe_str fun _ => .str x
theorem de_gs {x y : Str} {pos : Pos} (hg : Gl X x) (hm : ∃ t, X.mg x = some (.str y t)) (hd : (x == ("__debug__" : Str)) = false := by decide) : DE X W (.Name x pos) (mC (.str y)) 0 := by
  obtain ⟨t, hm⟩ := hm
  exact de_of_tC (pe_glob (v := .str y) hg hm ⟨t, rfl⟩ hd) fun _ => .str y
theorem de_ty {x : Str} {T : String} {pos : Pos} (hg : Gl X x) (hm : X.mg x = none) (hv : bootBuiltins x = some (.type T)) (hn : x ≠ "__name__" := by decide) (hd : (x == ("__debug__" : Str)) = false := by decide) : DE X W (.Name x pos) (mRaw (.ty T)) 0 :=
  de_of_tR (pe_bltn (v := .ty T) hg hm hv rfl hn hd)
abbrev D2 := DV → DV → (DV → Prop) → Prop
abbrev D1 := DV → (DV → Prop) → Prop
def Op2 (X : Cx) (r : R2) (o : D2) : Prop :=
  ∀ (G : Gm) (F : Hp) (δ : Env) (σ : L2.St) (H : Hp) (v u : V) (x y : DV) (R : DV → Prop) (Q : VK), G.K = X.K → Good G F δ σ H → VOk G F H v x → VOk G F H u y → o x y R →
    (∀ z, R z → ∀ w F' H', Good G F' (δ ++ [some z]) (σ ++ [some w]) H' → Q w H') → r v u H Q
def mBin (o : D2) (ma mb : ME) : ME := fun ex δ R => ma ex δ fun x => mb ex δ fun y => o x y R
variable {a b c e : Expr} {pos : Pos} {ma mb mc : ME}
theorem bin_lift {r : R2} {o : D2} (h : Op2 X r o) (σ : L2.St) (H : Hp) (Q : VK) (q : liftE X.K X.mg W (u1 + u2) (mBin o ma mb) σ H Q) :
    liftE X.K X.mg W u1 ma σ H fun x H1 => liftE X.K X.mg W u2 mb σ H1 fun y H2 => r x y H2 Q := by
  obtain ⟨ex, G, F, δ, τ, ts, τ1, ts1, R, n, m, k⟩ := q
  refine ⟨ex, G, F, δ, τ, ts, τ1, ts1, _, n.fst, m, fun x hx v F1 H1 g1 => ?_⟩
  refine ⟨ex, G.up u1, F1, δ, τ, ts, _, _, _, n.after g1, hx, fun y hy u F2 H2 g2 => ?_⟩
  have e1 : Good (G.up (u1 + u2)) F2 (δ ++ τ ++ τ1 ++ [some x] ++ [some y]) (σ ++ ts ++ ts1 ++ [some v] ++ [some u]) H2 := by
    rw [up_up] at g2
    simpa only [List.append_assoc] using g2
  exact h (G.up (u1 + u2)) F2 _ _ H2 v u x y R Q n.k e1.pop.pop e1.pop.top e1.top hy k
theorem de_op {op : Operator} {r : R2} {o : D2} (h : OpR X (binaryOp op) r) (ho : Op2 X r o) (ha : DE X W a ma u1) (hb : DE X W b mb u2) : DE X W (.BinOp a op b pos) (mBin o ma mb) (u1 + u2) :=
  ⟨PE.imp (pe_op h ha.pe hb.pe) fun σ H Q q => bin_lift ho σ H Q q⟩
theorem de_cmp {op : CmpOp} {r : R2} {o : D2} (h : OpR X (compareOp op) r) (ho : Op2 X r o) (ha : DE X W a ma u1) (hb : DE X W b mb u2) (hm : behindInMarks op b = false) : DE X W (.Compare a [op] [b] pos) (mBin o ma mb) (u1 + u2) :=
  ⟨PE.imp (pe_cmpR h ha.pe hb.pe hm) fun σ H Q q => bin_lift ho σ H Q q⟩
def DV.tru : DV → (Bool → Prop) → Prop
  | .d (.bool b), R => R b
  | _, _ => False
def mB (m : ME) : MT := fun ex δ R => m ex δ fun x => x.tru R
theorem liftT_of {m : ME} (σ : L2.St) (H : Hp) (Q : Bool → Hp → Prop) (q : liftT X.K X.mg W u (mB m) σ H Q) : liftE X.K X.mg W u m σ H fun x H1 => ∃ k, x = .bl k ∧ Q k H1 := by
  obtain ⟨ex, G, F, δ, τ, ts, τ1, ts1, R, n, m, k⟩ := q
  refine ⟨ex, G, F, δ, τ, ts, τ1, ts1, _, n, m, fun x hx v F1 H1 g1 => ?_⟩
  have t := g1.top
  match x, hx, t with
  | .d (.bool b), hx, t =>
    cases t
    exact ⟨b, rfl, k b hx F1 H1 g1.pop⟩
theorem dt_cmp {op : CmpOp} {r : R2} {o : D2} (h : OpR X (compareOp op) r) (ho : Op2 X r o) (ha : DE X W a ma u1) (hb : DE X W b mb u2) (hm : behindInMarks op b = false) : DT X W (.Compare a [op] [b] pos) (mB (mBin o ma mb)) (u1 + u2) :=
  ⟨PT.imp (pt_cmpR h ha.pe hb.pe hm) fun σ H Q q => by
    have q' := liftT_of σ H Q q
    exact bin_lift ho σ H _ q'⟩
theorem dt_val {m : ME} (h : DE X W e m u) (he : ∀ whole, isTrue e X.env whole = (do let v ← whole; standAt e.pos; holding [v] (truthy v)) := by intro _; rfl) : DT X W e (mB m) u :=
  ⟨PT.imp (pt_val h.pe he) fun σ H Q q => liftT_of σ H Q q⟩
def mChain (o o' : D2) (ma mb mc : ME) : ME := fun ex δ R => ma ex δ fun x => mb ex δ fun y => o x y fun z => z.tru fun k => (k = true → mc ex δ fun w => o' y w R) ∧ (k = false → R (.d (.bool false)))
theorem chain_lift {r r' : R2} {o o' : D2} (h : Op2 X r o) (h' : Op2 X r' o') (hs : ∀ x y R, o x y R → o x y fun z => R z ∧ ∃ k, z = .d (.bool k)) (σ : L2.St) (H : Hp) (Q : VK) (q : liftE X.K X.mg W (u1 + (u2 + u3)) (mChain o o' ma mb mc) σ H Q) :
    liftE X.K X.mg W u1 ma σ H fun x H1 => liftE X.K X.mg W u2 mb σ H1 fun y H2 => r x y H2 fun z H3 => ∃ k, z = .bl k ∧ (if k = true then liftE X.K X.mg W u3 mc σ H3 fun w' H4 => r' y w' H4 Q else Q (.bl false) H3) := by
  obtain ⟨ex, G, F, δ, τ, ts, τ1, ts1, R, n, m, k⟩ := q
  refine ⟨ex, G, F, δ, τ, ts, τ1, ts1, _, n.fst, m, fun x hx v F1 H1 g1 => ?_⟩
  have n1 := n.after g1
  refine ⟨ex, G.up u1, F1, δ, τ, ts, _, _, _, n1.fst, hx, fun y hy u F2 H2 g2 => ?_⟩
  have e1 : Good (G.up (u1 + u2)) F2 (δ ++ τ ++ τ1 ++ [some x] ++ [some y]) (σ ++ ts ++ ts1 ++ [some v] ++ [some u]) H2 := by
    rw [up_up] at g2
    simpa only [List.append_assoc] using g2
  refine h (G.up (u1 + u2)) F2 _ _ H2 v u x y _ _ n.k e1 e1.pop.top e1.top (hs _ _ _ hy) fun z ⟨hz, bk, ez⟩ w F3 H3 g3 => ?_
  subst ez
  have t : VOk (G.up (u1 + u2)) F3 H3 w (.d (.bool bk)) := g3.top
  cases t
  refine ⟨bk, rfl, ?_⟩
  cases bk with
  | false =>
    rw [if_neg Bool.false_ne_true]
    exact k _ (hz.2 rfl) _ F3 H3 ((g3.pop.pop.pop.pushD (.bl false)).mono (by omega))
  | true =>
    rw [if_pos rfl]
    have e3 : Good ((G.up u1).up u2) F3 (δ ++ τ ++ (τ1 ++ [some x]) ++ [some y]) (σ ++ ts ++ (ts1 ++ [some v]) ++ [some u]) H3 := by
      have := g3.pop
      rw [← up_up] at this
      simpa only [List.append_assoc] using this
    refine ⟨ex, (G.up u1).up u2, F3, δ, τ, ts, _, _, _, n1.after e3, hz.1 rfl, fun y' hy' u' F4 H4 g4 => ?_⟩
    have e4 : Good (G.up (u1 + (u2 + u3))) F4 (δ ++ τ ++ τ1 ++ [some x] ++ [some y] ++ [some y']) (σ ++ ts ++ ts1 ++ [some v] ++ [some u] ++ [some u']) H4 := by
      rw [up_up, up_up] at g4
      simpa only [List.append_assoc] using g4
    exact h' (G.up (u1 + (u2 + u3))) F4 _ _ H4 u u' y y' R Q n.k e4.pop.pop.pop e4.pop.top e4.top hy' k
variable {ta tb : MT} {rest : List Expr}
def mAnd (s t : MT) : MT := fun ex δ R => s ex δ fun c => (c = true → t ex δ R) ∧ (c = false → R false)
def mOr (s t : MT) : MT := fun ex δ R => s ex δ fun c => (c = true → R true) ∧ (c = false → t ex δ R)
def mNot (s : MT) : MT := fun ex δ R => s ex δ fun c => R (!c)
theorem DW.dt (h : DW X W e ta u) : DT X W e ta u := ⟨PW.pt h.pw⟩
theorem dw_and1 (h : DT X W a ta u) : DW X W (.BoolOp .And [a] pos) ta u := ⟨pw_and1 h.pt⟩
theorem dw_or1 (h : DT X W a ta u) : DW X W (.BoolOp .Or [a] pos) ta u := ⟨pw_or1 h.pt⟩
theorem dw_and (ha : DT X W a ta u1) (hb : DW X W (.BoolOp .And (b :: rest) pos) tb u2) : DW X W (.BoolOp .And (a :: b :: rest) pos) (mAnd ta tb) (u1 + u2) :=
  ⟨PW.imp (pw_and ha.pt hb.pw) fun σ H Q q => by
    obtain ⟨ex, G, F, δ, τ, ts, τ1, ts1, R, n, m, k⟩ := q
    refine ⟨ex, G, F, δ, τ, ts, τ1, ts1, _, n.fst, m, fun c hc F1 H1 g1 => ?_⟩
    cases c with
    | true => rw [if_pos rfl]; exact ⟨ex, G.up u1, F1, δ, τ, ts, τ1, ts1, R, n.here g1, hc.1 rfl, by rw [up_up]; exact k⟩
    | false => rw [if_neg Bool.false_ne_true]; exact k _ (hc.2 rfl) F1 H1 (g1.mono (Nat.le_add_right _ _))⟩
theorem dw_or (ha : DT X W a ta u1) (hb : DW X W (.BoolOp .Or (b :: rest) pos) tb u2) : DW X W (.BoolOp .Or (a :: b :: rest) pos) (mOr ta tb) (u1 + u2) :=
  ⟨PW.imp (pw_or ha.pt hb.pw) fun σ H Q q => by
    obtain ⟨ex, G, F, δ, τ, ts, τ1, ts1, R, n, m, k⟩ := q
    refine ⟨ex, G, F, δ, τ, ts, τ1, ts1, _, n.fst, m, fun c hc F1 H1 g1 => ?_⟩
    cases c with
    | true => rw [if_pos rfl]; exact k _ (hc.1 rfl) F1 H1 (g1.mono (Nat.le_add_right _ _))
    | false => rw [if_neg Bool.false_ne_true]; exact ⟨ex, G.up u1, F1, δ, τ, ts, τ1, ts1, R, n.here g1, hc.2 rfl, by rw [up_up]; exact k⟩⟩
theorem dt_not (ha : DT X W a ta u) : DT X W (.UnaryOp .Not a pos) (mNot ta) u :=
  ⟨PT.imp (pt_not ha.pt) fun σ H Q q => by
    obtain ⟨ex, G, F, δ, τ, ts, τ1, ts1, R, n, m, k⟩ := q
    exact ⟨ex, G, F, δ, τ, ts, τ1, ts1, _, n, m, fun c hc F1 H1 g1 => k _ hc F1 H1 g1⟩⟩
def mAndV (s t : ME) : ME := fun ex δ R => s ex δ fun x => x.tru fun c => (c = true → t ex δ R) ∧ (c = false → R (.d (.bool false)))
def mNotV (s : ME) : ME := fun ex δ R => s ex δ fun x => x.tru fun c => R (.d (.bool (!c)))
theorem tru_bl {G : Gm} {F H : Hp} {v : V} {x : DV} {R : Bool → Prop} (h : x.tru R) (t : VOk G F H v x) : ∃ c, v = .bl c ∧ R c := by
  match x, h, t with
  | .d (.bool b), h, t =>
    cases t
    exact ⟨b, rfl, h⟩
theorem de_one {op : BoolOp} (h : DE X W a ma u) : DE X W (.BoolOp op [a] pos) ma u := ⟨pe_one h.pe⟩
theorem de_and (ha : DE X W a ma u1) (hb : DE X W (.BoolOp .And (b :: rest) pos) mb u2) : DE X W (.BoolOp .And (a :: b :: rest) pos) (mAndV ma mb) (u1 + u2) :=
  ⟨PE.imp (pe_and ha.pe hb.pe) fun σ H Q q => by
    obtain ⟨ex, G, F, δ, τ, ts, τ1, ts1, R, n, m, k⟩ := q
    refine ⟨ex, G, F, δ, τ, ts, τ1, ts1, _, n.fst, m, fun x hx v F1 H1 g1 => ?_⟩
    obtain ⟨c, rfl, hc⟩ := tru_bl hx g1.top
    refine ⟨c, rfl, ?_⟩
    cases c with
    | true => rw [if_pos rfl]; exact ⟨ex, G.up u1, F1, δ, τ, ts, τ1, ts1, R, n.here g1.pop, hc.1 rfl, by rw [up_up]; exact k⟩
    | false => rw [if_neg Bool.false_ne_true]; exact k _ (hc.2 rfl) _ F1 H1 ((g1.pop.pushD (.bl false)).mono (Nat.le_add_right _ _))⟩
theorem de_not (ha : DE X W a ma u) : DE X W (.UnaryOp .Not a pos) (mNotV ma) u :=
  ⟨PE.imp (pe_not ha.pe) fun σ H Q q => by
    obtain ⟨ex, G, F, δ, τ, ts, τ1, ts1, R, n, m, k⟩ := q
    refine ⟨ex, G, F, δ, τ, ts, τ1, ts1, _, n, m, fun x hx v F1 H1 g1 => ?_⟩
    obtain ⟨c, rfl, hc⟩ := tru_bl hx g1.top
    exact ⟨c, rfl, k _ hc _ F1 H1 (g1.pop.pushD (.bl _))⟩⟩
def mNil : MA := fun _ _ R => R []
def mCons (m : ME) (t : MA) : MA := fun ex δ R => m ex δ fun x => t ex δ fun xs => R (x :: xs)
variable {es : List Expr} {mas : MA}
theorem da_nil : DA X W [] mNil 0 := ⟨PA.imp pa_nil fun σ H Q q => by
  obtain ⟨ex, G, F, δ, τ, ts, τ1, ts1, R, n, m, k⟩ := q
  exact k [] m [] F H rfl (by simpa using n.good.later 0)⟩
theorem da_cons (ha : DE X W e ma u1) (hr : DA X W es mas u2) (hs : starEach (e :: es) X.env = (false, eval e X.env) :: starEach es X.env := by rfl) : DA X W (e :: es) (mCons ma mas) (u1 + u2) :=
  ⟨PA.imp (pa_cons ha.pe hr.pa hs) fun σ H Q q => by
    obtain ⟨ex, G, F, δ, τ, ts, τ1, ts1, R, n, m, k⟩ := q
    refine ⟨ex, G, F, δ, τ, ts, τ1, ts1, _, n.fst, m, fun x hx v F1 H1 g1 => ?_⟩
    refine ⟨ex, G.up u1, F1, δ, τ, ts, _, _, _, n.after g1, hx, fun xs hxs vs F2 H2 hl g2 => ?_⟩
    rw [up_up] at g2
    refine k _ hxs (v :: vs) F2 H2 (by simp [hl]) ?_
    simpa only [List.append_assoc, List.map_cons, List.singleton_append, List.cons_append, List.nil_append] using g2⟩
theorem Good.cut {G : Gm} {F H : Hp} : ∀ {B : Env} {B' : L2.St} {A : Env} {A' : L2.St}, B.length = B'.length → Good G F (A ++ B) (A' ++ B') H → Good G F A A' H := by
  intro B
  induction B with
  | nil =>
    intro B' A A' hl g
    cases B' with
    | nil => simpa using g
    | cons _ _ => simp at hl
  | cons b B ih =>
    intro B' A A' hl g
    cases B' with
    | nil => simp at hl
    | cons b' B' =>
      have g' : Good G F (A ++ [b] ++ B) (A' ++ [b'] ++ B') H := by simpa using g
      exact (ih (by simpa using hl) g').pop
theorem Good.nth {G : Gm} {F H : Hp} {A : Env} {A' : L2.St} {rs : List DV} {vs : List V} (hl : rs.length = vs.length) (g : Good G F (A ++ rs.map some) (A' ++ vs.map some) H) {i : Nat} {r : DV} (e : rs[i]? = some r) : ∃ v, vs[i]? = some v ∧ VOk G F H v r := by
  have hA : A.length = A'.length := by
    have := g.len
    simp [hl] at this
    exact this
  obtain ⟨v, ev, h⟩ := g.sl (A.length + i) r (by rw [List.getElem?_append_right (Nat.le_add_right _ _)]; simp [e])
  rw [hA, List.getElem?_append_right (Nat.le_add_right _ _)] at ev
  simp only [Nat.add_sub_cancel_left, List.getElem?_map] at ev
  cases q : vs[i]? with
  | none => rw [q] at ev; cases ev
  | some w =>
    rw [q] at ev
    have : w = v := by simpa using ev
    subst this
    exact ⟨w, rfl, h⟩
abbrev DN := List DV → (DV → Prop) → Prop
def OpN (X : Cx) (r : List V → Hp → VK → Prop) (o : DN) : Prop :=
  ∀ (G : Gm) (F : Hp) (δ : Env) (σ : L2.St) (H : Hp) (vs : List V) (xs : List DV) (R : DV → Prop) (Q : VK), G.K = X.K → xs.length = vs.length → Good G F (δ ++ xs.map some) (σ ++ vs.map some) H → o xs R →
    (∀ z, R z → ∀ w F' H', Good G F' (δ ++ [some z]) (σ ++ [some w]) H' → Q w H') → r vs H Q
def mCB (o : DN) (t : MA) : ME := fun ex δ R => t ex δ fun xs => o xs R
theorem args_lift {r : List V → Hp → VK → Prop} {o : DN} (h : OpN X r o) (σ : L2.St) (H : Hp) (Q : VK) (q : liftE X.K X.mg W u (mCB o mas) σ H Q) : liftA X.K X.mg W u mas σ H fun vs H1 => r vs H1 Q := by
  obtain ⟨ex, G, F, δ, τ, ts, τ1, ts1, R, n, m, k⟩ := q
  refine ⟨ex, G, F, δ, τ, ts, τ1, ts1, _, n, m, fun xs hxs vs F1 H1 hl g1 => ?_⟩
  exact h (G.up u) F1 _ _ H1 vs xs R Q n.k hl g1 hxs k
theorem de_callB {id : String} {x : Str} {p : Pos} {r : List V → Hp → VK → Prop} {o : DN} (hc : CallR X (.builtin id) r) (ho : OpN X r o) (hg : Gl X x) (hm : X.mg x = none) (hv : bootBuiltins x = some (.builtin id)) (ha : DA X W (e :: es) mas u) (hn : x ≠ "__name__" := by decide) (hdb : (x == ("__debug__" : Str)) = false := by decide)
    (he : starEach (e :: es) X.env = (false, eval e X.env) :: starEach es X.env := by rfl) (hpl : (backTo pos (starEach es X.env)).any (·.1) = false := by rfl) : DE X W (.Call (.Name x p) (e :: es) [] pos) (mCB o mas) u :=
  ⟨PE.imp (pe_callB hc hg hm hv ha.pa hn hdb he hpl) fun σ H Q q => args_lift ho σ H Q q⟩
theorem de_callTy {T : String} {x : Str} {p : Pos} {r : List V → Hp → VK → Prop} {o : DN} (hc : CallR X (.type T) r) (ho : OpN X r o) (hg : Gl X x) (hm : X.mg x = none) (hv : bootBuiltins x = some (.type T)) (ha : DA X W (e :: es) mas u) (hn : x ≠ "__name__" := by decide) (hdb : (x == ("__debug__" : Str)) = false := by decide)
    (he : starEach (e :: es) X.env = (false, eval e X.env) :: starEach es X.env := by rfl) (hpl : (backTo pos (starEach es X.env)).any (·.1) = false := by rfl) : DE X W (.Call (.Name x p) (e :: es) [] pos) (mCB o mas) u :=
  ⟨PE.imp (pe_callTy hc hg hm hv ha.pa hn hdb he hpl) fun σ H Q q => args_lift ho σ H Q q⟩
end
end DL
namespace DL
open PySem PySem.Spec L2
def DV.val : DV → Option PyData
  | .d x => some x
  | .own xs => some (.list xs)
  | .odk xs => some (.dict xs)
  | _ => none
def vals : List DV → Option (List PyData)
  | [] => some []
  | x :: xs => match x.val, vals xs with
    | some d, some ds => some (d :: ds)
    | _, _ => none
theorem fix_one {G : Gm} {F H : Hp} {A A2 : Env} {ρ : L2.St} {x : DV} {d : PyData} (g : Good G F (A ++ some x :: A2) ρ H) (e : x.val = some d) : ∃ F', Same F F' ∧ Good G F' (A ++ some (.d d) :: A2) ρ H := by
  cases x with
  | d y => cases e; exact ⟨F, Same.refl F, g⟩
  | own xs =>
    cases e
    obtain ⟨F', s, g'⟩ := g.freeze (n := A.length) (xs := xs) (by simp)
    refine ⟨F', s, ?_⟩
    rw [List.set_append_right _ _ (Nat.le_refl _), Nat.sub_self] at g'
    exact g'
  | odk xs =>
    cases e
    obtain ⟨F', s, g'⟩ := g.freezeK (n := A.length) (xs := xs) (by simp)
    refine ⟨F', s, ?_⟩
    rw [List.set_append_right _ _ (Nat.le_refl _), Nat.sub_self] at g'
    exact g'
  | _ => cases e
theorem fix_all {G : Gm} {H : Hp} {ρ : L2.St} : ∀ (xs : List DV) {F : Hp} {A : Env} {ds : List PyData}, Good G F (A ++ xs.map some) ρ H → vals xs = some ds → ∃ F', Same F F' ∧ Good G F' (A ++ ds.map (fun d => some (DV.d d))) ρ H
  | [], F, A, ds, g, e => by
    cases e
    exact ⟨F, Same.refl F, by simpa using g⟩
  | x :: xs, F, A, ds, g, e => by
    unfold vals at e
    split at e
    · rename_i d ds' e1 e2
      cases e
      obtain ⟨F1, s1, g1⟩ := fix_one (A := A) (A2 := xs.map some) (by simpa using g) e1
      obtain ⟨F2, s2, g2⟩ := fix_all xs (F := F1) (A := A ++ [some (.d d)]) (by simpa using g1) e2
      exact ⟨F2, s1.trans s2, by simpa using g2⟩
    · cases e
theorem atL_of {G : Gm} {F H : Hp} {A : Env} {A' : L2.St} : ∀ {ds : List PyData} {vs : List V}, ds.length = vs.length → Good G F (A ++ ds.map (fun d => some (DV.d d))) (A' ++ vs.map some) H → AtL G.K F vs ds := by
  intro ds vs hl g
  have hl' : (ds.map DV.d).length = vs.length := by simpa using hl
  have g' : Good G F (A ++ (ds.map DV.d).map some) (A' ++ vs.map some) H := by
    have : (ds.map DV.d).map some = ds.map (fun d => some (DV.d d)) := by simp
    rw [this]; exact g
  have all : ∀ (i : Nat) (d : PyData), ds[i]? = some d → ∃ v, vs[i]? = some v ∧ At G.K F v d := fun i d e => Good.nth hl' g' (r := .d d) (by simp [e])
  clear g g'
  induction ds generalizing vs with
  | nil =>
    cases vs with
    | nil => exact .nil
    | cons _ _ => simp at hl
  | cons d ds ih =>
    cases vs with
    | nil => simp at hl
    | cons v vs =>
      obtain ⟨w, ew, hw⟩ := all 0 d rfl
      cases ew
      refine .cons hw (ih (by simpa using hl) (by simpa using hl) fun i d' e => ?_)
      exact all (i + 1) d' (by simpa using e)
section
variable {u u1 u2 u3 : Nat} {X : Cx} {W : WC} {e : Expr} {es : List Expr} {pos : Pos} {mas : MA} {me : ME}
def mTup (t : MA) : ME := fun ex δ R => t ex δ fun xs => xs.length ≤ sizeLine ∧ match vals xs with
  | some ds => R (.d (.tuple ds))
  | none => False
def mLst (t : MA) : ME := fun ex δ R => t ex δ fun xs => xs.length ≤ sizeLine ∧ match vals xs with
  | some ds => R (.own ds)
  | none => False
theorem vals_len : ∀ {xs : List DV} {ds : List PyData}, vals xs = some ds → ds.length = xs.length
  | [], ds, e => by cases e; rfl
  | x :: xs, ds, e => by
    unfold vals at e
    split at e
    · rename_i d ds' e1 e2
      cases e
      rw [List.length_cons, List.length_cons, vals_len e2]
    · cases e
theorem de_tup {x1 : _} (h : DA X W es mas u) : DE X W (.Tuple es x1 pos) (mTup mas) u :=
  ⟨PE.imp (pe_tup h.pa) fun σ H Q q => by
    obtain ⟨ex, G, F, δ, τ, ts, τ1, ts1, R, n, m, k⟩ := q
    refine ⟨ex, G, F, δ, τ, ts, τ1, ts1, _, n, m, fun xs hxs vs F1 H1 hl g1 => ?_⟩
    obtain ⟨hz, hv⟩ := hxs
    refine ⟨by rw [← hl]; exact hz, fun p hp => ?_⟩
    split at hv
    · rename_i ds ev
      obtain ⟨F2, s2, g2⟩ := fix_all xs g1 ev
      have hd : ds.length = vs.length := (vals_len ev).trans hl
      have ha := atL_of hd g2
      exact k _ hv _ _ _ ((g2.cut (by simpa using hd)).newT hp ha)
    · exact hv.elim⟩
theorem de_lst (h : DA X W es mas u) : DE X W (.List es pos) (mLst mas) u :=
  ⟨PE.imp (pe_lst h.pa) fun σ H Q q => by
    obtain ⟨ex, G, F, δ, τ, ts, τ1, ts1, R, n, m, k⟩ := q
    refine ⟨ex, G, F, δ, τ, ts, τ1, ts1, _, n, m, fun xs hxs vs F1 H1 hl g1 => ?_⟩
    obtain ⟨hz, hv⟩ := hxs
    refine ⟨by rw [← hl]; exact hz, fun p hp => ?_⟩
    split at hv
    · rename_i ds ev
      obtain ⟨F2, s2, g2⟩ := fix_all xs g1 ev
      have hd : ds.length = vs.length := (vals_len ev).trans hl
      have ha := atL_of hd g2
      exact k _ hv _ _ _ ((g2.cut (by simpa using hd)).newO hp ha)
    · exact hv.elim⟩
variable {st : Stmt} {rest : List Stmt} {m m1 m2 : MS}
def mNext : MS := fun _ E δ => E.nx δ
def mSeq (m1 m2 : MS) : MS := fun ex E δ => m1 ex { E with nx := m2 ex E } δ
theorem Now.g0 {ex : XD} {G : Gm} {F : Hp} {δ τ : Env} {σ ts : L2.St} {H : Hp} (n : Now X.K X.mg W u ex G F δ σ τ ts [] [] H) : Good G F (δ ++ τ) (σ ++ ts) H := by
  have := n.good
  simpa using this
theorem Now.to0 {ex : XD} {G : Gm} {F F' : Hp} {δ δ' τ : Env} {σ σ' ts : L2.St} {H H' : Hp} {b : Nat} (n : Now X.K X.mg W u ex G F δ σ τ ts [] [] H) (hb : b + u1 ≤ u) (hl : δ'.length = σ'.length) (g : Good (G.up b) F' (δ' ++ τ) (σ' ++ ts) H') : Now X.K X.mg W u1 ex (G.up b) F' δ' σ' τ ts [] [] H' :=
  ⟨n.k, hl, n.l2, by simpa using g, fun b' F δ σ H τ1 ts1 e cls d hb' h1 h2 h3 h4 => n.link (b + b') F δ σ H τ1 ts1 e cls d (by omega) h1 (by rw [← up_up]; exact h2) h3 h4, n.ck.1, by have := n.ck.2; show G.n + b + u1 ≤ G.lim; omega⟩
theorem EndsOk.up {G : Gm} {τ : Env} {ts : L2.St} {E : DEnds} {D : Ends} {b : Nat} (eo : EndsOk G u τ ts E D) (hb : b + u1 ≤ u) : EndsOk (G.up b) u1 τ ts E D :=
  ⟨fun δ h b' σ F H h1 h2 h3 h4 => eo.nx δ h (b + b') σ F H (by omega) h2 h3 (by rw [← up_up]; exact h4), fun δ h b' σ F H h1 h2 h3 h4 => eo.bk δ h (b + b') σ F H (by omega) h2 h3 (by rw [← up_up]; exact h4),
    fun δ h b' σ F H h1 h2 h3 h4 => eo.ct δ h (b + b') σ F H (by omega) h2 h3 (by rw [← up_up]; exact h4), fun r h ha b' v F H h1 h4 => eo.rt r h ha (b + b') v F H (by omega) (by rw [← up_up]; exact h4),
    fun r δ h b' v σ F H h1 h2 h4 => eo.ro r δ h (b + b') v σ F H (by omega) h2 (by rw [← up_up]; exact h4)⟩
theorem EndsOk.le {G : Gm} {τ : Env} {ts : L2.St} {E : DEnds} {D : Ends} (eo : EndsOk G u τ ts E D) (hb : u1 ≤ u) : EndsOk G u1 τ ts E D :=
  ⟨fun δ h b' σ F H h1 => eo.nx δ h b' σ F H (by omega), fun δ h b' σ F H h1 => eo.bk δ h b' σ F H (by omega), fun δ h b' σ F H h1 => eo.ct δ h b' σ F H (by omega), fun r h ha b' v F H h1 => eo.rt r h ha b' v F H (by omega), fun r δ h b' v σ F H h1 => eo.ro r δ h b' v σ F H (by omega)⟩
theorem dss_nil : DSs X W [] mNext 0 := ⟨PSs.imp pss_nil fun D σ H q => by
  obtain ⟨ex, G, F, δ, τ, ts, E, n, nb, eo, m⟩ := q
  exact eo.nx δ m 0 σ F H (Nat.le_refl _) n.l1 nb (n.g0.later 0)⟩
theorem seq_lift (D : Ends) (σ : L2.St) (H : Hp) (q : liftS X.K X.mg W (u1 + u2) (mSeq m1 m2) D σ H) : tSeq (liftS X.K X.mg W u1 m1) (liftS X.K X.mg W u2 m2) D σ H := by
  obtain ⟨ex, G, F, δ, τ, ts, E, n, nb, eo, m⟩ := q
  have e1 : EndsOk G u1 τ ts E D := eo.le (Nat.le_add_right _ _)
  exact ⟨ex, G, F, δ, τ, ts, { E with nx := m2 ex E }, n.fst, nb, ⟨fun δ' h b σ' F' H' hb hl nb' g => ⟨ex, G.up b, F', δ', τ, ts, E, n.to0 (Nat.add_le_add_right hb _) hl g, nb', eo.up (Nat.add_le_add_right hb _), h⟩, e1.bk, e1.ct, e1.rt, e1.ro⟩, m⟩
theorem dss_cons (h1 : DS X W st m1 u1) (h2 : DSs X W rest m2 u2) : DSs X W (st :: rest) (mSeq m1 m2) (u1 + u2) := ⟨PSs.imp (pss_cons h1.ps h2.pss) seq_lift⟩
theorem dss_one (h1 : DS X W st m1 u) : DSs X W [st] m1 u := ⟨pss_one h1.ps⟩
def mFrz (i : Nat) (m : MS) : MS := fun ex E δ => match δ[i]? with
  | some (some (.own xs)) => m ex E (δ.set i (some (.d (.list xs))))
  | some (some (.odk xs)) => m ex E (δ.set i (some (.d (.dict xs))))
  | _ => m ex E δ
theorem noBor_set {δ : Env} {i : Nat} {x : DV} (nb : NoBor δ) (hx : x.isBor = false) : NoBor (δ.set i (some x)) := fun j y e => by
  rcases get_set e with ⟨_, q, _⟩ | ⟨_, q⟩
  · cases q; exact hx
  · exact nb j y q
theorem frz_lift {i : Nat} (D : Ends) (σ : L2.St) (H : Hp) (q : liftS X.K X.mg W u (mFrz i m) D σ H) : liftS X.K X.mg W u m D σ H := by
  obtain ⟨ex, G, F, δ, τ, ts, E, n, nb, eo, mm⟩ := q
  unfold mFrz at mm
  split at mm
  · rename_i xs e
    have hi : i < δ.length := (List.getElem?_eq_some_iff.mp e).1
    obtain ⟨F', s, g⟩ := n.g0.freeze (n := i) (xs := xs) (by rw [List.getElem?_append_left hi]; exact e)
    rw [List.set_append_left _ _ hi] at g
    refine ⟨ex, G, F', _, τ, ts, E, ⟨n.k, by simpa using n.l1, n.l2, by simpa using g, n.link, n.ck⟩, ?_, eo, mm⟩
    rw [← List.set_append_left _ _ hi]
    exact noBor_set nb rfl
  · rename_i xs e
    have hi : i < δ.length := (List.getElem?_eq_some_iff.mp e).1
    obtain ⟨F', s, g⟩ := n.g0.freezeK (n := i) (xs := xs) (by rw [List.getElem?_append_left hi]; exact e)
    rw [List.set_append_left _ _ hi] at g
    refine ⟨ex, G, F', _, τ, ts, E, ⟨n.k, by simpa using n.l1, n.l2, by simpa using g, n.link, n.ck⟩, ?_, eo, mm⟩
    rw [← List.set_append_left _ _ hi]
    exact noBor_set nb rfl
  · exact ⟨ex, G, F, δ, τ, ts, E, n, nb, eo, mm⟩
theorem ds_frz (i : Nat) (h : DS X W st m u) : DS X W st (mFrz i m) u := ⟨PS.imp h.ps frz_lift⟩
def mRet (me : ME) : MS := fun ex E δ => me ex δ fun r => E.rt r.fix
theorem ds_ret (h : DE X W e me u) : DS X W (.Return (some e) pos) (mRet me) u := ⟨PS.imp (ps_ret h.pe) fun D σ H q => by
  obtain ⟨ex, G, F, δ, τ, ts, E, n, nb, eo, m⟩ := q
  refine ⟨ex, G, F, δ, τ, ts, [], [], _, n, m, fun r hr v F' H' g => ?_⟩
  obtain ⟨F2, s2, g2⟩ := g.fixLast
  exact eo.rt _ hr (fix_arg r) u v F2 H' (Nat.le_refl _) g2⟩
def mDrop (me : ME) : MS := fun ex E δ => me ex δ fun _ => E.nx δ
theorem ds_expr (h : DE X W e me u) (hs : swapsWith e none pos.line X.env = pure false := by rfl) : DS X W (.Expr e pos) (mDrop me) u := ⟨PS.imp (ps_expr h.pe hs) fun D σ H q => by
  obtain ⟨ex, G, F, δ, τ, ts, E, n, nb, eo, m⟩ := q
  refine ⟨ex, G, F, δ, τ, ts, [], [], _, n, m, fun r hr v F' H' g => ?_⟩
  have g' : Good (G.up u) F' (δ ++ τ) (σ ++ ts) H' := by
    have := g.pop
    simpa using this
  exact eo.nx δ hr u σ F' H' (Nat.le_refl _) n.l1 nb g'⟩
def mIfS (t : MT) (m1 m2 : MS) : MS := fun ex E δ => t ex δ fun c => (c = true → m1 ex E δ) ∧ (c = false → m2 ex E δ)
theorem ds_if {c : Expr} {p q : List Stmt} {t : MT} (hc : DT X W c t u1) (hp : DSs X W p m1 u2) (hq : DSs X W q m2 u3) : DS X W (.If c p q pos) (mIfS t m1 m2) (u1 + (u2 + u3)) := ⟨PS.imp (ps_if hc.pt hp.pss hq.pss) fun D σ H q => by
  obtain ⟨ex, G, F, δ, τ, ts, E, n, nb, eo, m⟩ := q
  refine ⟨ex, G, F, δ, τ, ts, [], [], _, n.fst, m, fun b hb F' H' g => ?_⟩
  have g' : Good (G.up u1) F' (δ ++ τ) (σ ++ ts) H' := by simpa using g
  show if b = true then liftS X.K X.mg W u2 m1 D σ H' else liftS X.K X.mg W u3 m2 D σ H'
  cases b with
  | true => rw [if_pos rfl]; exact ⟨ex, G.up u1, F', δ, τ, ts, E, n.to0 (by omega) n.l1 g', nb, eo.up (by omega), hb.1 rfl⟩
  | false => rw [if_neg Bool.false_ne_true]; exact ⟨ex, G.up u1, F', δ, τ, ts, E, n.to0 (by omega) n.l1 g', nb, eo.up (by omega), hb.2 rfl⟩⟩
variable {tg : Expr} {dom : List Nat} {mg : MG}
def gN (i : Nat) : MG := fun v δ R => v.isBor = false ∧ i < δ.length ∧ R (δ.set i (some v))
theorem dg_name {i : Nat} {x : Str} (hN : X.N.Nodup) (hi : X.N[i]? = some x) (hx : Loc X.env.scope x) (hf : X.fn x = true ∨ X.env.scope.names.lookup x = some .local := by first | exact .inl rfl | exact .inr rfl | assumption) : DG X (.Name x pos) [i] (gN i) :=
  ⟨PG.imp (pg_name hN hi hx hf) fun v σ H Q q => by
    obtain ⟨G, F, δ, τ, ts, r, R, kk, l1, l2, g, m, k⟩ := q
    obtain ⟨hb, hi, hR⟩ := m
    have g' := g.setTop (i := i) (by simp; omega)
    rw [List.set_append_left _ _ hi, List.set_append_left _ _ (by omega)] at g'
    exact k _ hR _ F H (by simp) (by simp) (fun j hj => List.getElem?_set_ne (fun z => hj (by simp [z]))) (fun nb => noBor_set nb hb) g'⟩
def gsN : List MG → List PyData → Env → (Env → Prop) → Prop
  | [], [], δ, R => R δ
  | g :: gs, d :: ds, δ, R => g (.d d) δ fun δ' => gsN gs ds δ' R
  | _, _, _, _ => False
def liftGs (K : PySem.W.Frag) (dom : List Nat) (gs : List MG) : TGs := fun vs σ H Q => ∃ (G : Gm) (F : Hp) (δ τ : Env) (ts : L2.St) (ds : List PyData) (R : Env → Prop), G.K = K ∧ δ.length = σ.length ∧ τ.length = ts.length ∧ Good G F (δ ++ τ) (σ ++ ts) H ∧ AtL G.K F vs ds ∧ gsN gs ds δ R ∧
  ∀ δ', R δ' → ∀ σ' F' H', δ'.length = δ.length → σ'.length = σ.length → (∀ j, j ∉ dom → σ'[j]? = σ[j]?) → (NoBor δ → NoBor δ') → Good G F' (δ' ++ τ) (σ' ++ ts) H' → Q σ' H'
structure DGs (X : Cx) (tgs : List Expr) (dom : List Nat) (gs : List MG) : Prop where
  pgs : PGs X tgs (liftGs X.K dom gs)
theorem PGs.imp {X : Cx} {e : List Expr} {t t' : TGs} (h : PGs X e t) (i : ∀ v σ H Q, t' v σ H Q → t v σ H Q) : PGs X e t' := ⟨fun pins s σ H v u Q I r q => h.run pins s σ H v u Q I r (i _ _ _ _ q)⟩
theorem Good.pushL {G : Gm} {F H : Hp} : ∀ {vs : List V} {ds : List PyData} {A : Env} {A' : L2.St}, AtL G.K F vs ds → Good G F A A' H → Good G F (A ++ ds.map fun d => some (DV.d d)) (A' ++ vs.map some) H
  | _, _, A, A', .nil, g => by simpa using g
  | _, _, A, A', .cons h t, g => by
    have := Good.pushL (A := A ++ [some (.d _)]) (A' := A' ++ [some _]) t (g.pushD h)
    simpa using this
theorem dgs_nil : DGs X [] [] [] := ⟨PGs.imp pgs_nil fun vs σ H Q q => by
  obtain ⟨G, F, δ, τ, ts, ds, R, kk, l1, l2, g, h, m, k⟩ := q
  cases h with
  | nil => exact ⟨rfl, k δ m σ F H rfl rfl (fun _ _ => rfl) id g⟩
  | cons _ _ => exact m.elim⟩
theorem dgs_cons {es : List Expr} {d1 d2 : List Nat} {gs : List MG} (h1 : DG X e d1 mg) (h2 : DGs X es d2 gs) (hs : (assignEach (e :: es) X.env).map (·.2) = assign e X.env :: (assignEach es X.env).map (·.2) := by rfl) : DGs X (e :: es) (d1 ++ d2) (mg :: gs) :=
  ⟨PGs.imp (pgs_cons h1.pg h2.pgs hs) fun vs σ H Q q => by
    obtain ⟨G, F, δ, τ, ts, ds, R, kk, l1, l2, g, h, m, k⟩ := q
    cases h with
    | nil => exact m.elim
    | @cons v vs d ds hv hr =>
      have hlen := hr.length
      refine ⟨v, vs, rfl, G, F, δ, τ ++ ds.map (fun d => some (DV.d d)), ts ++ vs.map some, .d d, _, kk, l1, by simp [l2, hlen], ?_, m, fun δ' hm σ' F' H' k1 k2 k3 k4 g' => ?_⟩
      · have := (Good.pushL hr g).pushD hv
        simpa only [List.append_assoc] using this
      · have g1 : Good G F' (δ' ++ τ ++ ds.map fun d => some (DV.d d)) (σ' ++ ts ++ vs.map some) H' := by simpa only [List.append_assoc] using g'
        refine ⟨G, F', δ', τ, ts, ds, R, kk, by omega, l2, g1.cut (by simp [hlen]), atL_of hlen.symm g1, hm, fun δ2 hR σ2 F2 H2 j1 j2 j3 j4 g2 => ?_⟩
        exact k δ2 hR σ2 F2 H2 (j1.trans k1) (j2.trans k2) (fun j hj => (j3 j fun z => hj (List.mem_append_right _ z)).trans (k3 j fun z => hj (List.mem_append_left _ z))) (fun nb => j4 (k4 nb)) g2⟩
def gT (gs : List MG) : MG := fun v δ R => match v with
  | .d (.tuple ds) => ds.length = gs.length ∧ gsN gs ds δ R
  | _ => False
theorem dg_tup {es : List Expr} {k : _} {gs : List MG} (hc : X.calm = true) (h : DGs X es dom gs) (hn : (assignEach es X.env).length = gs.length := by rfl) (hst : (assignEach es X.env).findIdx? (·.1) = none := by rfl) (hK : True := True.intro) :
    DG X (.Tuple es k pos) dom (gT gs) := ⟨PG.imp (pg_tup hc h.pgs hn hst) fun v σ H Q q => by
  obtain ⟨G, F, δ, τ, ts, r, R, kk, l1, l2, g, m, k⟩ := q
  have t := g.top
  match r, m, t with
  | .d (.tuple ds), m, t =>
    obtain ⟨hl, m⟩ := m
    cases t with
    | @tup a vs _ hs ha =>
      refine ⟨a, vs, rfl, sqT_mono g.fh (by rw [← kk]; exact (SqT.of hs)), ha.length.trans hl, ?_⟩
      exact ⟨G, F, δ, τ, ts, ds, R, kk, l1, l2, g.pop, ha, m, k⟩⟩
def mAsg (me : ME) (g : MG) : MS := fun ex E δ => me ex δ fun r => g r δ E.nx
theorem set_lift {i : Nat} (D : Ends) (σ : L2.St) (H : Hp) (q : liftS X.K X.mg W u (mAsg me (gN i)) D σ H) : tAsg (liftE X.K X.mg W u me) (gName i) D σ H := by
  obtain ⟨ex, G, F, δ, τ, ts, E, n, nb, eo, m⟩ := q
  refine ⟨ex, G, F, δ, τ, ts, [], [], _, n, m, fun r hr v F' H' g => ?_⟩
  have g' : Good (G.up u) F' (δ ++ τ ++ [some r]) (σ ++ ts ++ [some v]) H' := by simpa using g
  obtain ⟨hb, hi, hR⟩ := hr
  have g2 := g'.setTop (i := i) (by simp; omega)
  have l1 := n.l1
  rw [List.set_append_left _ _ hi, List.set_append_left _ _ (by omega)] at g2
  refine eo.nx _ hR u _ F' H' (Nat.le_refl _) (by simpa using l1) ?_ g2
  rw [← List.set_append_left _ _ hi]
  exact noBor_set nb hb
theorem ds_set {i : Nat} {x : Str} {pos' : Pos} (hN : X.N.Nodup) (hi : X.N[i]? = some x) (hx : Loc X.env.scope x) (he : DE X W e me u) (hs : swapsWith e (some (.Name x pos')) pos.line X.env = pure false := by rfl) (hf : X.fn x = true ∨ X.env.scope.names.lookup x = some .local := by first | exact .inl rfl | exact .inr rfl | assumption) :
    DS X W (.Assign [.Name x pos'] e pos) (mAsg me (gN i)) u := ⟨PS.imp (ps_set hN hi hx he.pe hs hf) set_lift⟩
end
end DL
namespace DL
open PySem PySem.Spec L2
section
variable {u u1 u2 u3 ut ue : Nat} {X : Cx} {W : WC} {a b c e : Expr} {es : List Expr} {pos : Pos} {ma me : ME} {mas : MA} {mt : MT} {mg : MG} {dom : List Nat} {m m1 m2 : MS}
def mWhile (t : MT) (b : MS) : MS := fun ex E δ => ∃ Wd : Nat → Env → Prop, (∃ n, Wd n δ) ∧ ∀ n δ, Wd n δ → t ex δ fun c =>
  (c = true → b ex { nx := fun δ' => ∃ k, k < n ∧ Wd k δ', ct := fun δ' => ∃ k, k < n ∧ Wd k δ', bk := E.nx, rt := E.rt, ro := E.ro } δ) ∧ (c = false → E.nx δ)
theorem ds_while {body : List Stmt} (hp : PassesOwn (model X.prog X.w) X.A X.env X.xe) (hc : DT X W c mt u1) (hb : DSs X W body m u2) (hu1 : u1 = 0 := by rfl) (hu2 : u2 = 0 := by rfl) : DS X W (.While c body [] pos) (mWhile mt m) 0 := ⟨PS.imp (ps_while hp hc.pt hb.pss) fun D σ H q => by
  obtain ⟨ex, G, F, δ, τ, ts, E, n, nb, eo, Wd, ⟨n0, w0⟩, turn⟩ := q
  subst hu1
  subst hu2
  refine ⟨fun k σ' H' => ∃ F' δ', Now X.K X.mg W 0 ex G F' δ' σ' τ ts [] [] H' ∧ NoBor (δ' ++ τ) ∧ Wd k δ', ⟨n0, F, δ, n, nb, w0⟩, ?_⟩
  rintro k σ1 H1 ⟨F1, δ1, n1, nb1, w1⟩
  refine ⟨ex, G, F1, δ1, τ, ts, [], [], _, n1, turn k δ1 w1, fun c hc F2 H2 g2 => ?_⟩
  have g2' : Good (G.up 0) F2 (δ1 ++ τ) (σ1 ++ ts) H2 := by simpa using g2
  cases c with
  | false =>
    show if false = true then _ else _
    rw [if_neg Bool.false_ne_true]
    exact eo.nx δ1 (hc.2 rfl) 0 σ1 F2 H2 (Nat.le_refl _) n1.l1 nb1 g2'
  | true =>
    show if true = true then _ else _
    rw [if_pos rfl]
    refine ⟨fun σ' H' => ∃ j, j < k ∧ ∃ F' δ', Now X.K X.mg W 0 ex G F' δ' σ' τ ts [] [] H' ∧ NoBor (δ' ++ τ) ∧ Wd j δ', fun σ' H' ⟨j, hj, h⟩ => ⟨j, hj, h⟩, ?_⟩
    have z0 : ∀ b : Nat, b ≤ 0 → b = 0 := fun b h => Nat.le_zero.mp h
    exact ⟨ex, G, F2, δ1, τ, ts, { nx := fun δ' => ∃ j, j < k ∧ Wd j δ', ct := fun δ' => ∃ j, j < k ∧ Wd j δ', bk := E.nx, rt := E.rt, ro := E.ro }, n1.to0 (b := 0) (Nat.le_refl _) n1.l1 g2', nb1,
      ⟨fun δ' ⟨j, hj, hw⟩ b σ' F' H' hb hl nb' g => ⟨j, hj, F', δ', n1.to0 (b := 0) (Nat.le_refl _) hl (by rw [z0 b hb] at g; exact g), nb', hw⟩, eo.nx, fun δ' ⟨j, hj, hw⟩ b σ' F' H' hb hl nb' g => ⟨j, hj, F', δ', n1.to0 (b := 0) (Nat.le_refl _) hl (by rw [z0 b hb] at g; exact g), nb', hw⟩, eo.rt, eo.ro⟩, hc.1 rfl⟩⟩
structure DIt where
  tmp : List DV
  items : List PyData
abbrev MI := XD → Env → (DIt → Prop) → Prop
def ItOk (G : Gm) (it : DIt) (ts : List V) (J : It) : Prop :=
  ∀ (b i : Nat) (F : Hp) (A B : Env) (A' B' : L2.St) (H : Hp), A.length = A'.length → B.length = B'.length → Good (G.up b) F (A ++ it.tmp.map some ++ B) (A' ++ ts.map some ++ B') H →
    (it.items.length ≤ i → J.stop i H) ∧ ∀ d, it.items[i]? = some d → J.go i H ∧ ∀ x H', J.yld i H x H' → ∃ F', Good (G.up b) F' (A ++ it.tmp.map some ++ B ++ [some (.d d)]) (A' ++ ts.map some ++ B' ++ [some x]) H'
def liftI (K : PySem.W.Frag) (mg : Str → Option Value) (W : WC) (u : Nat) (m : MI) : TI := fun σ H Q => ∃ (ex : XD) (G : Gm) (F : Hp) (δ τ : Env) (ts : L2.St) (τ1 : Env) (ts1 : L2.St) (R : DIt → Prop), Now K mg W u ex G F δ σ τ ts τ1 ts1 H ∧ m ex δ R ∧
  ∀ it, R it → ∀ (vs : List V) F' H' J, it.tmp.length = vs.length → Good (G.up u) F' (δ ++ τ ++ τ1 ++ it.tmp.map some) (σ ++ ts ++ ts1 ++ vs.map some) H' → ItOk G it vs J → Q J H'
structure DI (X : Cx) (W : WC) (tg e : Expr) (m : MI) (u : Nat) : Prop where
  pi : PI X tg e (liftI X.K X.mg W u m)
def DV.seq : DV → Option (List PyData)
  | .d (.list xs) => some xs
  | .d (.tuple xs) => some xs
  | .own xs => some xs
  | .bor xs => some xs
  | _ => none
def DV.rd : DV → Option (List PyData)
  | .d (.list xs) => some xs
  | .own xs => some xs
  | .bor xs => some xs
  | .scr ns => some (ns.map .int)
  | _ => none
def DV.lst : DV → Option (List PyData)
  | .d (.list xs) => some xs
  | .own xs => some xs
  | .bor xs => some xs
  | _ => none
theorem lst_of {G : Gm} {F H : Hp} {v : V} {x : DV} {xs : List PyData} (h : VOk G F H v x) (hf : Same F H) (e : x.lst = some xs) : ∃ l vs, v = .ref l ∧ H l = some (.lst vs) ∧ AtL G.K F vs xs := by
  match x, e, h with
  | .d (.list ys), e, h =>
    cases e
    cases h with
    | lst hs ha => exact ⟨_, _, rfl, hf _ _ hs, ha⟩
  | .own ys, e, h =>
    cases e
    obtain ⟨l, vs, rfl, h1, h2, _⟩ := h
    exact ⟨l, vs, rfl, h1, h2⟩
  | .bor ys, e, h =>
    cases e
    obtain ⟨l, vs, rfl, h1, h2, _⟩ := h
    exact ⟨l, vs, rfl, h1, h2⟩
theorem rd_of {G : Gm} {F H : Hp} {v : V} {x : DV} {xs : List PyData} (h : VOk G F H v x) (hf : Same F H) (e : x.rd = some xs) : ∃ l vs, v = .ref l ∧ SqL G.K H l vs ∧ AtL G.K F vs xs := by
  match x, e, h with
  | .d (.list ys), e, h =>
    cases e
    cases h with
    | lst hs ha => exact ⟨_, _, rfl, SqL.of (hf _ _ hs), ha⟩
  | .own ys, e, h =>
    cases e
    obtain ⟨l, vs, rfl, h1, h2, _⟩ := h
    exact ⟨l, vs, rfl, SqL.of h1, h2⟩
  | .bor ys, e, h =>
    cases e
    obtain ⟨l, vs, rfl, h1, h2, _⟩ := h
    exact ⟨l, vs, rfl, SqL.of h1, h2⟩
  | .scr ns, e, h =>
    cases e
    obtain ⟨l, rfl, h1⟩ := h
    exact ⟨l, _, rfl, sqL_mono hf h1, atL_ints ns⟩
theorem tup_of {G : Gm} {F H : Hp} {v : V} {xs : List PyData} (h : VOk G F H v (.d (.tuple xs))) (hf : Same F H) : ∃ l vs, v = .ref l ∧ SqT G.K H l vs ∧ AtL G.K F vs xs := by
  cases (show At G.K F v (.tuple xs) from h) with
  | tup hs ha => exact ⟨_, _, rfl, SqT.of (hf _ _ hs), ha⟩
def mIL (me : ME) : MI := fun ex δ R => me ex δ fun x => match x.rd with
  | some xs => R ⟨[x], xs⟩
  | none => False
theorem sub1 {G : Gm} {F H : Hp} {A : Env} {A' : L2.St} {x : DV} {v : V} (g : Good G F (A ++ [x].map some) (A' ++ [v].map some) H) : VOk G F H v x := Good.top (by simpa using g)
theorem di_list {tg : Expr} (h : DE X W e me u) : DI X W tg e (mIL me) u := ⟨PI.imp (pi_list h.pe) fun σ H Q q => by
  obtain ⟨ex, G, F, δ, τ, ts, τ1, ts1, R, n, m, k⟩ := q
  refine ⟨ex, G, F, δ, τ, ts, τ1, ts1, _, n, m, fun x hx v F1 H1 g1 => ?_⟩
  split at hx
  · rename_i xs e
    obtain ⟨l, vs, rfl, hs, ha⟩ := rd_of g1.top g1.fh e
    rw [n.k] at hs
    refine ⟨l, rfl, ⟨vs, hs⟩, k _ hx [.ref l] F1 H1 _ rfl (by simpa using g1) fun b i F2 A B A' B' H2 hA hB g2 => ?_⟩
    have ht := sub1 (g2.cut hB)
    obtain ⟨l', vs', e1, hs0, ha'⟩ := rd_of ht g2.fh e
    cases e1
    have hs' : SqL X.K H2 l vs' := by rw [← n.k]; exact hs0
    refine ⟨fun hi => ⟨vs', hs', by rw [ha'.length]; exact hi⟩, fun d hd => ?_⟩
    obtain ⟨w, ew, hw⟩ := ha'.get hd
    refine ⟨⟨vs', w, hs', ew⟩, fun y H3 hy => ?_⟩
    obtain ⟨rfl, hy⟩ := hy
    have := hy vs' hs'
    rw [ew] at this
    cases this
    exact ⟨F2, by simpa only [List.append_assoc] using g2.pushD hw⟩
  · exact hx.elim⟩
def mIT (me : ME) : MI := fun ex δ R => me ex δ fun x => match x with
  | .d (.tuple xs) => R ⟨[x], xs⟩
  | _ => False
theorem di_tup {tg : Expr} (h : DE X W e me u) : DI X W tg e (mIT me) u := ⟨PI.imp (pi_tup h.pe) fun σ H Q q => by
  obtain ⟨ex, G, F, δ, τ, ts, τ1, ts1, R, n, m, k⟩ := q
  refine ⟨ex, G, F, δ, τ, ts, τ1, ts1, _, n, m, fun x hx v F1 H1 g1 => ?_⟩
  match x, hx, g1 with
  | .d (.tuple xs), hx, g1 =>
    obtain ⟨l, vs, rfl, hs, ha⟩ := tup_of g1.top g1.fh
    refine ⟨l, rfl, ⟨vs, by rw [← n.k]; exact hs⟩, k _ hx [.ref l] F1 H1 _ rfl (by simpa using g1) fun b i F2 A B A' B' H2 hA hB g2 => ?_⟩
    have ht := sub1 (g2.cut hB)
    obtain ⟨l', vs', e1, hs', ha'⟩ := tup_of ht g2.fh
    cases e1
    rw [n.k] at hs'
    refine ⟨fun hi => ⟨vs', hs', by rw [ha'.length]; exact hi⟩, fun d hd => ?_⟩
    obtain ⟨w, ew, hw⟩ := ha'.get hd
    refine ⟨⟨vs', w, hs', ew⟩, fun y H3 hy => ?_⟩
    obtain ⟨rfl, hy⟩ := hy
    have := hy vs' hs'
    rw [ew] at this
    cases this
    exact ⟨F2, by simpa only [List.append_assoc] using g2.pushD hw⟩⟩
def rangeD (lo : Int) (n : Nat) : List PyData := (List.range n).map fun i => .int (lo + (i : Nat))
theorem rangeD_get {lo : Int} {n i : Nat} : (rangeD lo n)[i]? = if i < n then some (.int (lo + (i : Nat))) else none := by
  unfold rangeD
  rw [List.getElem?_map]
  by_cases h : i < n
  · rw [List.getElem?_range h, if_pos h]; rfl
  · rw [List.getElem?_eq_none (by simpa using h), if_neg h]; rfl
theorem rangeD_len {lo : Int} {n : Nat} : (rangeD lo n).length = n := by unfold rangeD; simp
theorem itr_ok (G : Gm) (lo : Int) (n : Nat) : ItOk G ⟨[], rangeD lo n⟩ [] (Itr lo n) := fun b i F A B A' B' H hA hB g => by
  refine ⟨fun h => by rw [rangeD_len] at h; exact h, fun d hd => ?_⟩
  rw [rangeD_get] at hd
  split at hd
  · rename_i hi
    cases hd
    refine ⟨hi, fun y H3 hy => ?_⟩
    obtain ⟨rfl, rfl⟩ := hy
    exact ⟨F, g.pushD (.int _)⟩
  · cases hd
def mR1 (t : MA) : MI := fun ex δ R => t ex δ fun xs => match xs with
  | [.d (.int j)] => -(2 ^ 62) ≤ j ∧ j < 2 ^ 62 ∧ R ⟨[], rangeD 0 j.toNat⟩
  | _ => False
def mR2 (t : MA) : MI := fun ex δ R => t ex δ fun xs => match xs with
  | [.d (.int i), .d (.int j)] => (-(2 ^ 62) ≤ i ∧ i < 2 ^ 62 ∧ -(2 ^ 62) ≤ j ∧ j < 2 ^ 62) ∧ R ⟨[], rangeD i (j - i).toNat⟩
  | _ => False
theorem int_of {G : Gm} {F H : Hp} {v : V} {i : Int} (h : VOk G F H v (.d (.int i))) : v = .int i := by
  cases (show At G.K F v (.int i) from h); rfl
theorem one_of {G : Gm} {F H : Hp} {A : Env} {A' : L2.St} {x : DV} {vs : List V} (hl : [x].length = vs.length) (g : Good G F (A ++ [x].map some) (A' ++ vs.map some) H) : ∃ v, vs = [v] ∧ VOk G F H v x ∧ Good G F A A' H := by
  match vs, hl with
  | [v], _ => exact ⟨v, rfl, sub1 g, Good.pop (x := some x) (y := some v) (by simpa using g)⟩
theorem two_of {G : Gm} {F H : Hp} {A : Env} {A' : L2.St} {x y : DV} {vs : List V} (hl : [x, y].length = vs.length) (g : Good G F (A ++ [x, y].map some) (A' ++ vs.map some) H) : ∃ v u, vs = [v, u] ∧ VOk G F H v x ∧ VOk G F H u y ∧ Good G F A A' H := by
  match vs, hl with
  | [v, u], _ =>
    have g' : Good G F (A ++ [some x] ++ [some y]) (A' ++ [some v] ++ [some u]) H := by simpa using g
    exact ⟨v, u, rfl, g'.pop.top, g'.top, g'.pop.pop⟩
theorem three_of {G : Gm} {F H : Hp} {A : Env} {A' : L2.St} {x y z : DV} {vs : List V} (hl : [x, y, z].length = vs.length) (g : Good G F (A ++ [x, y, z].map some) (A' ++ vs.map some) H) : ∃ v u w, vs = [v, u, w] ∧ VOk G F H v x ∧ VOk G F H u y ∧ VOk G F H w z ∧ Good G F A A' H := by
  match vs, hl with
  | [v, u, w], _ =>
    have g' : Good G F (A ++ [some x] ++ [some y] ++ [some z]) (A' ++ [some v] ++ [some u] ++ [some w]) H := by simpa using g
    exact ⟨v, u, w, rfl, g'.pop.pop.top, g'.pop.top, g'.top, g'.pop.pop.pop⟩
theorem di_range1 {tg : Expr} {p : Pos} (hg : Gl X "range") (hm : X.mg "range" = none) (ha : DA X W [a] mas u) (hs : starEach [a] X.env = [(false, eval a X.env)] := by rfl) : DI X W tg (.Call (.Name "range" p) [a] [] pos) (mR1 mas) u :=
  ⟨PI.imp (pi_range1 hg hm ha.pa hs) fun σ H Q q => by
    obtain ⟨ex, G, F, δ, τ, ts, τ1, ts1, R, n, m, k⟩ := q
    refine ⟨ex, G, F, δ, τ, ts, τ1, ts1, _, n, m, fun xs hxs vs F1 H1 hl g1 => ?_⟩
    match xs, hxs, hl, g1 with
    | [.d (.int j)], hxs, hl, g1 =>
      obtain ⟨h1, h2, hR⟩ := hxs
      obtain ⟨v, rfl, hv, g⟩ := one_of hl g1
      cases int_of hv
      exact ⟨j, rfl, h1, h2, k _ hR [] F1 H1 _ rfl (by simpa using g) (itr_ok _ 0 j.toNat)⟩⟩
theorem di_range2 {tg : Expr} {p : Pos} (hg : Gl X "range") (hm : X.mg "range" = none) (ha : DA X W [a, b] mas u) (hs : starEach [a, b] X.env = [(false, eval a X.env), (false, eval b X.env)] := by rfl) (hs2 : starEach [b] X.env = [(false, eval b X.env)] := by rfl) :
    DI X W tg (.Call (.Name "range" p) [a, b] [] pos) (mR2 mas) u :=
  ⟨PI.imp (pi_range2 hg hm ha.pa hs hs2) fun σ H Q q => by
    obtain ⟨ex, G, F, δ, τ, ts, τ1, ts1, R, n, m, k⟩ := q
    refine ⟨ex, G, F, δ, τ, ts, τ1, ts1, _, n, m, fun xs hxs vs F1 H1 hl g1 => ?_⟩
    match xs, hxs, hl, g1 with
    | [.d (.int i), .d (.int j)], hxs, hl, g1 =>
      obtain ⟨h1, hR⟩ := hxs
      obtain ⟨v, u, rfl, hv, hu, g⟩ := two_of hl g1
      cases int_of hv
      cases int_of hu
      exact ⟨i, j, rfl, h1, k _ hR [] F1 H1 _ rfl (by simpa using g) (itr_ok _ i (j - i).toNat)⟩⟩
def forRun (g : MG) (b : MS) (ex : XD) (E : DEnds) : List PyData → Env → Prop
  | [], δ => E.nx δ
  | d :: ds, δ => g (.d d) δ fun δ' => b ex { nx := forRun g b ex E ds, ct := forRun g b ex E ds, bk := E.nx, rt := E.rt, ro := E.ro } δ'
def mFor (mi : MI) (g : MG) (b : MS) : MS := fun ex E δ => mi ex δ fun it => (∀ x ∈ it.tmp, x.isBor = false) ∧ forRun g b ex E it.items δ
theorem drop_cons {α : Type} : ∀ {l : List α} {i : Nat} {x : α}, l[i]? = some x → l.drop i = x :: l.drop (i + 1)
  | [], i, x, h => by simp at h
  | a :: l, 0, x, h => by
    simp at h
    subst h
    rfl
  | a :: l, i + 1, x, h => by
    simp only [List.drop_succ_cons]
    exact drop_cons (by simpa using h)
theorem nb_app {A B C : Env} (h : NoBor (A ++ B)) (hc : NoBor C) : NoBor (A ++ (B ++ C)) := fun i x e => by
  rw [← List.append_assoc] at e
  rcases Nat.lt_or_ge i (A ++ B).length with q | q
  · rw [List.getElem?_append_left q] at e
    exact h i x e
  · rw [List.getElem?_append_right q] at e
    exact hc _ x e
theorem nb_left {A B : Env} (h : NoBor (A ++ B)) : NoBor A := fun i x e => h i x (by rw [List.getElem?_append_left (List.getElem?_eq_some_iff.mp e).1]; exact e)
theorem nb_right {A B : Env} (h : NoBor (A ++ B)) : NoBor B := fun i x e => h (A.length + i) x (by rw [List.getElem?_append_right (Nat.le_add_right _ _), Nat.add_sub_cancel_left]; exact e)
theorem nb_mk {A B : Env} (h : NoBor A) (h2 : NoBor B) : NoBor (A ++ B) := fun i x e => by
  rcases Nat.lt_or_ge i A.length with q | q
  · rw [List.getElem?_append_left q] at e
    exact h i x e
  · rw [List.getElem?_append_right q] at e
    exact h2 _ x e
def mForN (N : Nat) (mi : MI) (g : MG) (b : MS) : MS := fun ex E δ => mi ex δ fun it => it.items.length ≤ N ∧ (∀ x ∈ it.tmp, x.isBor = false) ∧ forRun g b ex E it.items δ
theorem for_lift {mi : MI} {D : Ends} {σ : L2.St} {H : Hp} {ex : XD} {G : Gm} {F : Hp} {δ τ : Env} {ts : L2.St} {E : DEnds} {S : DIt → Prop} (n : Now X.K X.mg W (u1 + u3) ex G F δ σ τ ts [] [] H) (nb : NoBor (δ ++ τ)) (eo : EndsOk G (u1 + u3) τ ts E D) (mm : mi ex δ S)
    (hS : ∀ it, S it → it.items.length * u2 ≤ u3 ∧ (∀ x ∈ it.tmp, x.isBor = false) ∧ forRun mg m ex E it.items δ) : tFor (liftI X.K X.mg W u1 mi) (liftG X.K dom mg) (liftS X.K X.mg W u2 m) D σ H := by
  refine ⟨ex, G, F, δ, τ, ts, [], [], _, n.fst, mm, fun it hit vs F1 H1 J hl g1 ok => ?_⟩
  obtain ⟨hlen, htb, hrun⟩ := hS it hit
  have hT : NoBor (it.tmp.map some) := fun i x e => by
    rw [List.getElem?_map] at e
    cases q : it.tmp[i]? with
    | none => rw [q] at e; cases e
    | some y =>
      rw [q] at e
      cases e
      exact htb _ (List.mem_of_getElem? q)
  have hlT : (it.tmp.map some).length = (vs.map some).length := by simpa using hl
  have room : ∀ {i : Nat}, i < it.items.length → u1 + i * u2 + u2 ≤ u1 + u3 := fun {i} h => by
    have h1 : (i + 1) * u2 ≤ it.items.length * u2 := Nat.mul_le_mul_right _ h
    rw [Nat.succ_mul] at h1
    omega
  have more : ∀ (i : Nat), (i + 1) * u2 = i * u2 + u2 := fun i => Nat.succ_mul i u2
  have lk : ∀ {i : Nat}, i < it.items.length → Link X.K X.mg W u2 (G.up (u1 + i * u2)) (τ ++ it.tmp.map some) (ts ++ vs.map some) ex := fun {i} hi b F δ σ H τ1 ts1 e cls d hb h1 h2 h3 h4 =>
    n.link (u1 + i * u2 + b) F δ σ H (it.tmp.map some ++ τ1) (vs.map some ++ ts1) e cls d (by have := room hi; omega) h1 (by rw [← up_up]; simpa only [List.append_assoc] using h2) h3 h4
  refine ⟨fun i k σ' H' => k = it.items.length - i ∧ i ≤ it.items.length ∧ ∃ F' δ', δ'.length = σ'.length ∧ Good (G.up (u1 + i * u2)) F' (δ' ++ (τ ++ it.tmp.map some)) (σ' ++ (ts ++ vs.map some)) H' ∧ NoBor (δ' ++ τ) ∧ forRun mg m ex E (it.items.drop i) δ',
    ⟨it.items.length, by simp, Nat.zero_le _, F1, δ, n.l1, by rw [Nat.zero_mul]; simpa using g1, nb, by simpa using hrun⟩, ?_⟩
  rintro i k σ2 H2 ⟨rfl, hi, F2, δ2, l2, g2, nb2, r2⟩
  have g2' : Good (G.up (u1 + i * u2)) F2 (δ2 ++ τ ++ it.tmp.map some) (σ2 ++ ts ++ vs.map some) H2 := by simpa only [List.append_assoc] using g2
  have hA : (δ2 ++ τ).length = (σ2 ++ ts).length := by simp [l2, n.l2]
  obtain ⟨o1, o2⟩ := ok (u1 + i * u2) i F2 _ [] _ [] H2 hA rfl (by simpa using g2')
  cases hd : it.items[i]? with
  | none =>
    have hi2 : it.items.length ≤ i := List.getElem?_eq_none_iff.mp hd
    rw [List.drop_eq_nil_of_le hi2] at r2
    have le1 : u1 + i * u2 ≤ u1 + u3 := by
      have := Nat.mul_le_mul_right u2 hi
      omega
    exact .inl ⟨o1 hi2, eo.nx δ2 r2 _ σ2 F2 H2 le1 l2 nb2 (g2'.cut hlT)⟩
  | some d =>
    have hi2 : i < it.items.length := (List.getElem?_eq_some_iff.mp hd).1
    obtain ⟨go, yl⟩ := o2 d hd
    rw [drop_cons hd] at r2
    have end' : ∀ δ3, forRun mg m ex E (it.items.drop (i + 1)) δ3 → ∀ σ3 F3 H3, δ3.length = σ3.length → NoBor (δ3 ++ (τ ++ it.tmp.map some)) → Good (G.up (u1 + (i + 1) * u2)) F3 (δ3 ++ (τ ++ it.tmp.map some)) (σ3 ++ (ts ++ vs.map some)) H3 →
        ∃ k', k' < it.items.length - i ∧ (k' = it.items.length - (i + 1) ∧ i + 1 ≤ it.items.length ∧ ∃ F' δ', δ'.length = σ3.length ∧ Good (G.up (u1 + (i + 1) * u2)) F' (δ' ++ (τ ++ it.tmp.map some)) (σ3 ++ (ts ++ vs.map some)) H3 ∧ NoBor (δ' ++ τ) ∧ forRun mg m ex E (it.items.drop (i + 1)) δ') :=
      fun δ3 h3 σ3 F3 H3 l3 nb3 g3 => ⟨_, by omega, rfl, hi2, F3, δ3, l3, g3, nb_left (B := it.tmp.map some) (by simpa only [List.append_assoc] using nb3), h3⟩
    refine .inr ⟨go, fun σ' H' => ∃ F' δ', δ'.length = σ'.length ∧ Good (G.up (u1 + (i + 1) * u2)) F' (δ' ++ (τ ++ it.tmp.map some)) (σ' ++ (ts ++ vs.map some)) H' ∧ NoBor (δ' ++ τ) ∧ forRun mg m ex E (it.items.drop (i + 1)) δ',
      fun σ' H' h => ⟨_, by omega, rfl, hi2, h⟩, fun x H3 hy => ?_⟩
    obtain ⟨F3, g3⟩ := yl x H3 hy
    rw [List.append_nil, List.append_nil] at g3
    have rm := room hi2
    refine ⟨G.up (u1 + i * u2), F3, δ2, τ ++ it.tmp.map some, ts ++ vs.map some, .d d, _, n.k, l2, by simp [n.l2, hl], by simpa only [List.append_assoc] using g3, r2, fun δ3 h3 σ3 F4 H4 k1 k2 k3 k4 g4 => ?_⟩
    have l3 : δ3.length = σ3.length := by omega
    have nb3 : NoBor (δ3 ++ (τ ++ it.tmp.map some)) := nb_app (nb_mk (k4 (nb_left nb2)) (nb_right nb)) hT
    refine ⟨ex, G.up (u1 + i * u2), F4, δ3, τ ++ it.tmp.map some, ts ++ vs.map some, { nx := forRun mg m ex E (it.items.drop (i + 1)), ct := forRun mg m ex E (it.items.drop (i + 1)), bk := E.nx, rt := E.rt, ro := E.ro }, ⟨n.k, l3, by simp [n.l2, hl], by simpa using g4, lk hi2, n.ck.1, by have := n.ck.2; show G.n + (u1 + i * u2) + u2 ≤ G.lim; omega⟩, nb3, ⟨?_, ?_, ?_, fun r h ha b v F H hb g => eo.rt r h ha (u1 + i * u2 + b) v F H (by omega) (by rw [← up_up]; exact g), fun r δ h b v σ F H hb l g => eo.ro r δ h (u1 + i * u2 + b) v σ F H (by omega) l (by rw [up_up] at g; exact g)⟩, h3⟩
    · exact fun δ5 h5 b σ5 F5 H5 hb l5 nb5 g5 => ⟨F5, δ5, l5, by rw [up_up] at g5; exact g5.mono (by have := more i; omega), nb_left (B := it.tmp.map some) (by simpa only [List.append_assoc] using nb5), h5⟩
    · refine fun δ5 h5 b σ5 F5 H5 hb l5 nb5 g5 => eo.nx δ5 h5 (u1 + i * u2 + b) σ5 F5 H5 (by omega) l5 (nb_left (B := it.tmp.map some) (by simpa only [List.append_assoc] using nb5)) ?_
      exact Good.cut hlT (by rw [up_up] at g5; simpa only [List.append_assoc] using g5)
    · exact fun δ5 h5 b σ5 F5 H5 hb l5 nb5 g5 => ⟨F5, δ5, l5, by rw [up_up] at g5; exact g5.mono (by have := more i; omega), nb_left (B := it.tmp.map some) (by simpa only [List.append_assoc] using nb5), h5⟩
theorem ds_for {tg : Expr} {body : List Stmt} {mi : MI} (hp : PassesOwn (model X.prog X.w) X.A X.env X.xe) (hc : X.calm = true) (hi : DI X W tg e mi u1) (hg : DG X tg dom mg) (hb : DSs X W body m u2) (hu : u2 = 0 := by rfl)
    (hs : ∀ x, foldedSetIterable e X.env x = pure x := by intro _; rfl) : DS X W (.For tg e body [] pos) (mFor mi mg m) u1 := ⟨PS.imp (ps_for hp hc hi.pi hg.pg hb.pss hs) fun D σ H q => by
  obtain ⟨ex, G, F, δ, τ, ts, E, n, nb, eo, mm⟩ := q
  exact for_lift (u1 := u1) (u3 := 0) (S := _) n nb eo mm fun it h => ⟨by rw [hu, Nat.mul_zero]; exact Nat.le_refl _, h.1, h.2⟩⟩
theorem ds_forN (N : Nat) {tg : Expr} {body : List Stmt} {mi : MI} (hp : PassesOwn (model X.prog X.w) X.A X.env X.xe) (hc : X.calm = true) (hi : DI X W tg e mi u1) (hg : DG X tg dom mg) (hb : DSs X W body m u2)
    (hs : ∀ x, foldedSetIterable e X.env x = pure x := by intro _; rfl) : DS X W (.For tg e body [] pos) (mForN N mi mg m) (u1 + N * u2) := ⟨PS.imp (ps_for hp hc hi.pi hg.pg hb.pss hs) fun D σ H q => by
  obtain ⟨ex, G, F, δ, τ, ts, E, n, nb, eo, mm⟩ := q
  exact for_lift (u1 := u1) (u3 := N * u2) (S := _) n nb eo mm fun it h => ⟨Nat.mul_le_mul_right _ h.1, h.2.1, h.2.2⟩⟩
structure DTs (X : Cx) (W : WC) (ifs : List Expr) (m : MT) (u : Nat) : Prop where
  pts : PTs X ifs (liftT X.K X.mg W u m)
def mYes : MT := fun _ _ R => R true
theorem PTs.imp {X : Cx} {e : List Expr} {t t' : TT} (h : PTs X e t) (i : ∀ σ H Q, t' σ H Q → t σ H Q) : PTs X e t' := ⟨fun pins s σ H Q I q => h.run pins s σ H Q I (i _ _ _ q)⟩
theorem dts_nil : DTs X W [] mYes 0 := ⟨PTs.imp pts_nil fun σ H Q q => by
  obtain ⟨ex, G, F, δ, τ, ts, τ1, ts1, R, n, m, k⟩ := q
  exact k _ m F H (n.good.later 0)⟩
theorem dts_one (h : DT X W c mt u) : DTs X W [c] mt u := ⟨pts_one h.pt⟩
def wipeD (δ : Env) : List Nat → Env
  | [] => δ
  | v :: vs => (wipeD δ vs).set v none
theorem wipeD_len (δ : Env) : ∀ vs, (wipeD δ vs).length = δ.length
  | [] => rfl
  | v :: vs => by unfold wipeD; rw [List.length_set, wipeD_len δ vs]
theorem wipeD_some {δ : Env} {i : Nat} {x : DV} : ∀ {vs : List Nat}, (wipeD δ vs)[i]? = some (some x) → δ[i]? = some (some x) ∧ i ∉ vs
  | [], h => ⟨h, by simp⟩
  | v :: vs, h => by
    unfold wipeD at h
    rcases get_set h with ⟨_, q, _⟩ | ⟨h1, h2⟩
    · cases q
    · obtain ⟨h3, h4⟩ := wipeD_some h2
      exact ⟨h3, by simp only [List.mem_cons, not_or]; exact ⟨h1, h4⟩⟩
def seenD (δ : Env) : Env := δ.map (Option.map DV.seen)
theorem seenD_some {δ : Env} {i : Nat} {x : DV} (e : (seenD δ)[i]? = some (some x)) : ∃ y, δ[i]? = some (some y) ∧ x = y.seen := by
  unfold seenD at e
  rw [List.getElem?_map] at e
  cases q : δ[i]? with
  | none => rw [q] at e; cases e
  | some o =>
    rw [q] at e
    cases o with
    | none => simp at e
    | some y =>
      simp at e
      exact ⟨y, rfl, e.symm⟩
theorem Good.tail {G : Gm} {F H : Hp} {P A : Env} {P' A' : L2.St} (hl : P.length = P'.length) (g : Good G F (P ++ A) (P' ++ A') H) : Good G F A A' H := by
  have up : ∀ {α : Type} {P A : List α} {i : Nat}, (P ++ A)[P.length + i]? = A[i]? := fun {α P A i} => by
    rw [List.getElem?_append_right (Nat.le_add_right _ _), Nat.add_sub_cancel_left]
  refine ⟨g.g, by have := g.len; simp [hl] at this; exact this, g.f0, g.fh, g.fr, g.bh, g.cf, g.jh, fun i x e => ?_, fun i j x y l hx hy e1 e2 e3 e4 => ?_⟩
  · obtain ⟨v, h1, h2⟩ := g.sl (P.length + i) x (by rw [up]; exact e)
    rw [hl, up] at h1
    exact ⟨v, h1, h2⟩
  · have := g.di (P.length + i) (P.length + j) x y l hx hy (by rw [up]; exact e1) (by rw [up]; exact e2) (by rw [hl, up]; exact e3) (by rw [hl, up]; exact e4)
    omega
theorem Good.dup {G : Gm} {F H : Hp} {δ A : Env} {σ A' : L2.St} (hl : δ.length = σ.length) (vs : List Nat) (g : Good G F (δ ++ A) (σ ++ A') H) : Good G F (wipeD (seenD δ) vs ++ (δ ++ A)) (wipe σ vs ++ (σ ++ A')) H := by
  have lw : (wipeD (seenD δ) vs).length = δ.length := by rw [wipeD_len]; simp [seenD]
  have lw' : (wipe σ vs).length = δ.length := by rw [wipe_length, hl]
  have cut : ∀ {i : Nat} {x : DV}, (wipeD (seenD δ) vs ++ (δ ++ A))[i]? = some (some x) → (i < δ.length ∧ ∃ y, δ[i]? = some (some y) ∧ x = y.seen ∧ (wipe σ vs ++ (σ ++ A'))[i]? = σ[i]?) ∨ (δ.length ≤ i ∧ (δ ++ A)[i - δ.length]? = some (some x) ∧ (wipe σ vs ++ (σ ++ A'))[i]? = (σ ++ A')[i - δ.length]?) := fun {i x} e => by
    rcases Nat.lt_or_ge i δ.length with q | q
    · rw [List.getElem?_append_left (by omega)] at e
      obtain ⟨e1, e2⟩ := wipeD_some e
      obtain ⟨y, e3, e4⟩ := seenD_some e1
      refine .inl ⟨q, y, e3, e4, ?_⟩
      rw [List.getElem?_append_left (by omega)]
      exact wipe_out e2
    · rw [List.getElem?_append_right (by omega), lw] at e
      refine .inr ⟨q, e, ?_⟩
      rw [List.getElem?_append_right (by omega), lw']
  refine ⟨g.g, ?_, g.f0, g.fh, g.fr, g.bh, g.cf, g.jh, fun i x e => ?_, fun i j x y l hx hy e1 e2 e3 e4 => ?_⟩
  · have := g.len
    simp only [List.length_append] at this ⊢
    omega
  · rcases cut e with ⟨q, y, e1, rfl, e2⟩ | ⟨q, e1, e2⟩
    · obtain ⟨v, h1, h2⟩ := g.sl i y (by rw [List.getElem?_append_left q]; exact e1)
      rw [List.getElem?_append_left (by omega)] at h1
      exact ⟨v, by rw [e2]; exact h1, seen_ok h2⟩
    · obtain ⟨v, h1, h2⟩ := g.sl _ x e1
      exact ⟨v, by rw [e2]; exact h1, h2⟩
  · rcases cut e1 with ⟨q, z, _, rfl, _⟩ | ⟨q, f1, f2⟩
    · rw [seen_own] at hx; cases hx
    · rcases cut e2 with ⟨q', z, _, rfl, _⟩ | ⟨q', f3, f4⟩
      · rw [seen_own] at hy; cases hy
      · rw [f2] at e3
        rw [f4] at e4
        have := g.di _ _ x y l hx hy f1 f3 e3 e4
        omega
theorem wipe_get {σ : L2.St} {i : Nat} : ∀ {vs : List Nat}, i ∈ vs → i < σ.length → (wipe σ vs)[i]? = some none
  | v :: vs, h, hi => by
    unfold wipe
    by_cases q : v = i
    · subst q
      rw [List.getElem?_set_self (by rw [wipe_length]; exact hi)]
    · rw [List.getElem?_set_ne q]
      exact wipe_get ((List.mem_cons.mp h).resolve_left fun z => q z.symm) hi
theorem wipe_same {σ σ' : L2.St} {vs dom : List Nat} (hl : σ'.length = (wipe σ vs).length) (hd : ∀ j ∈ dom, j ∈ vs) (h : ∀ j, j ∉ dom → σ'[j]? = (wipe σ vs)[j]?) : wipe σ' vs = wipe σ vs := by
  apply List.ext_getElem?
  intro i
  rw [wipe_length] at hl
  by_cases hi : i ∈ vs
  · by_cases hb : i < σ.length
    · rw [wipe_get hi (by omega), wipe_get hi hb]
    · rw [List.getElem?_eq_none (by rw [wipe_length]; omega), List.getElem?_eq_none (by rw [wipe_length]; omega)]
  · rw [wipe_out hi]
    exact h i fun z => hi (hd i z)
abbrev ex0 : XD := fun _ _ => False
abbrev W0 (W : WC) : WC := ⟨fun _ _ _ _ => False, W.ck⟩
def lcRun (g : MG) (tt : MT) (te : ME) (δ : Env) (R : DV → Prop) : List PyData → List PyData → Prop
  | [], acc => R (.own acc)
  | d :: ds, acc => g (.d d) δ fun δ' => tt ex0 δ' fun c => (c = true → te ex0 δ' fun y => match y.val with
      | some z => acc.length < sizeLine ∧ lcRun g tt te δ R ds (acc ++ [z])
      | none => False) ∧ (c = false → lcRun g tt te δ R ds acc)
def mLc (mi : MI) (g : MG) (tt : MT) (te : ME) (vs : List Nat) : ME := fun ex δ R => mi ex δ fun it => lcRun g tt te (wipeD (seenD δ) vs) R it.items []
theorem Good.dropMid {G : Gm} {F H : Hp} {A B : Env} {A' B' : L2.St} {x : DV} {v : V} (hB : B.length = B'.length) (g : Good G F (A ++ B ++ [some x]) (A' ++ B' ++ [some v]) H) : Good G F (A ++ [some x]) (A' ++ [some v]) H := by
  have g1 := g.pop.cut hB
  have t := g.top
  have hl := g1.len
  refine g1.push t fun ho i y hy e q => ?_
  have hl2 : (A ++ B).length = (A' ++ B').length := by simp [hl, hB]
  have hi : i < A.length := (List.getElem?_eq_some_iff.mp e).1
  obtain ⟨l, hv⟩ : ∃ l, v = .ref l := by
    obtain ⟨l, _, h, _⟩ := own_at t ho
    exact ⟨l, h⟩
  subst hv
  have := g.di i (A ++ B).length y x l hy ho (by rw [List.append_assoc, List.getElem?_append_left hi]; exact e) (by simp) (by rw [List.append_assoc, List.getElem?_append_left (by omega)]; exact q) (by rw [hl2]; simp)
  simp at this
  omega
theorem pass_blk {X : Cx} {W : WC} {u : Nat} : ∀ {G : Gm} {τ : Env} {ts : L2.St}, Link X.K X.mg (W0 W) u G τ ts ex0 := fun b F δ σ H τ1 ts1 e cls d _ _ _ _ h => h
section
variable {elt tg iter : Expr} {ifs : List Expr} {scope : Scope} {own : List (Str × Nat)} {mi : MI} {tt : MT} {te : ME}
theorem lc_lift {g : MG} (hdom : ∀ j ∈ dom, j ∈ own.map (·.2)) {σ : L2.St} {H : Hp} {Q : VK} {ex : XD} {G : Gm} {F : Hp} {δ τ : Env} {ts : L2.St} {τ1 : Env} {ts1 : L2.St} {R : DV → Prop} {S : DIt → Prop} (n : Now X.K X.mg W (u1 + u3) ex G F δ σ τ ts τ1 ts1 H) (m : mi ex δ S)
    (k : ∀ r, R r → ∀ v F' H', Good (G.up (u1 + u3)) F' (δ ++ τ ++ τ1 ++ [some r]) (σ ++ ts ++ ts1 ++ [some v]) H' → Q v H') (hS : ∀ it, S it → it.items.length * (ut + ue) ≤ u3 ∧ lcRun g tt te (wipeD (seenD δ) (own.map (·.2))) R it.items []) :
    tLc (liftI X.K X.mg W u1 mi) (liftG X.K dom g) (liftT X.K X.mg (W0 W) ut tt) (liftE X.K X.mg (W0 W) ue te) (own.map (·.2)) σ H Q := by
  refine ⟨ex, G, F, δ, τ, ts, τ1, ts1, _, n.fst, m, fun it hit0 ws F1 H1 J hl g1 ok D hD => ?_⟩
  obtain ⟨hlen, hit⟩ := hS it hit0
  have more : ∀ (i : Nat), (i + 1) * (ut + ue) = i * (ut + ue) + (ut + ue) := fun i => Nat.succ_mul i _
  have roomI : ∀ {i : Nat}, i < it.items.length → u1 + i * (ut + ue) + (ut + ue) ≤ u1 + u3 := fun {i} h => by
    have h1 : (i + 1) * (ut + ue) ≤ it.items.length * (ut + ue) := Nat.mul_le_mul_right _ h
    rw [Nat.succ_mul] at h1
    omega
  have gD := g1.newO (p := D) (vs := []) (ds := []) hD .nil
  have hlT : (it.tmp.map some).length = (ws.map some).length := by simpa using hl
  have hB : ∀ (j : Nat) (x : DV), (δ ++ τ ++ τ1 ++ it.tmp.map some)[j]? = some (some x) → x.isBor = true → (σ ++ ts ++ ts1 ++ ws.map some)[j]? ≠ some (some (V.ref D)) := fun j x e b q => by
    obtain ⟨v, h1, h2⟩ := g1.sl j x e
    rw [q] at h1
    cases h1
    obtain ⟨l, o, r1, r2, _⟩ := bor_at h2 (by rw [b, Bool.or_true])
    cases r1
    rw [hD] at r2
    cases r2
  obtain ⟨A, hA⟩ : ∃ A, A = δ ++ τ ++ τ1 ++ it.tmp.map some := ⟨_, rfl⟩
  obtain ⟨A', hA'⟩ : ∃ A', A' = σ ++ ts ++ ts1 ++ ws.map some := ⟨_, rfl⟩
  have lA : A.length = A'.length := by rw [hA, hA']; exact g1.len
  refine ⟨fun i j H' => j = it.items.length - i ∧ i ≤ it.items.length ∧ ∃ F' acc, Good (G.up (u1 + i * (ut + ue))) F' (A ++ [some (.own acc)]) (A' ++ [some (.ref D)]) H' ∧ lcRun g tt te (wipeD (seenD δ) (own.map (·.2))) R (it.items.drop i) acc,
    ⟨it.items.length, by simp, Nat.zero_le _, F1, [], by rw [hA, hA', Nat.zero_mul]; exact gD, by simpa using hit⟩, ?_⟩
  rintro i j H2 ⟨rfl, hi, F2, acc, g2, r2⟩
  have g2' : Good (G.up (u1 + i * (ut + ue))) F2 (δ ++ τ ++ τ1 ++ it.tmp.map some ++ [some (.own acc)]) (σ ++ ts ++ ts1 ++ ws.map some ++ [some (.ref D)]) H2 := by rw [← hA, ← hA']; exact g2
  obtain ⟨o1, o2⟩ := ok (u1 + i * (ut + ue)) i F2 _ _ _ _ H2 n.good.len rfl g2'
  cases hd : it.items[i]? with
  | none =>
    have hi2 : it.items.length ≤ i := List.getElem?_eq_none_iff.mp hd
    rw [List.drop_eq_nil_of_le hi2] at r2
    have le1 : u1 + i * (ut + ue) ≤ u1 + u3 := by
      have := Nat.mul_le_mul_right (ut + ue) hi
      omega
    exact .inl ⟨o1 hi2, k _ r2 _ F2 H2 ((g2'.dropMid hlT).mono le1)⟩
  | some d =>
    have hi2 : i < it.items.length := (List.getElem?_eq_some_iff.mp hd).1
    obtain ⟨go, yl⟩ := o2 d hd
    rw [drop_cons hd] at r2
    refine .inr ⟨go, fun H' => ∃ F' acc, Good (G.up (u1 + (i + 1) * (ut + ue))) F' (A ++ [some (.own acc)]) (A' ++ [some (.ref D)]) H' ∧ lcRun g tt te (wipeD (seenD δ) (own.map (·.2))) R (it.items.drop (i + 1)) acc,
      fun H' h => ⟨_, by omega, rfl, hi2, h⟩, fun x H3 hy => ?_⟩
    obtain ⟨F3, g3⟩ := yl x H3 hy
    obtain ⟨B, hBe⟩ : ∃ B, B = A ++ [some (DV.own acc)] := ⟨_, rfl⟩
    obtain ⟨B', hBe'⟩ : ∃ B', B' = A' ++ [some (V.ref D)] := ⟨_, rfl⟩
    have lB : B.length = B'.length := by rw [hBe, hBe']; simp [lA]
    have g4 : Good (G.up (u1 + i * (ut + ue))) F3 (wipeD (seenD δ) (own.map (·.2)) ++ B ++ [some (.d d)]) (wipe σ (own.map (·.2)) ++ B' ++ [some x]) H3 := by
      have := Good.dup (A := τ ++ τ1 ++ it.tmp.map some ++ [some (.own acc)] ++ [some (.d d)]) (A' := ts ++ ts1 ++ ws.map some ++ [some (.ref D)] ++ [some x]) n.l1 (own.map (·.2)) (by simpa only [List.append_assoc] using g3)
      rw [hBe, hBe', hA, hA']
      simpa only [List.append_assoc] using this
    have lw : (wipeD (seenD δ) (own.map (·.2))).length = (wipe σ (own.map (·.2))).length := by rw [wipeD_len, wipe_length, ← n.l1]; simp [seenD]
    refine ⟨G.up (u1 + i * (ut + ue)), F3, _, B, B', .d d, _, n.k, lw, lB, g4, r2, fun δ' hr σ' F4 H4 k1 k2 k3 k4 g5 => ⟨wipe_same k2 hdom k3, ?_⟩⟩
    have l5 : δ'.length = σ'.length := by omega
    refine ⟨ex0, G.up (u1 + i * (ut + ue)), F4, δ', B, B', [], [], _, ⟨n.k, l5, lB, by simpa using g5, pass_blk, n.ck.1, by have := n.ck.2; have := roomI hi2; show G.n + (u1 + i * (ut + ue)) + ut ≤ G.lim; omega⟩, hr, fun bb hb F5 H5 g6 => ?_⟩
    have g6' : Good (G.up (u1 + i * (ut + ue) + ut)) F5 (δ' ++ B) (σ' ++ B') H5 := by rw [up_up] at g6; simpa using g6
    cases bb with
    | false =>
      show if false = true then _ else _
      rw [if_neg Bool.false_ne_true]
      refine ⟨F5, acc, ?_, hb.2 rfl⟩
      rw [← hBe, ← hBe']
      exact (g6'.tail l5).mono (by have := more i; omega)
    | true =>
      show if true = true then _ else _
      rw [if_pos rfl]
      refine ⟨ex0, G.up (u1 + i * (ut + ue) + ut), F5, δ', B, B', [], [], _, ⟨n.k, l5, lB, by simpa using g6', pass_blk, n.ck.1, by have := n.ck.2; have := roomI hi2; show G.n + (u1 + i * (ut + ue) + ut) + ue ≤ G.lim; omega⟩, hb.1 rfl, fun y hy v F6 H6 g7 => ?_⟩
      split at hy
      · rename_i z ez
        obtain ⟨hz, hrun⟩ := hy
        have e7 : u1 + i * (ut + ue) + ut + ue = u1 + (i + 1) * (ut + ue) := by have := more i; omega
        rw [up_up, e7] at g7
        have g7' : Good (G.up (u1 + (i + 1) * (ut + ue))) F6 (δ' ++ B ++ some y :: []) (σ' ++ B' ++ [some v]) H6 := by simpa using g7
        obtain ⟨F7, s7, g8⟩ := fix_one g7' ez
        have g8' : Good (G.up (u1 + (i + 1) * (ut + ue))) F7 (δ' ++ B ++ [some (.d z)]) (σ' ++ B' ++ [some v]) H6 := g8
        have at7 : At G.K F7 v z := g8'.top
        have g9 := g8'.pop.tail l5
        rw [hBe, hBe'] at g9
        obtain ⟨l, ws2, e1, e2, e3, _⟩ := g9.top
        cases e1
        refine ⟨ws2, e2, Nat.lt_of_le_of_lt (Nat.le_of_eq (AtL.length e3)) hz, F7, acc ++ [z], ?_, hrun⟩
        have g10 := g9.write' (n := A.length) (xs := acc) (l := D) (ws := ws2 ++ [v]) (ys := acc ++ [z]) (fun j x e b q => ?_) (by simp) (by rw [lA]; simp) (e3.append (.cons at7 .nil))
        · have e : (A ++ [some (DV.own acc)]).set A.length (some (DV.own (acc ++ [z]))) = A ++ [some (DV.own (acc ++ [z]))] := by
            rw [List.set_append_right _ _ (Nat.le_refl _), Nat.sub_self]
            rfl
          rw [e] at g10
          exact g10
        · rcases Nat.lt_or_ge j A.length with hj | hj
          · rw [List.getElem?_append_left hj] at e
            rw [List.getElem?_append_left (by omega)] at q
            rw [hA] at e
            rw [hA'] at q
            exact hB j x e b q
          · rw [List.getElem?_append_right hj] at e
            have : j - A.length = 0 := by
              have := (List.getElem?_eq_some_iff.mp e).1
              simp at this
              omega
            rw [this] at e
            cases e
            cases b
      · exact hy.elim
theorem de_lc {g : MG} (hc : X.calm = true) (hN : X.N.Nodup) (hi : DI X W tg iter mi u1) (ok : BlkOk X.N X.env.scope scope own) (hdom : ∀ j ∈ dom, j ∈ own.map (·.2))
    (hg : ∀ (s : Shared) (H : Hp) (C : Addr) (cl : List (Str × Addr)) (fp : List Addr), DG (X.blk s H scope (compEnvC scope cl C X.env) fp) tg dom g)
    (ht : ∀ (s : Shared) (H : Hp) (C : Addr) (cl : List (Str × Addr)) (fp : List Addr), DTs (X.blk s H scope (compEnvC scope cl C X.env) fp) (W0 W) ifs tt ut)
    (he : ∀ (s : Shared) (H : Hp) (C : Addr) (cl : List (Str × Addr)) (fp : List Addr), DE (X.blk s H scope (compEnvC scope cl C X.env) fp) (W0 W) elt te ue) (hut : ut = 0 := by rfl) (hue : ue = 0 := by rfl) (hs : ∀ x, foldedSetIterable iter X.env x = pure x := by intro _; rfl) :
    DE X W (.ListComp elt [⟨tg, iter, ifs, 0⟩] scope pos) (mLc mi g tt te (own.map (·.2))) u1 :=
  ⟨PE.imp (pe_lc hc hN hi.pi ok (fun s H C cl fp => (hg s H C cl fp).pg) (fun s H C cl fp => (ht s H C cl fp).pts) (fun s H C cl fp => (he s H C cl fp).pe) hs) fun σ H Q q => by
    obtain ⟨ex, G, F, δ, τ, ts, τ1, ts1, R, n, m, k⟩ := q
    exact lc_lift (u1 := u1) (u3 := 0) (ut := ut) (ue := ue) hdom n m k fun it h => ⟨by rw [hut, hue, Nat.mul_zero]; exact Nat.le_refl _, h⟩⟩
theorem ds_setLc {i : Nat} {y : Str} {py spos : Pos} {g : MG} (hc : X.calm = true) (hN : X.N.Nodup) (hy : X.N[i]? = some y) (hyl : X.env.scope.names.lookup y = some .local)
    (hsw : swapsWith (.ListComp elt [⟨tg, iter, ifs, 0⟩] scope pos) (some (.Name y py)) spos.line X.env = pure true) (hi : DI X W tg iter mi u1) (ok : BlkOk X.N X.env.scope scope own) (hdom : ∀ j ∈ dom, j ∈ own.map (·.2))
    (hg : ∀ (s : Shared) (H : Hp) (C : Addr) (cl : List (Str × Addr)) (fp : List Addr), DG (X.blk s H scope (compEnvC scope cl C X.env) fp) tg dom g)
    (ht : ∀ (s : Shared) (H : Hp) (C : Addr) (cl : List (Str × Addr)) (fp : List Addr), DTs (X.blk s H scope (compEnvC scope cl C X.env) fp) (W0 W) ifs tt ut)
    (he : ∀ (s : Shared) (H : Hp) (C : Addr) (cl : List (Str × Addr)) (fp : List Addr), DE (X.blk s H scope (compEnvC scope cl C X.env) fp) (W0 W) elt te ue) (hut : ut = 0 := by rfl) (hue : ue = 0 := by rfl) (hs : ∀ x, foldedSetIterable iter X.env x = pure x := by intro _; rfl) :
    DS X W (.Assign [.Name y py] (.ListComp elt [⟨tg, iter, ifs, 0⟩] scope pos) spos) (mAsg (mLc mi g tt te (own.map (·.2))) (gN i)) u1 :=
  ⟨PS.imp (ps_setLc hc hN hy hyl hsw hi.pi ok (fun s H C cl fp => (hg s H C cl fp).pg) (fun s H C cl fp => (ht s H C cl fp).pts) (fun s H C cl fp => (he s H C cl fp).pe) hs) fun D σ H q => by
    have h := set_lift D σ H q
    obtain ⟨ex, G, F, δ, τ, ts, τ1, ts1, R, n, m, k⟩ := h
    exact lc_lift (X := X) (own := own) (u1 := u1) (u3 := 0) (ut := ut) (ue := ue) hdom n m k fun it h => ⟨by rw [hut, hue, Nat.mul_zero]; exact Nat.le_refl _, h⟩⟩
end
end
end DL
namespace DL
open PySem PySem.Spec L2
structure FnG (P : Program) (w : World) (K : PySem.W.Frag) (mg : Str → Option Value) (base : Heap) (k : Nat) (f : Addr) (fd : FuncData) (ps : List Str) (sp : Sp) : Prop where
  len : ∀ vs H Q E, sp vs H Q E → vs.length = ps.length
  run : ∀ (A : Around) (outer : List PySem.Env) (s : Shared) (H : Hp) (args : Args) (us : List Value) (vs : List V) (Q : VK) (E : XK), A.guards = some [] → Room k A → Env0 P w K mg base A outer s H → BindsTo s fd args (ps.zip us) → Vals vs us → sp vs H Q E →
    codeAny (model P w) A (.call (.ref f) args) (CR (L2.CX P w) outer P w H s Q E) s
section
variable {P : Program} {w : World} {K : PySem.W.Frag} {mg : Str → Option Value} {base : Heap}
theorem FnG.mono {j k : Nat} {f : Addr} {fd : FuncData} {ps : List Str} {sp : Sp} (h : FnG P w K mg base j f fd ps sp) (q : j ≤ k) : FnG P w K mg base k f fd ps sp :=
  ⟨h.len, fun A outer s H args us vs Q E hg hr => h.run A outer s H args us vs Q E hg (hr.mono q)⟩
theorem FnG.imp {k : Nat} {f : Addr} {fd : FuncData} {ps : List Str} {sp sp' : Sp} (h : FnG P w K mg base k f fd ps sp) (i : ∀ vs H Q E, sp' vs H Q E → sp vs H Q E) : FnG P w K mg base k f fd ps sp' :=
  ⟨fun vs H Q E q => h.len vs H Q E (i _ _ _ _ q), fun A outer s H args us vs Q E hg hr he hb hv q => h.run A outer s H args us vs Q E hg hr he hb hv (i _ _ _ _ q)⟩
theorem fnG_of {x qual : Str} {st : Stmt} {f : Addr} {fd : FuncData} {N ps : List Str} {k : Nat} {sp : Sp} (T : L2.Fun K x qual st f fd) (S : FnScope N ps (L2.defScope st)) (len : ∀ vs H Q E, sp vs H Q E → vs.length = ps.length)
    (body : ∀ (cdv : Value) (A : Around) (outer : List PySem.Env) (s : Shared) (H : Hp) (vs : List V) (Q : VK) (E : XK), A.guards = some [] → Room k (A.deeper (PyProof.Rows.envOfC qual (L2.defScope st) s.heap.objs.size f cdv)) → sp vs H Q E →
      ∃ t, PSs (cxOf (L2.CX P w) P w K mg base N qual (L2.defScope st) f cdv A outer s H E) (L2.defBody st) t ∧ t { nx := fun _ H' => Q .non H', rt := Q } (start N vs) H) : FnG P w K mg base (k + 1) f fd ps sp := by
  obtain ⟨oc, od, kV, doc, pm, an, cdv, ct, osl, rfl, lk, hcd⟩ := T.ex
  refine ⟨len, fun A outer s H args us vs Q E hg hr e0 hb r hsp => ?_⟩
  have hlen := len _ _ _ _ hsp
  have kin : K.In s.heap := e0.mod.kin.keeps fun b o e => (e0.bs b o e).1
  have nol : s.heap.NoLimit := e0.mod.nolimit.keeps fun b o e => (e0.bs b o e).1
  have kinds : ∀ y ∈ ps.zip us, (L2.defScope st).names.lookup y.1 = some .local ∨ ((L2.defScope st).names.lookup y.1 = some .cell ∧ ((cellsFrom (s.heap.objs.size + 1) (L2.defScope st).names []).lookup y.1).isSome = true) := by
    rintro ⟨n, v⟩ hy
    rcases S.par n (List.of_mem_zip hy).1 with q | q
    · exact .inl q
    · exact .inr ⟨q, PySem.W.cellsFrom_some _ _ _ (.inl q)⟩
  refine codeAny_call_function hr.depth (kin _ _ lk) rfl S.co S.gen rfl (PySem.W.codeRec_of kin hcd) (hb _ _ _ _ ?_)
  refine wpAny_newFunctionEnv_cells S.kind kinds fun env he s1 x => ?_
  subst he
  refine ⟨nol.keeps x.toInCall.keep, codeAny_func ?_⟩
  obtain ⟨t, ht, hq⟩ := body cdv A outer s H vs Q E hg (hr.deeper _) hsp
  have I := inv_start (CX := L2.CX P w) (E := E) (cd := cdv) S hr.hd e0 hlen r x
  refine wpAny_mono (ht.run [] s1 (start N vs) H _ I hq) (fun fl s' hs => ?_) fun e s' hs => hs
  cases fl with
  | ret u =>
    obtain ⟨v, σ', H', J, rv, q⟩ := hs
    exact ⟨v, H', J.os, J.bare, J.base, J.hok, rv, q⟩
  | next =>
    obtain ⟨σ', H', J, q⟩ := hs
    exact ⟨V.non, H', J.os, J.bare, J.base, J.hok, rfl, q⟩
  | brk =>
    obtain ⟨_, _, _, q⟩ := hs
    exact False.elim q
  | cont =>
    obtain ⟨_, _, _, q⟩ := hs
    exact False.elim q
end
abbrev CKT := (Addr → Prop) → V → (Nat → Hp → Prop) → Nat → Prop
def spD (K : PySem.W.Frag) (mg : Str → Option Value) (CK : CKT) (u n : Nat) (mf : MF) : Sp := fun vs H Q E => vs.length = n ∧ ∃ (G : Gm) (F : Hp) (as : List DV) (R : DV → Prop) (ex : DExc → Prop), G.K = K ∧ (CK G.C G.cv G.J G.lim ∧ G.n + u ≤ G.lim) ∧ as.length = vs.length ∧ (∀ x ∈ as, x.arg = true) ∧ Good G F (as.map some) (vs.map some) H ∧ mf as R ex ∧
  (∀ r, R r → r.arg = true → ∀ v F' H', Good (G.up u) F' [some r] [some v] H' → Q v H') ∧
  (∀ e, ex e → ∀ b cls d F' H', b ≤ u → Good (G.up b) F' [] [] H' → ExcAt K mg F' H' e cls d → E cls d H')
structure DFn (P : Program) (w : World) (K : PySem.W.Frag) (mg : Str → Option Value) (base : Heap) (CK : CKT) (x : Str) (k u n : Nat) (mf : MF) : Prop where
  ex : ∃ f fd ps, mg x = some (.ref f) ∧ PySem.W.keepIn K (.ref f) = true ∧ Binds K fd ps [] ∧ ps.length = n ∧ FnG P w K mg base k f fd ps (spD K mg CK u n mf)
def startD (n : Nat) (as : List DV) : Env := as.map some ++ List.replicate (n - as.length) none
def bodyD (n : Nat) (m : MS) : MF := fun as R ex => m (fun e _ => ex e) { nx := fun _ => R (.d .none), rt := R, bk := fun _ => False, ct := fun _ => False } (startD n as)
section
variable {P : Program} {w : World} {K : PySem.W.Frag} {mg : Str → Option Value} {base : Heap}
theorem Good.more {G : Gm} {F H : Hp} {δ : Env} {σ : L2.St} (g : Good G F δ σ H) : ∀ k, Good G F (δ ++ List.replicate k none) (σ ++ List.replicate k none) H := fun k => by
  have hl := g.len
  have low : ∀ {α : Type} {l : List (Option α)} {i : Nat} {z : α}, (l ++ List.replicate k none)[i]? = some (some z) → l[i]? = some (some z) := fun {α l i z} e => by
    rcases Nat.lt_or_ge i l.length with q | q
    · rw [List.getElem?_append_left q] at e; exact e
    · rw [List.getElem?_append_right q, List.getElem?_replicate] at e
      split at e <;> cases e
  refine ⟨g.g, by simp [hl], g.f0, g.fh, g.fr, g.bh, g.cf, g.jh, fun i x e => ?_, fun i j x y l hx hy e1 e2 e3 e4 => g.di i j x y l hx hy (low e1) (low e2) (low e3) (low e4)⟩
  obtain ⟨v, h1, h2⟩ := g.sl i x (low e)
  refine ⟨v, ?_, h2⟩
  rw [List.getElem?_append_left (List.getElem?_eq_some_iff.mp h1).1]
  exact h1
structure Ctx (X : Cx) (W : WC) (k : Nat) : Prop where
  gd : X.A.guards = some []
  hr : Room k X.A
  tk : Takes X W.w
structure CtxU (X : Cx) : Prop where
  gd : X.A.guards = some []
  un : X.A.units + 200 < cLine
theorem Ctx.u {X : Cx} {W : WC} {k : Nat} (c : Ctx X W k) : CtxU X := ⟨c.gd, by have := c.hr.un; omega⟩
theorem CtxU.u64 {X : Cx} (c : CtxU X) : X.A.units + 64 < cLine := by have := c.un; omega
theorem CtxU.u65 {X : Cx} (c : CtxU X) : X.A.units + 65 < cLine := by have := c.un; omega
theorem fnD_of {u : Nat} {x qual : Str} {st : Stmt} {f : Addr} {fd : FuncData} {N ps : List Str} {k : Nat} {m : MS} {mf : MF} {CK : CKT} (T : L2.Fun K x qual st f fd) (S : FnScope N ps (L2.defScope st))
    (body : ∀ (cdv : Value) (A : Around) (outer : List PySem.Env) (s : Shared) (H : Hp) (E : XK), Ctx (cxOf (L2.CX P w) P w K mg base N qual (L2.defScope st) f cdv A outer s H E) ⟨fun cls d _ H => E cls d H, CK⟩ k →
      DSs (cxOf (L2.CX P w) P w K mg base N qual (L2.defScope st) f cdv A outer s H E) ⟨fun cls d _ H => E cls d H, CK⟩ (L2.defBody st) m u)
    (post : ∀ as R ex, as.length = ps.length → mf as R ex → bodyD N.length m as R ex) : FnG P w K mg base (k + 1) f fd ps (spD K mg CK u ps.length mf) := by
  refine fnG_of T S (fun vs H Q E q => q.1) fun cdv A outer s H vs Q E hg hr q => ?_
  obtain ⟨hn, G, F, as, R, ex, hK, hck, hl, harg, g, h, hR, hE⟩ := q
  refine ⟨_, (body cdv A outer s H E ⟨hg, hr, takes_of rfl rfl rfl rfl⟩).pss, ?_⟩
  have hp := post as R ex (hl.trans hn) h
  have hlN : ps.length ≤ N.length := by
    have h1 := S.pre
    have h2 := congrArg List.length h1
    simp at h2
    omega
  refine ⟨fun e _ => ex e, G, F, startD N.length as, [], [], { nx := fun _ => R (.d .none), rt := R, bk := fun _ => False, ct := fun _ => False }, ⟨hK, ?_, rfl, ?_, fun b F' δ' σ' H' τ1 ts1 e cls d hb h1 h2 h3 h4 => ?_, hck⟩, ?_, ⟨fun δ' h' b σ' F' H' hb l' nb' g' => ?_, fun _ z => z.elim, fun _ z => z.elim, fun r hr ha b v F' H' hb g' => hR r hr ha v F' H' (g'.mono hb), fun _ _ z => z.elim⟩, hp⟩
  · unfold startD L2.start
    simp [hl]
  · unfold startD L2.start
    have := g.more (N.length - as.length)
    rw [hl] at this ⊢
    simpa using this
  · refine hE e h4 b cls d F' H' hb (Good.cut (A := []) (A' := []) (B := δ' ++ [] ++ τ1) (B' := σ' ++ [] ++ ts1) h2.len h2) h3
  · intro i x e
    unfold startD at e
    simp only [List.append_nil] at e
    rcases Nat.lt_or_ge i (as.map some).length with q | q
    · rw [List.getElem?_append_left q, List.getElem?_map] at e
      cases q2 : as[i]? with
      | none => rw [q2] at e; cases e
      | some y =>
        rw [q2] at e
        cases e
        have := harg x (List.mem_of_getElem? q2)
        cases x with
        | bor _ => cases this
        | bdk _ => cases this
        | blk _ _ => cases this
        | bdt _ _ => cases this
        | _ => rfl
    · rw [List.getElem?_append_right q, List.getElem?_replicate] at e
      split at e <;> cases e
  · refine hR _ h' rfl .non F' H' ?_
    have g0 : Good (G.up b) F' ([] : Env) ([] : L2.St) H' := Good.cut (A := []) (A' := []) (B := δ' ++ []) (B' := σ' ++ []) g'.len g'
    exact (Good.pushD g0 .non).mono hb
end
def argsD : List DV → Option (List DV)
  | [] => some []
  | x :: xs => match (match x with
      | .own ys => some (.d (.list ys))
      | .odk ys => some (.d (.dict ys))
      | .ldk _ ys => some (.d (.dict ys))
      | .olk _ _ => none
      | .blk _ _ => none
      | .bor _ => none
      | .bdk _ => none
      | .exc _ _ _ _ => none
      | .odt _ _ => none
      | .bdt _ _ => none
      | .ldt _ _ => none
      | .ins _ _ _ => none
      | y => some y : Option DV), argsD xs with
    | some a, some as => some (a :: as)
    | _, _ => none
theorem dfn_of {u : Nat} {x qual : Str} {st : Stmt} {f : Addr} {fd : FuncData} {N ps : List Str} {k : Nat} {m : MS} {mf : MF} {CK : CKT} (hm : mg x = some (.ref f)) (T : L2.Fun K x qual st f fd) (hb : Binds K fd ps []) (S : FnScope N ps (L2.defScope st))
    (body : ∀ (cdv : Value) (A : Around) (outer : List PySem.Env) (s : Shared) (H : Hp) (E : XK), Ctx (cxOf (L2.CX P w) P w K mg base N qual (L2.defScope st) f cdv A outer s H E) ⟨fun cls d _ H => E cls d H, CK⟩ k →
      DSs (cxOf (L2.CX P w) P w K mg base N qual (L2.defScope st) f cdv A outer s H E) ⟨fun cls d _ H => E cls d H, CK⟩ (L2.defBody st) m u)
    (post : ∀ as R ex, as.length = ps.length → mf as R ex → bodyD N.length m as R ex) : DFn P w K mg base CK x (k + 1) u ps.length mf :=
  ⟨f, fd, ps, hm, T.kp, hb, rfl, fnD_of T S body post⟩
theorem argsD_arg : ∀ {xs as : List DV}, argsD xs = some as → as.length = xs.length ∧ ∀ a ∈ as, a.arg = true
  | [], as, e => by cases e; exact ⟨rfl, by simp⟩
  | x :: xs, as, e => by
    unfold argsD at e
    split at e
    · rename_i a as' e1 e2
      cases e
      obtain ⟨h1, h2⟩ := argsD_arg e2
      refine ⟨by simp [h1], fun b hb => ?_⟩
      rcases List.mem_cons.mp hb with rfl | hb
      · cases x with
        | own _ => cases e1; rfl
        | d _ => cases e1; rfl
        | cask => cases e1; rfl
        | raw _ => cases e1; rfl
        | scr _ => cases e1; rfl
        | fvs _ _ => cases e1; rfl
        | odk _ => cases e1; rfl
        | ldk _ _ => cases e1; rfl
        | _ => cases e1
      · exact h2 b hb
    · cases e
theorem unlk {G : Gm} {F H : Hp} {A A2 : Env} {ρ : L2.St} {p : Unit → LkP} {ys : List (PyData × PyData)} (g : Good G F (A ++ some (.ldk p ys) :: A2) ρ H) : Good G F (A ++ some (.d (.dict ys)) :: A2) ρ H := by
  have back : ∀ {i : Nat} {z : DV}, (A ++ some (.d (.dict ys)) :: A2)[i]? = some (some z) → (i = A.length ∧ z = .d (.dict ys)) ∨ (A ++ some (.ldk p ys) :: A2)[i]? = some (some z) := fun {i z} e => by
    rcases Nat.lt_trichotomy i A.length with q | q | q
    · rw [List.getElem?_append_left q] at e ⊢; exact .inr e
    · subst q; simp at e; exact .inl ⟨rfl, e.symm⟩
    · rw [List.getElem?_append_right (by omega)] at e ⊢
      obtain ⟨k, hk⟩ : ∃ k, i - A.length = k + 1 := ⟨i - A.length - 1, by omega⟩
      rw [hk] at e ⊢
      exact .inr e
  refine ⟨g.g, by have := g.len; simpa using this, g.f0, g.fh, g.fr, g.bh, g.cf, g.jh, fun i z e => ?_, fun i j a b l ha hb e1 e2 e3 e4 => ?_⟩
  · rcases back e with ⟨rfl, rfl⟩ | e
    · obtain ⟨v, e1, h⟩ := g.sl A.length (.ldk p ys) (by simp)
      obtain ⟨_, _, rfl, h1, h2⟩ := h
      exact ⟨_, e1, .dct (.inr ⟨_, h1⟩) h2⟩
    · exact g.sl i z e
  · rcases back e1 with ⟨_, rfl⟩ | e1
    · cases ha
    rcases back e2 with ⟨_, rfl⟩ | e2
    · cases hb
    exact g.di i j a b l ha hb e1 e2 e3 e4
theorem fix_args {G : Gm} {H : Hp} {ρ : L2.St} : ∀ (xs : List DV) {F : Hp} {A : Env} {as : List DV}, Good G F (A ++ xs.map some) ρ H → argsD xs = some as → ∃ F', Same F F' ∧ Good G F' (A ++ as.map some) ρ H
  | [], F, A, as, g, e => by
    cases e
    exact ⟨F, Same.refl F, by simpa using g⟩
  | x :: xs, F, A, as, g, e => by
    unfold argsD at e
    split at e
    · rename_i a as' e1 e2
      cases e
      have one : ∃ F1, Same F F1 ∧ Good G F1 (A ++ some a :: xs.map some) ρ H := by
        cases x with
        | own ys =>
          cases e1
          exact fix_one (A := A) (A2 := xs.map some) (x := .own ys) (by simpa using g) rfl
        | d _ => cases e1; exact ⟨F, Same.refl F, by simpa using g⟩
        | cask => cases e1; exact ⟨F, Same.refl F, by simpa using g⟩
        | raw _ => cases e1; exact ⟨F, Same.refl F, by simpa using g⟩
        | scr _ => cases e1; exact ⟨F, Same.refl F, by simpa using g⟩
        | fvs _ _ => cases e1; exact ⟨F, Same.refl F, by simpa using g⟩
        | odk ys =>
          cases e1
          exact fix_one (A := A) (A2 := xs.map some) (x := .odk ys) (by simpa using g) rfl
        | ldk p ys =>
          cases e1
          exact ⟨F, Same.refl F, unlk (A := A) (A2 := xs.map some) (by simpa using g)⟩
        | _ => cases e1
      obtain ⟨F1, s1, g1⟩ := one
      obtain ⟨F2, s2, g2⟩ := fix_args xs (F := F1) (A := A ++ [some a]) (by simpa using g1) e2
      exact ⟨F2, s1.trans s2, by simpa using g2⟩
    · cases e
section
variable {X : Cx} {W : WC} {e : Expr} {es : List Expr} {pos p : Pos} {mas : MA} {x : Str} {k j n u1 u2 : Nat} {mf : MF}
def mCall (n : Nat) (mf : MF) (t : MA) : ME := fun ex δ R => t ex δ fun xs => match argsD xs with
  | some as => as.length = n ∧ mf as R (fun e => ex e δ)
  | none => False
theorem call_run {f : Addr} {fd : FuncData} {ps : List Str} {sp : Sp} {pins : List (Addr × Obj)} {σ : L2.St} {H : Hp} {s : Shared} {Q : VK} {us : List Value} {vs : List V} (F : FnG X.prog X.w X.K X.mg X.base k f fd ps sp) (hg : X.A.guards = some []) (hr : Room k X.A) (hb : Binds X.K fd ps []) (tk : Takes X W.w)
    (I : Inv X pins σ H s) (r : Vals vs us) (h : sp vs H Q (WE W.w σ)) : wpAny (model X.prog X.w) X.A (call (.ref f) us) (EP X pins σ Q) X.xe s := by
  have hl : us.length = ps.length := by rw [← r.length]; exact F.len _ _ _ _ h
  have hb' := hb s us I.kIn (by simpa using hl)
  rw [List.append_nil] at hb'
  refine wpAny_call (codeAny_mono (F.run X.A X.stack s H ⟨us, []⟩ us vs Q (WE W.w σ) hg hr I.env0 hb' r h) fun res s' hq => ?_)
  match res, hq with
  | .error e, hq => exact passAt tk σ pins H s e s' I hq
  | .ok (.ret u), hq => exact I.after hq
theorem spD_lift (σ : L2.St) (H : Hp) (Q : VK) (q : liftE X.K X.mg W (u1 + u2) (mCall n mf mas) σ H Q) :
    liftA X.K X.mg W u1 mas σ H fun vs H1 => spD X.K X.mg W.ck u2 n mf vs H1 Q (WE W.w σ) := by
  obtain ⟨ex, G, F, δ, τ, ts, τ1, ts1, R, nw, m, kk⟩ := q
  refine ⟨ex, G, F, δ, τ, ts, τ1, ts1, _, nw.fst, m, fun xs hxs vs F1 H1 hl g1 => ?_⟩
  split at hxs
  · rename_i as ea
    obtain ⟨hn, hxs⟩ := hxs
    obtain ⟨h1, h2⟩ := argsD_arg ea
    obtain ⟨F2, s2, g2⟩ := fix_args xs g1 ea
    have hla : as.length = vs.length := h1.trans hl
    have gb := g2.cut (by simpa using hla)
    refine ⟨hla.symm.trans hn, (G.up u1).into F2 H1, F2, as, R, fun e => ex e δ, nw.k, ⟨nw.ck.1, by have := nw.ck.2; show G.n + u1 + u2 ≤ G.lim; omega⟩, hla, h2, gb.into h2 hla fun i x e => Good.nth hla g2 e, hxs, fun r hr ha v F' H' g' => kk r hr v F' H' (by rw [← up_up]; exact gb.ret (δ₁ := []) (σ₁ := []) ha g'), fun e he b cls d F' H' hb g' hx => ?_⟩
    exact nw.link (u1 + b) F' δ σ H' τ1 ts1 e cls d (by omega) nw.l1 (by rw [← up_up]; exact gb.back g') hx he
  · exact hxs.elim
theorem de_call (c : Ctx X W j) (F : DFn X.prog X.w X.K X.mg X.base W.ck x k u2 n mf) (hk : k ≤ j) (hg : Gl X x) (ha : DA X W (e :: es) mas u1) (hdb : (x == ("__debug__" : Str)) = false := by decide)
    (he : starEach (e :: es) X.env = (false, eval e X.env) :: starEach es X.env := by rfl) (hpl : (backTo pos (starEach es X.env)).any (·.1) = false := by rfl) : DE X W (.Call (.Name x p) (e :: es) [] pos) (mCall n mf mas) (u1 + u2) := by
  obtain ⟨f, fd, ps, hm, hkp, hb, hn, hF⟩ := F
  refine ⟨⟨fun pins s σ H Q I h => ?_⟩⟩
  have h' := spD_lift σ H Q h
  refine wpAny_Call_Name_kw (ld_glob I hg hm ?_ hdb)
  exact PySem.W.callWith_K (h₀ := X.base) I.ok.mod.kin hkp (thn (ha.pa.run pos pins s σ H _ I h') fun us s1 ⟨vs, H1, I1, r, q⟩ => ⟨I1.kIn, call_run hF c.gd (c.hr.mono hk) hb c.tk I1 r q⟩) he hpl
end
theorem DFn.le {P : Program} {w : World} {K : PySem.W.Frag} {mg : Str → Option Value} {base : Heap} {CK : CKT} {x : Str} {k u u' n : Nat} {mf : MF} (h : DFn P w K mg base CK x k u n mf) (hu : u ≤ u') : DFn P w K mg base CK x k u' n mf := by
  obtain ⟨f, fd, ps, h1, h2, h3, h4, h5⟩ := h
  refine ⟨f, fd, ps, h1, h2, h3, h4, h5.imp fun vs H Q E q => ?_⟩
  obtain ⟨q1, G, F, as, R, ex, q2, q3, q4, q5, q6, q7, q8, q9⟩ := q
  exact ⟨q1, G, F, as, R, ex, q2, ⟨q3.1, Nat.le_trans (Nat.add_le_add_left hu _) q3.2⟩, q4, q5, q6, q7, fun r hr ha v F' H' g => q8 r hr ha v F' H' (g.mono hu), fun e he b cls d F' H' hb g => q9 e he b cls d F' H' (Nat.le_trans hb hu) g⟩
end DL
namespace DL
open PySem PySem.Spec L2
section
variable {P : Program} {w : World} {K : PySem.W.Frag} {mg mb : Str → Option Value} {k : Nat} {fa a : Addr} {fd : FuncData} {x : Str} {sp : Sp} {s₁ : Shared} {vs : List Value} {ns : List Int}
theorem law_over {H : Hp} (kin : K.In s₁.heap) (hns : s₁.heap.Ns mainGlobals mg) (hb : s₁.heap.Ns builtinsNs mb) (hbb : ∀ y : Str, y ≠ "__name__" → mb y = bootBuiltins y) (hlim : s₁.heap.NoLimit) (hg : s₁.gens = #[])
    (ha : s₁.heap.get? a = some { cls := .type "list", data := .seq vs.toArray }) (hr : Room k PySem.callerA)
    (F : ∀ base : Heap, K.In base → base.Ns mainGlobals mg → FnG P w K mg base k fa fd [x] sp) (hbind : ∀ (s : Shared) (u : Value), BindsTo s fd ⟨[u], []⟩ [(x, u)])
    (only : L2.Only H) (hok : HOk P w H s₁.heap) (at1 : ∀ b, H b ≠ none → b = a) (noK : H a ≠ none → K.lookup a = none)
    (hsp : sp [.ref a] H (fun v _ => v = .bl true) fun _ _ _ => False) :
    codeAny (model P w) PySem.callerA (.call (.ref fa) ⟨[.ref a], []⟩) (fun r s' => r = .ok (.ret (.bool true)) ∧ OldK s₁.heap s'.heap ∧ s'.os = s₁.os ∧ PyProof.Rows.AllBare s'.gens) s₁ := by
  have isA : ∀ {b : Addr} {o : Obj}, s₁.heap.get? b = some o → (∀ us n, o.data ≠ .seq us n) → H b = none := by
    intro b o e d
    cases q : H b with
    | none => rfl
    | some u =>
      obtain rfl := at1 b (by rw [q]; simp)
      rw [ha] at e
      cases e
      exact absurd rfl (d _ _)
  have inB : ∀ {b : Addr} {m : Str → Option Value}, s₁.heap.Ns b m → (hidT s₁.heap H).Ns b m := by
    rintro b m ⟨o, es, ep, e, d, r⟩
    exact ⟨o, es, ep, hidT_get e (isA e fun us n z => by rw [d] at z; cases z), d, r⟩
  have kinB : K.In (hidT s₁.heap H) := by
    intro b o e
    refine hidT_get (kin b o e) ?_
    cases q : H b with
    | none => rfl
    | some u =>
      obtain rfl := at1 b (by rw [q]; simp)
      rw [noK (by rw [q]; simp)] at e
      cases e
  have md : Mod K mg (hidT s₁.heap H) := by
    obtain ⟨mc, l1, l2⟩ := hlim
    exact ⟨kinB, inB hns, ⟨mb, inB hb, hbb⟩, ⟨mc, inB l1, l2⟩⟩
  have e0 : Env0 P w K mg (hidT s₁.heap H) PySem.callerA [] s₁ H :=
    ⟨rfl, md, fun b o e => of_hidT e, by rw [hidT_size]; exact Nat.le_refl _, trivial, fun b hb => (List.not_mem_nil (show b ∈ ([] : List Addr) from hb)).elim, hok, .of_eq hg⟩
  have run := (F _ kinB (inB hns)).run PySem.callerA [] s₁ H ⟨[.ref a], []⟩ [.ref a] [.ref a] (fun v _ => v = .bl true) (fun _ _ _ => False) rfl hr e0 (hbind s₁ (.ref a)) (.cons rfl .nil) hsp
  refine codeAny_mono run fun r s' h => ?_
  match r, h with
  | .error e, h =>
    obtain ⟨_, _, _, _, _, _, _, _, _, _, _, _, z⟩ := h
    exact z.elim
  | .ok (.ret u), h =>
    obtain ⟨v, H', os, bare, un, hok', rv, q⟩ := h
    obtain rfl : v = .bl true := q
    obtain rfl : u = Value.bool true := rv
    refine ⟨rfl, OldK.of_keep fun b o e => ?_, os, bare⟩
    cases q : H b with
    | none => exact un.keep b o e q (fun z => (List.not_mem_nil (show b ∈ ([] : List Addr) from z)).elim) (fun z => (List.not_mem_nil z).elim)
    | some u =>
      rcases only b with z | ⟨ob, xs, z⟩
      · rw [q] at z
        cases z
      · obtain ⟨e1, _⟩ := hok b _ z
        obtain ⟨e2, _⟩ := hok' b _ (un.frzs b ob _ z)
        rw [e] at e1
        cases e1
        exact e2
theorem law_callG (kin : K.In s₁.heap) (hns : s₁.heap.Ns mainGlobals mg) (hb : s₁.heap.Ns builtinsNs mb) (hbb : ∀ y : Str, y ≠ "__name__" → mb y = bootBuiltins y) (hlim : s₁.heap.NoLimit) (hg : s₁.gens = #[])
    (ha : s₁.heap.get? a = some { cls := .type "list", data := .seq vs.toArray }) (hi : PyProof.Rows.IntsAre vs ns) (hl : ns.length ≤ sizeLine) (hr : Room k PySem.callerA)
    (F : ∀ base : Heap, K.In base → base.Ns mainGlobals mg → FnG P w K mg base k fa fd [x] sp) (hbind : ∀ (s : Shared) (u : Value), BindsTo s fd ⟨[u], []⟩ [(x, u)])
    (hsp : ∀ H : Hp, L2.Only H → SqL K H a (ns.map V.int) → sp [.ref a] H (fun v _ => v = .bl true) fun _ _ _ => False) :
    codeAny (model P w) PySem.callerA (.call (.ref fa) ⟨[.ref a], []⟩) (fun r s' => r = .ok (.ret (.bool true)) ∧ OldK s₁.heap s'.heap ∧ s'.os = s₁.os ∧ PyProof.Rows.AllBare s'.gens) s₁ := by
  have rv := L2.vals_ints hi
  have hlen := hi.length
  cases hk : K.lookup a with
  | some o =>
    have e := kin a o hk
    rw [ha] at e
    cases e
    have o1 : L2.Only fun _ => none := fun _ => .inl rfl
    exact law_over kin hns hb hbb hlim hg ha hr F hbind o1 (fun b u z => nomatch z) (fun b z => absurd rfl z) (fun z => absurd rfl z)
      (hsp _ o1 (.inr ⟨_, vs.toArray, _, hk, rfl, rfl, rfl, by rw [List.size_toArray, hlen]; exact hl, by simpa using rv⟩))
  | none =>
    obtain ⟨H, hH⟩ : ∃ H : Hp, H = fun b => if b = a then some (.frz { cls := .type "list", data := .seq vs.toArray } (.lst (ns.map V.int))) else none := ⟨_, rfl⟩
    have ht : H a = some (.frz { cls := .type "list", data := .seq vs.toArray } (.lst (ns.map V.int))) := by rw [hH]; exact if_pos rfl
    have hn : ∀ b, b ≠ a → H b = none := fun b q => by rw [hH]; exact if_neg q
    have o1 : L2.Only H := fun b => by
      by_cases q : b = a
      · subst q
        exact .inr ⟨_, _, ht⟩
      · exact .inl (hn b q)
    refine law_over kin hns hb hbb hlim hg ha hr F hbind o1 (fun b u z => ?_) (fun b z => ?_) (fun _ => hk) (hsp _ o1 (.inl (.inr ⟨_, ht⟩)))
    · by_cases q : b = a
      · subst q
        rw [ht] at z
        cases z
        exact ⟨ha, by rw [List.length_map]; exact hl, vs, _, rv, ha⟩
      · rw [hn b q] at z
        cases z
    · exact Classical.byContradiction fun q => z (hn b q)
end
theorem walkG {l : PySem.W.OpenLaw} {k : Nat} {q : Program} {loose : List Str} {XP : (Str → Option Value) → Heap → Prop} {YP : World → Heap → Prop} {d : DefRec} {K : Params → PySem.W.Frag} {sp : PySem.W.Frag → Sp} {x : Str}
    (hn : l.most = some 63) (hdf : d.params.defaults = []) (hr : Room k PySem.callerA)
    (hY : ∀ (w : World) (h : Heap), YP w h → (K w.params).In h)
    (F : ∀ (w : World) (mg : Str → Option Value) (fa : Addr) (h : Heap), (K w.params).In h → h.Ns mainGlobals mg → mg d.name = some (.ref fa) →
      ∃ fd : FuncData, (∀ (s : Shared) (u : Value), BindsTo s fd ⟨[u], []⟩ [(x, u)]) ∧
        ∀ base : Heap, (K w.params).In base → base.Ns mainGlobals mg → FnG l.prog w (K w.params) mg base k fa fd [x] (sp (K w.params)))
    (hsp : ∀ (K : PySem.W.Frag) (H : Hp) (a : Addr) (ns : List Int), ns.length ≤ 63 → L2.Only H → SqL K H a (ns.map V.int) → sp K [.ref a] H (fun v _ => v = .bl true) fun _ _ _ => False) :
    PySem.W.WalkO q loose XP YP l.row.toRowW d [] (fun f vs => PySem.call f vs) := by
  refine Att.attach_call hn hdf fun w s₀ s₁ mg mb fa o pm cd doc a vs ns G Y ho hd hcd hmg hobj hints hlen hg => ?_
  have kin := hY w _ Y
  obtain ⟨fd, hb, hF⟩ := F w mg fa _ kin G.T.g hmg
  exact law_callG kin G.T.g G.T.b G.T.builtins G.T.nolimit hg hobj hints (Nat.le_trans hlen (by rw [sizeLine_eq]; decide)) hr hF hb fun H hO hS => hsp _ H a ns hlen hO hS
end DL
namespace DL
open PySem PySem.Spec L2
section
variable {u u1 u2 u3 : Nat} {X : Cx} {W : WC} {a b c e : Expr} {es : List Expr} {pos : Pos} {ma mb me : ME} {mas : MA} {k : Nat}
theorem Good.fresh {G : Gm} {F H : Hp} {δ : Env} {σ : L2.St} (g : Good G F δ σ H) {p : Addr} (hp : H p = none) : F p = none := by
  cases q : F p with
  | none => rfl
  | some u => rw [g.fh _ _ q] at hp; cases hp
def DV.pd : DV → Option PyData
  | .d x => some x
  | .own xs => some (.list xs)
  | .bor xs => some (.list xs)
  | _ => none
mutual
theorem At.reads {pins : List (Addr × Obj)} {σ : L2.St} {H F : Hp} {s : Shared} (I : Inv X pins σ H s) (hf : Same F H) : ∀ (d : PyData) (v : V) (u : Value), d.hasDict = false → At X.K F v d → RelV v u → ∃ as, Reads s.heap u d as
  | .none, _, _, _, h, r => by cases h; cases r; exact ⟨_, Reads.none⟩
  | .bool b, _, _, _, h, r => by cases h; cases r; exact ⟨_, Reads.bool b⟩
  | .int i, _, _, _, h, r => by
    cases h
    obtain ⟨t, rfl⟩ := r
    exact ⟨_, Reads.int i t⟩
  | .str x, _, _, _, h, r => by
    cases h
    obtain ⟨t, rfl⟩ := r
    exact ⟨_, Reads.str x t⟩
  | .list ds, _, _, hd, h, r => by
    cases h with
    | lst hs ha =>
      cases r
      obtain ⟨its, rv, ⟨o, n, ho, hc, _, hdat⟩, _⟩ := I.list (SqL.of (hf _ _ hs))
      obtain ⟨as, hr⟩ := AtL.reads I hf ds _ its (by simpa only [PyData.hasDict] using hd) ha rv
      exact ⟨_, Reads.list ho hc hdat hr⟩
  | .tuple ds, _, _, hd, h, r => by
    cases h with
    | tup hs ha =>
      cases r
      obtain ⟨its, rv, ⟨o, ho, hc, n, hdat⟩, _⟩ := I.tuple (SqT.of (hf _ _ hs))
      obtain ⟨as, hr⟩ := AtL.reads I hf ds _ its (by simpa only [PyData.hasDict] using hd) ha rv
      exact ⟨_, Reads.tuple ho hc hdat hr⟩
  | .dict kvs, _, _, hd, _, _ => by simp only [PyData.hasDict] at hd; cases hd
theorem AtL.reads {pins : List (Addr × Obj)} {σ : L2.St} {H F : Hp} {s : Shared} (I : Inv X pins σ H s) (hf : Same F H) : ∀ (ds : List PyData) (vs : List V) (us : List Value), PyData.hasDictAll ds = false → AtL X.K F vs ds → Vals vs us → ∃ as, ReadsAll s.heap us ds as
  | [], _, _, _, h, r => by cases h; cases r; exact ⟨_, ReadsAll.nil⟩
  | d :: ds, _, _, hd, h, r => by
    simp only [PyData.hasDictAll, Bool.or_eq_false_iff] at hd
    cases h with
    | cons h1 h2 =>
      cases r with
      | cons r1 r2 =>
        obtain ⟨as, q1⟩ := At.reads I hf d _ _ hd.1 h1 r1
        obtain ⟨bs, q2⟩ := AtL.reads I hf ds _ _ hd.2 h2 r2
        exact ⟨_, ReadsAll.cons q1 q2⟩
end
def Da (K : PySem.W.Frag) (H : Hp) (v : V) (d : PyData) : Prop := ∃ F, Same F H ∧ At K F v d
theorem pd_da {G : Gm} {F H : Hp} {v : V} {x : DV} {d : PyData} (h : VOk G F H v x) (hf : Same F H) (e : x.pd = some d) : Da G.K H v d := by
  have own : ∀ {l : Addr} {vs : List V} {xs : List PyData}, H l = some (.lst vs) → AtL G.K F vs xs → Da G.K H (.ref l) (.list xs) := fun {l vs xs} h1 h2 => by
    refine ⟨H, Same.refl H, .lst h1 (AtL.mono hf _ _ h2)⟩
  match x, e, h with
  | .d y, e, h => cases e; exact ⟨F, hf, h⟩
  | .own xs, e, h =>
    cases e
    obtain ⟨l, vs, rfl, h1, h2, _⟩ := h
    exact own h1 h2
  | .bor xs, e, h =>
    cases e
    obtain ⟨l, vs, rfl, h1, h2, _⟩ := h
    exact own h1 h2
def oI (C : Int → Int → Prop) (f : Int → Int → Int) : D2 := fun x y R => match x, y with
  | .d (.int i), .d (.int j) => C i j ∧ R (.d (.int (f i j)))
  | _, _ => False
def oC (f : Int → Int → Bool) : D2 := fun x y R => match x, y with
  | .d (.int i), .d (.int j) => R (.d (.bool (f i j)))
  | _, _ => False
theorem oI_inv {C : Int → Int → Prop} {f : Int → Int → Int} {x y : DV} {R : DV → Prop} (h : oI C f x y R) : ∃ i j, x = .d (.int i) ∧ y = .d (.int j) ∧ C i j ∧ R (.d (.int (f i j))) := by
  cases x with
  | d v => cases v with
    | int i => cases y with
      | d w => cases w with
        | int j => exact ⟨i, j, rfl, rfl, h⟩
        | _ => exact False.elim h
      | _ => exact False.elim h
    | _ => exact False.elim h
  | _ => exact False.elim h
theorem oC_inv {f : Int → Int → Bool} {x y : DV} {R : DV → Prop} (h : oC f x y R) : ∃ i j, x = .d (.int i) ∧ y = .d (.int j) ∧ R (.d (.bool (f i j))) := by
  cases x with
  | d v => cases v with
    | int i => cases y with
      | d w => cases w with
        | int j => exact ⟨i, j, rfl, rfl, h⟩
        | _ => exact False.elim h
      | _ => exact False.elim h
    | _ => exact False.elim h
  | _ => exact False.elim h
theorem o2_I {C : Int → Int → Prop} {f : Int → Int → Int} : Op2 X (rI C fun i j => .int (f i j)) (oI C f) := by
  intro G F δ σ H v u x y R Q hK g hx hy h k
  obtain ⟨i, j, rfl, rfl, h1, h2⟩ := oI_inv h
  cases int_of hx
  cases int_of hy
  exact ⟨i, j, rfl, rfl, h1, k _ h2 _ F H (g.pushD (.int _))⟩
theorem o2_C {f : Int → Int → Bool} : Op2 X (rI0 fun i j => .bl (f i j)) (oC f) := by
  intro G F δ σ H v u x y R Q hK g hx hy h k
  obtain ⟨i, j, rfl, rfl, h2⟩ := oC_inv h
  cases int_of hx
  cases int_of hy
  exact ⟨i, j, rfl, rfl, k _ h2 _ F H (g.pushD (.bl _))⟩
theorem oC_bool {f : Int → Int → Bool} : ∀ x y R, oC f x y R → oC f x y fun z => R z ∧ ∃ k, z = .d (.bool k) := by
  intro x y R h
  obtain ⟨i, j, rfl, rfl, h2⟩ := oC_inv h
  exact ⟨h2, _, rfl⟩
def oAdd : D2 := fun x y R => match x, y with
  | .d (.int i), .d (.int j) => R (.d (.int (i + j)))
  | .d (.str s), .d (.str t) => s.length + t.length ≤ sizeLine ∧ R (.d (.str (s ++ t)))
  | .d (.tuple xs), .d (.tuple ys) => xs.length + ys.length ≤ sizeLine ∧ R (.d (.tuple (xs ++ ys)))
  | x, y => match x.lst, y.lst with
    | some xs, some ys => xs.length + ys.length ≤ sizeLine ∧ R (.own (xs ++ ys))
    | _, _ => False
def rAdd4 (K : PySem.W.Frag) : R2 := fun x y H Q => rI0 (fun i j => .int (i + j)) x y H Q ∨ (∃ i j, x = .str i ∧ y = .str j ∧ i.length + j.length ≤ sizeLine ∧ Q (.str (i ++ j)) H) ∨ rCatA K x y H Q ∨ rCat x y H Q
theorem op_add4 : OpR X (binaryOp .Add) (rAdd4 X.K) := op_add.or (op_add_str.or (op_catA.or op_cat))
theorem o2_add : Op2 X (rAdd4 X.K) oAdd := by
  intro G F δ σ H v u x y R Q hK g hx hy h k
  have lists : ∀ {xs ys : List PyData}, x.lst = some xs → y.lst = some ys → xs.length + ys.length ≤ sizeLine → R (.own (xs ++ ys)) → rAdd4 X.K v u H Q := fun {xs ys} e1 e2 hz hR => by
    obtain ⟨l, vs, rfl, h1, h2⟩ := lst_of hx g.fh e1
    obtain ⟨l', ws, rfl, h3, h4⟩ := lst_of hy g.fh e2
    refine .inr (.inr (.inr ⟨l, l', vs, ws, rfl, rfl, h1, h3, by rw [h2.length, h4.length]; exact hz, fun p hp => ?_⟩))
    exact k _ hR _ _ _ (g.newO hp (h2.append h4))
  unfold oAdd at h
  split at h
  · cases int_of hx
    cases int_of hy
    exact .inl ⟨_, _, rfl, rfl, k _ h _ F H (g.pushD (.int _))⟩
  · rename_i s t
    cases (show At G.K F v (.str s) from hx)
    cases (show At G.K F u (.str t) from hy)
    exact .inr (.inl ⟨_, _, rfl, rfl, h.1, k _ h.2 _ F H (g.pushD (.str _))⟩)
  · rename_i xs ys
    obtain ⟨l, vs, rfl, h1, h2⟩ := tup_of hx g.fh
    obtain ⟨l', ws, rfl, h3, h4⟩ := tup_of hy g.fh
    have hxx : At G.K F (.ref l) (.tuple xs) := hx
    have hyy : At G.K F (.ref l') (.tuple ys) := hy
    rw [hK] at h1 h3
    refine .inr (.inr (.inl ⟨l, l', vs, ws, rfl, rfl, h1, h3, by rw [h2.length, h4.length]; exact h.1, fun e => ?_, fun _ e => ?_, fun _ _ p hp => ?_⟩))
    · have : xs = [] := by
        have q := h2.length
        rw [e] at q
        exact List.length_eq_zero_iff.mp q.symm
      subst this
      exact k _ h.2 _ F H (g.pushD hyy)
    · have : ys = [] := by
        have q := h4.length
        rw [e] at q
        exact List.length_eq_zero_iff.mp q.symm
      subst this
      exact k _ h.2 _ F H (g.pushD (by rw [List.append_nil]; exact hxx))
    · exact k _ h.2 _ _ _ (g.newT hp (h2.append h4))
  · split at h
    · rename_i xs ys e1 e2
      exact lists e1 e2 h.1 h.2
    · exact h.elim
def oMul : D2 := fun x y R => match x, y with
  | .d (.int i), .d (.int j) => CMul i j ∧ R (.d (.int (i * j)))
  | x, .d (.int k) => match x.lst with
    | some xs => -(2 ^ 63) ≤ k ∧ k < 2 ^ 63 ∧ xs.length * k.toNat ≤ sizeLine ∧ R (.own (List.replicate k.toNat xs).flatten)
    | none => False
  | _, _ => False
def rMul2 : R2 := fun x y H Q => rI CMul (fun i j => .int (i * j)) x y H Q ∨ rRep x y H Q
theorem op_mul2 : OpR X (binaryOp .Mult) rMul2 := op_mul.or op_rep
theorem o2_mul : Op2 X rMul2 oMul := by
  intro G F δ σ H v u x y R Q hK g hx hy h k
  unfold oMul at h
  split at h
  · cases int_of hx
    cases int_of hy
    exact .inl ⟨_, _, rfl, rfl, h.1, k _ h.2 _ F H (g.pushD (.int _))⟩
  · rename_i kk _
    split at h
    · rename_i xs e1
      obtain ⟨l, vs, rfl, h1, h2⟩ := lst_of hx g.fh e1
      cases int_of hy
      exact .inr ⟨l, _, vs, rfl, rfl, h1, h.1, h.2.1, by rw [h2.length]; exact h.2.2.1, fun p hp => k _ h.2.2.2 _ _ _ (g.newO hp (h2.rep _))⟩
    · exact h.elim
  · exact h.elim
theorem de_add (ha : DE X W a ma u1) (hb : DE X W b mb u2) : DE X W (.BinOp a .Add b pos) (mBin oAdd ma mb) (u1 + u2) := de_op op_add4 o2_add ha hb
def oSub : D2 := oI (fun _ _ => True) fun i j => i - j
theorem oSub_i {i j : Int} {R : DV → Prop} : (oSub (.d (.int i)) (.d (.int j)) R) = (R (.d (.int (i - j)))) := by simp [oSub, oI]
theorem de_sub (ha : DE X W a ma u1) (hb : DE X W b mb u2) : DE X W (.BinOp a .Sub b pos) (mBin oSub ma mb) (u1 + u2) := by
  show DE X W (.BinOp a .Sub b pos) (mBin (oI (fun _ _ => True) fun i j => i - j) ma mb) (u1 + u2)
  have h : OpR X (binaryOp .Sub) (rI (fun _ _ => True) fun i j => .int (i - j)) := by
    intro pins s σ H x y v u Q I rx ry ⟨i, j, e1, e2, _, q⟩
    exact op_sub pins s σ H x y v u Q I rx ry ⟨i, j, e1, e2, q⟩
  exact de_op h o2_I ha hb
theorem de_mul (ha : DE X W a ma u1) (hb : DE X W b mb u2) : DE X W (.BinOp a .Mult b pos) (mBin oMul ma mb) (u1 + u2) := de_op op_mul2 o2_mul ha hb
theorem de_div (ha : DE X W a ma u1) (hb : DE X W b mb u2) : DE X W (.BinOp a .FloorDiv b pos) (mBin (oI CDivW fun i j => i / j) ma mb) (u1 + u2) := de_op op_fdivW o2_I ha hb
theorem de_mod (ha : DE X W a ma u1) (hb : DE X W b mb u2) : DE X W (.BinOp a .Mod b pos) (mBin (oI (fun _ j => 0 < j) fun i j => i % j) ma mb) (u1 + u2) := de_op op_mod o2_I ha hb
theorem de_pow (ha : DE X W a ma u1) (hb : DE X W b mb u2) : DE X W (.BinOp a .Pow b pos) (mBin (oI CPow fun i j => i ^ j.toNat) ma mb) (u1 + u2) := de_op op_pow o2_I ha hb
abbrev oLt : D2 := oC fun i j => decide (i < j)
abbrev oLe : D2 := oC fun i j => decide (i ≤ j)
abbrev oGt : D2 := oC fun i j => decide (j < i)
abbrev oGe : D2 := oC fun i j => decide (j ≤ i)
def oNeg : D1 := fun x R => match x with
  | .d (.int i) => R (.d (.int (-i)))
  | _ => False
def mUn (o : D1) (ma : ME) : ME := fun ex δ R => ma ex δ fun x => o x R
theorem de_neg (ha : DE X W a ma u) : DE X W (.UnaryOp .USub a pos) (mUn oNeg ma) u := ⟨PE.imp (pe_un un_neg ha.pe) fun σ H Q q => by
  obtain ⟨ex, G, F, δ, τ, ts, τ1, ts1, R, n, m, k⟩ := q
  refine ⟨ex, G, F, δ, τ, ts, τ1, ts1, _, n, m, fun x hx v F1 H1 g1 => ?_⟩
  match x, hx, g1 with
  | .d (.int i), hx, g1 =>
    cases int_of g1.top
    exact ⟨i, rfl, k _ hx _ F1 H1 (g1.pop.pushD (.int _))⟩⟩
def oEq (neg : Bool) : D2 := fun x y R => match x.pd, y.pd with
  | some (.str a), some (.str b) => R (.d (.bool (if neg then !PyData.eqv (.str a) (.str b) else PyData.eqv (.str a) (.str b))))
  | some p, some q => SeqAt.shaped p = true ∧ SeqAt.shaped q = true ∧ R (.d (.bool (if neg then !PyData.eqv p q else PyData.eqv p q)))
  | _, _ => False
def rEqA (K : PySem.W.Frag) (neg : Bool) : R2 := fun x y H Q => ∃ d e, Da K H x d ∧ Da K H y e ∧ SeqAt.shaped d = true ∧ SeqAt.shaped e = true ∧ Q (.bl (if neg then !PyData.eqv d e else PyData.eqv d e)) H
theorem shaped_nd {d : PyData} (h : SeqAt.shaped d = true) : d.hasDict = false := PyData.hasDict_of_canLay d (SeqAt.canLay_of_shaped h)
theorem op_eqA (hu : X.A.units + 64 < cLine) : OpR X (compareOp .Eq) (rEqA X.K false) := by
  intro pins s σ H x y v u Q I rx ry ⟨d, e, ⟨F, hF, hd⟩, ⟨F', hF', he⟩, sd, se, q⟩
  obtain ⟨as, r1⟩ := At.reads I hF d x v (shaped_nd sd) hd rx
  obtain ⟨bs, r2⟩ := At.reads I hF' e y u (shaped_nd se) he ry
  exact SeqAt.compareEq_shaped r1 r2 sd se hu ⟨.bl _, H, I, rfl, q⟩
theorem op_neA (hu : X.A.units + 64 < cLine) : OpR X (compareOp .NotEq) (rEqA X.K true) := by
  intro pins s σ H x y v u Q I rx ry ⟨d, e, ⟨F, hF, hd⟩, ⟨F', hF', he⟩, sd, se, q⟩
  obtain ⟨as, r1⟩ := At.reads I hF d x v (shaped_nd sd) hd rx
  obtain ⟨bs, r2⟩ := At.reads I hF' e y u (shaped_nd se) he ry
  exact SeqAt.compareNe_shaped r1 r2 sd se hu ⟨.bl _, H, I, rfl, q⟩
def rEqB (K : PySem.W.Frag) (neg : Bool) : R2 := fun x y H Q => (∃ a b, x = .str a ∧ y = .str b ∧ Q (.bl (if neg then !decide (V.str a = V.str b) else decide (V.str a = V.str b))) H) ∨ rEqA K neg x y H Q
theorem op_eqB (hu : X.A.units + 64 < cLine) : OpR X (compareOp .Eq) (rEqB X.K false) := by
  intro pins s σ H x y v u Q I rx ry h
  rcases h with ⟨a, b, rfl, rfl, q⟩ | h
  · exact op_eq pins s σ H _ _ v u Q I rx ry ⟨rfl, q⟩
  · exact op_eqA hu pins s σ H x y v u Q I rx ry h
theorem op_neB (hu : X.A.units + 64 < cLine) : OpR X (compareOp .NotEq) (rEqB X.K true) := by
  intro pins s σ H x y v u Q I rx ry h
  rcases h with ⟨a, b, rfl, rfl, q⟩ | h
  · exact op_ne pins s σ H _ _ v u Q I rx ry ⟨rfl, q⟩
  · exact op_neA hu pins s σ H x y v u Q I rx ry h
theorem eqv_str (a b : Str) : PyData.eqv (.str a) (.str b) = decide (V.str a = V.str b) := by
  simp only [PyData.eqv]
  by_cases h : a = b
  · subst h; simp
  · simp [h]
theorem str_of {K : PySem.W.Frag} {H : Hp} {v : V} {a : Str} (h : Da K H v (.str a)) : v = .str a := by
  obtain ⟨F, _, h⟩ := h
  cases h
  rfl
theorem o2_eq {neg : Bool} : Op2 X (rEqB X.K neg) (oEq neg) := by
  intro G F δ σ H v u x y R Q hK g hx hy h k
  unfold oEq at h
  split at h
  · rename_i a b e1 e2
    have d1 := str_of (pd_da hx g.fh e1)
    have d2 := str_of (pd_da hy g.fh e2)
    refine .inl ⟨a, b, d1, d2, ?_⟩
    have := k _ h (.bl (if neg then !decide (V.str a = V.str b) else decide (V.str a = V.str b))) F H (by rw [eqv_str]; exact g.pushD (.bl _))
    exact this
  · refine .inr ?_
    rename_i p q _ e1 e2
    have d1 := pd_da hx g.fh e1
    have d2 := pd_da hy g.fh e2
    rw [hK] at d1 d2
    exact ⟨p, q, d1, d2, h.1, h.2.1, k _ h.2.2 _ F H (g.pushD (.bl _))⟩
  · exact h.elim
theorem de_eq (cx : CtxU X) (ha : DE X W a ma u1) (hb : DE X W b mb u2) : DE X W (.Compare a [.Eq] [b] pos) (mBin (oEq false) ma mb) (u1 + u2) := de_cmp (op_eqB cx.u64) o2_eq ha hb (nomark _)
theorem de_lt (ha : DE X W a ma u1) (hb : DE X W b mb u2) : DE X W (.Compare a [.Lt] [b] pos) (mBin oLt ma mb) (u1 + u2) := de_cmp op_lt o2_C ha hb (nomark _)
def oIn (neg : Bool) : D2 := fun x y R => match x.pd, y.seq with
  | some p, some ds => SeqAt.shaped p = true ∧ SeqAt.shaped (.list ds) = true ∧ R (.d (.bool (if neg then !(ds.any fun z => PyData.eqv z p) else ds.any fun z => PyData.eqv z p)))
  | _, _ => False
def rInA (K : PySem.W.Frag) (neg : Bool) : R2 := fun x y H Q => ∃ d ds, Da K H x d ∧ (Da K H y (.list ds) ∨ Da K H y (.tuple ds)) ∧ SeqAt.shaped d = true ∧ SeqAt.shaped (.list ds) = true ∧ Q (.bl (if neg then !(ds.any fun z => PyData.eqv z d) else ds.any fun z => PyData.eqv z d)) H
theorem room_in {A : Around} {ds : List PyData} {d : PyData} (h : SeqAt.shaped d = true) (hu : A.units + 65 < cLine) : A.units + 1 + min (PyData.depthAll ds) d.depth < cLine := by
  have := SeqAt.depth_of_shaped h
  omega
theorem op_inA (hu : X.A.units + 65 < cLine) : OpR X (compareOp .In) (rInA X.K false) := by
  intro pins s σ H x y v u Q I rx ry ⟨d, ds, ⟨F, hF, hd⟩, hs, sd, se, q⟩
  obtain ⟨as, r1⟩ := At.reads I hF d x v (shaped_nd sd) hd rx
  have nd := shaped_nd se
  rcases hs with ⟨F', hF', he⟩ | ⟨F', hF', he⟩
  · obtain ⟨bs, r2⟩ := At.reads I hF' (.list ds) y u nd he ry
    exact SeqAt.in_list_reads r2 r1 (SeqAt.canLay_of_shaped se) (SeqAt.canLay_of_shaped sd) (room_in sd hu) ⟨.bl _, H, I, rfl, q⟩
  · obtain ⟨bs, r2⟩ := At.reads I hF' (.tuple ds) y u (by simpa only [PyData.hasDict] using nd) he ry
    exact SeqAt.in_tuple_reads r2 r1 (SeqAt.canLay_of_shaped se) (SeqAt.canLay_of_shaped sd) (room_in sd hu) ⟨.bl _, H, I, rfl, q⟩
theorem o2_in {neg : Bool} : Op2 X (rInA X.K neg) (oIn neg) := by
  intro G F δ σ H v u x y R Q hK g hx hy h k
  unfold oIn at h
  split at h
  · rename_i p ds e1 e2
    have d1 := pd_da hx g.fh e1
    rw [hK] at d1
    have d2 : Da X.K H u (.list ds) ∨ Da X.K H u (.tuple ds) := by
      match y, e2, hy with
      | .d (.list xs), e2, hy => cases e2; left; have := pd_da hy g.fh rfl; rw [hK] at this; exact this
      | .d (.tuple xs), e2, hy => cases e2; right; have := pd_da hy g.fh rfl; rw [hK] at this; exact this
      | .own xs, e2, hy => cases e2; left; have := pd_da hy g.fh rfl; rw [hK] at this; exact this
      | .bor xs, e2, hy => cases e2; left; have := pd_da hy g.fh rfl; rw [hK] at this; exact this
    exact ⟨p, ds, d1, d2, h.1, h.2.1, k _ h.2.2 _ F H (g.pushD (.bl _))⟩
  · exact h.elim
theorem de_in (cx : CtxU X) (ha : DE X W a ma u1) (hb : DE X W b mb u2) (hm : behindInMarks .In b = false := by rfl) : DE X W (.Compare a [.In] [b] pos) (mBin (oIn false) ma mb) (u1 + u2) := de_cmp (op_inA cx.u65) o2_in ha hb hm
def oIsN (neg : Bool) : D2 := fun x y R => match y with
  | .d .none => match x with
    | .d .none => R (.d (.bool (!neg)))
    | .d _ => R (.d (.bool neg))
    | .own _ => R (.d (.bool neg))
    | .bor _ => R (.d (.bool neg))
    | _ => False
  | _ => False
theorem non_iff {G : Gm} {F H : Hp} {v : V} {x : DV} (hx : VOk G F H v x) : (x = .d .none → v = .non) ∧ (∀ y, x = .d y → y ≠ .none → v ≠ .non) ∧ (∀ xs, x = .own xs → v ≠ .non) ∧ (∀ xs, x = .bor xs → v ≠ .non) := by
  refine ⟨fun e => ?_, fun y e hy hv => ?_, fun xs e hv => ?_, fun xs e hv => ?_⟩
  · subst e
    cases (show At G.K F v .none from hx)
    rfl
  · subst e
    subst hv
    cases (show At G.K F .non y from hx)
    exact hy rfl
  · subst e
    obtain ⟨l, vs, h, _⟩ := hx
    rw [hv] at h
    cases h
  · subst e
    obtain ⟨l, vs, h, _⟩ := hx
    rw [hv] at h
    cases h
def rIsNA (neg : Bool) : R2 := fun x y H Q => y = .non ∧ Q (.bl (if neg then !decide (x = .non) else decide (x = .non))) H
theorem op_isA : OpR X (compareOp .Is) (rIsNA false) := op_isN
theorem o2_isN {neg : Bool} : Op2 X (rIsNA neg) (oIsN neg) := by
  intro G F δ σ H v u x y R Q hK g hx hy h k
  unfold oIsN at h
  split at h
  · have hu := (non_iff hy).1 rfl
    subst hu
    refine ⟨rfl, ?_⟩
    obtain ⟨n1, n2, n3, n4⟩ := non_iff hx
    split at h
    · rw [n1 rfl]
      have e : (if neg = true then !decide (V.non = V.non) else decide (V.non = V.non)) = !neg := by cases neg <;> rfl
      rw [e]
      exact k _ h _ F H (g.pushD (.bl _))
    · rename_i y hy
      have : decide (v = V.non) = false := decide_eq_false (n2 y rfl fun z => hy z)
      rw [this]
      have e : (if neg = true then !false else false) = neg := by cases neg <;> rfl
      rw [e]
      exact k _ h _ F H (g.pushD (.bl _))
    · have : decide (v = V.non) = false := decide_eq_false (n3 _ rfl)
      rw [this]
      have e : (if neg = true then !false else false) = neg := by cases neg <;> rfl
      rw [e]
      exact k _ h _ F H (g.pushD (.bl _))
    · have : decide (v = V.non) = false := decide_eq_false (n4 _ rfl)
      rw [this]
      have e : (if neg = true then !false else false) = neg := by cases neg <;> rfl
      rw [e]
      exact k _ h _ F H (g.pushD (.bl _))
    · exact h.elim
  · exact h.elim
theorem de_is (ha : DE X W a ma u1) (hb : DE X W b mb u2) : DE X W (.Compare a [.Is] [b] pos) (mBin (oIsN false) ma mb) (u1 + u2) := de_cmp op_isA o2_isN ha hb (nomark _)
def oIxI (x : DV) (i : Int) (R : DV → Prop) : Prop := match x with
  | .d (.str z) => z.length ≤ sizeLine ∧ ∃ ch, atI z.cps.toList i = some ch ∧ R (.d (.str ⟨#[ch]⟩))
  | x => match x.seq with
    | some ds => match atI ds i with
      | some d => R (.d d)
      | none => False
    | none => False
def oIx : D2 := fun x y R => match y with
  | .d (.int i) => oIxI x i R
  | _ => False
theorem atL_at {K : PySem.W.Frag} {F : Hp} {vs : List V} {ds : List PyData} (h : AtL K F vs ds) {i : Int} {d : PyData} (e : atI ds i = some d) : ∃ v, atI vs i = some v ∧ At K F v d := by
  unfold atI at e ⊢
  rw [h.length]
  cases q : ixN ds.length i with
  | none => rw [q] at e; cases e
  | some j =>
    rw [q] at e
    obtain ⟨v, h1, h2⟩ := h.get (i := j) e
    exact ⟨v, h1, h2⟩
theorem o2_ix : Op2 X (rIx X.K) oIx := by
  intro G F δ σ H v u x y R Q hK g hx hy h k
  match y, h, hy with
  | .d (.int i), h, hy =>
    cases int_of hy
    replace h : oIxI x i R := h
    have fin : ∀ {ds : List PyData} {l : Addr} {vs : List V}, (match atI ds i with | some d => R (.d d) | none => False) → v = .ref l → AtL G.K F vs ds → (SqL X.K H l vs ∨ SqT X.K H l vs) → rIx X.K v (.int i) H Q := by
      rintro ds l vs hm rfl ha hs
      split at hm
      · rename_i d ed
        obtain ⟨w, ew, hw⟩ := atL_at ha ed
        rcases hs with hs | hs
        · exact .inl ⟨l, vs, i, w, rfl, rfl, hs, ew, k _ hm _ F H (g.pushD hw)⟩
        · exact .inr (.inl ⟨l, vs, i, w, rfl, rfl, hs, ew, k _ hm _ F H (g.pushD hw)⟩)
      · exact hm.elim
    match x, h, hx with
    | .d (.str z), h, hx =>
      cases (show At G.K F v (.str z) from hx)
      obtain ⟨hz, ch, hc, hR⟩ := h
      exact .inr (.inr ⟨z, i, ch, rfl, rfl, hz, hc, k _ hR _ F H (g.pushD (.str _))⟩)
    | .d (.list xs), h, hx =>
      obtain ⟨l, vs, h1, h2, h3⟩ := lst_of hx g.fh rfl
      exact fin h h1 h3 (.inl (SqL.of h2))
    | .d (.tuple xs), h, hx =>
      obtain ⟨l, vs, h1, h2, h3⟩ := tup_of hx g.fh
      rw [hK] at h2
      exact fin h h1 h3 (.inr h2)
    | .own xs, h, hx =>
      obtain ⟨l, vs, h1, h2, h3⟩ := lst_of hx g.fh rfl
      exact fin h h1 h3 (.inl (SqL.of h2))
    | .bor xs, h, hx =>
      obtain ⟨l, vs, h1, h2, h3⟩ := lst_of hx g.fh rfl
      exact fin h h1 h3 (.inl (SqL.of h2))
theorem de_ix (ha : DE X W a ma u1) (hb : DE X W b mb u2) (hs : PlainIx b := by intro _ _; rfl) : DE X W (.Subscript a b pos) (mBin oIx ma mb) (u1 + u2) :=
  ⟨PE.imp (pe_ix ix_seq ha.pe hb.pe hs) fun σ H Q q => bin_lift o2_ix σ H Q q⟩
end
end DL
namespace DL
open PySem PySem.Spec L2
section
variable {u u1 u2 u3 : Nat} {X : Cx} {W : WC} {a b c e : Expr} {es : List Expr} {pos : Pos} {ma mb me : ME} {mas : MA} {k : Nat}
abbrev MO := XD → Env → (Option Int → Prop) → Prop
def liftO (K : PySem.W.Frag) (mg : Str → Option Value) (W : WC) (u : Nat) (m : MO) : TO := fun σ H Q => ∃ (ex : XD) (G : Gm) (F : Hp) (δ τ : Env) (ts : L2.St) (τ1 : Env) (ts1 : L2.St) (R : Option Int → Prop), Now K mg W u ex G F δ σ τ ts τ1 ts1 H ∧ m ex δ R ∧
  ∀ r, R r → ∀ F' H', Good (G.up u) F' (δ ++ τ ++ τ1) (σ ++ ts ++ ts1) H' → Q r H'
structure DO' (X : Cx) (W : WC) (e : Option Expr) (m : MO) (u : Nat) : Prop where
  po : PO X e (liftO X.K X.mg W u m)
theorem PO.imp {X : Cx} {e : Option Expr} {t t' : TO} (h : PO X e t) (i : ∀ σ H Q, t' σ H Q → t σ H Q) : PO X e t' := ⟨fun pins s σ H Q I q => h.run pins s σ H Q I (i _ _ _ q)⟩
def mPN : MO := fun _ _ R => R none
def mPS (m : ME) : MO := fun ex δ R => m ex δ fun x => match x with
  | .d (.int i) => R (some i)
  | _ => False
theorem do_none : DO' X W none mPN 0 := ⟨PO.imp po_none fun σ H Q q => by
  obtain ⟨ex, G, F, δ, τ, ts, τ1, ts1, R, n, m, k⟩ := q
  exact k _ m F H (n.good.later 0)⟩
theorem do_some (h : DE X W e me u) : DO' X W (some e) (mPS me) u := ⟨PO.imp (po_some h.pe) fun σ H Q q => by
  obtain ⟨ex, G, F, δ, τ, ts, τ1, ts1, R, n, m, k⟩ := q
  refine ⟨ex, G, F, δ, τ, ts, τ1, ts1, _, n, m, fun x hx v F1 H1 g1 => ?_⟩
  match x, hx, g1 with
  | .d (.int i), hx, g1 =>
    cases int_of g1.top
    exact ⟨i, rfl, k _ hx F1 H1 g1.pop⟩⟩
def cutD (xs : List PyData) (lo hi : Option Int) : List PyData := (xs.drop (HT.sIx xs.length 0 lo)).take (HT.sIx xs.length xs.length hi - HT.sIx xs.length 0 lo)
theorem atL_cut {K : PySem.W.Frag} {F : Hp} {vs : List V} {ds : List PyData} (h : AtL K F vs ds) (lo hi : Option Int) : AtL K F (cutV vs lo hi) (cutD ds lo hi) := by
  unfold cutV cutD
  rw [h.length]
  exact (h.drop _).take _
def oSl (x : DV) (lo hi : Option Int) (R : DV → Prop) : Prop := match x with
  | .d (.str z) => z.length ≤ sizeLine ∧ R (.d (.str (cutS z lo hi)))
  | .d (.tuple ds) => R (.d (.tuple (cutD ds lo hi)))
  | .scr ns => R (.own (cutD (ns.map .int) lo hi))
  | x => match x.lst with
    | some ds => R (.own (cutD ds lo hi))
    | none => False
def mSl (me : ME) (ml mh : MO) : ME := fun ex δ R => me ex δ fun x => ml ex δ fun lo => mh ex δ fun hi => oSl x lo hi R
def rSl3 (K : PySem.W.Frag) : V → Option Int → Option Int → Hp → VK → Prop := fun x lo hi H Q => rSlL K x lo hi H Q ∨ rSlA K x lo hi H Q ∨ rSlS x lo hi H Q
theorem sl3 : SlR X (rSl3 X.K) := SlR.or sl_list (SlR.or sl_tupA sl_str)
theorem cutD_all {ds : List PyData} {lo hi : Option Int} (h : HT.sIx ds.length 0 lo = 0 ∧ HT.sIx ds.length ds.length hi = ds.length) : cutD ds lo hi = ds := by
  unfold cutD
  rw [h.1, h.2]
  simp
theorem de_slice {lo hi : Option Expr} {p2 : Pos} {ml mh : MO} (he : DE X W e me u1) (hl : DO' X W lo ml u2) (hh : DO' X W hi mh u3) : DE X W (.Subscript e (.Slice lo hi none p2) pos) (mSl me ml mh) (u1 + (u2 + u3)) :=
  ⟨PE.imp (pe_slice sl3 he.pe hl.po hh.po) fun σ H Q q => by
    obtain ⟨ex, G, F, δ, τ, ts, τ1, ts1, R, n, m, k⟩ := q
    refine ⟨ex, G, F, δ, τ, ts, τ1, ts1, _, n.fst, m, fun x hx v F1 H1 g1 => ?_⟩
    refine ⟨ex, G.up u1, F1, δ, τ, ts, _, _, _, (n.after g1).fst, hx, fun l hlo F2 H2 g2 => ?_⟩
    refine ⟨ex, (G.up u1).up u2, F2, δ, τ, ts, _, _, _, (n.after g1).here g2, hlo, fun h hhi F3 H3 g3 => ?_⟩
    rw [up_up, up_up] at g3
    have g : Good (G.up (u1 + (u2 + u3))) F3 (δ ++ τ ++ τ1 ++ [some x]) (σ ++ ts ++ ts1 ++ [some v]) H3 := by simpa only [List.append_assoc] using g3
    have hxv := g.top
    match x, hhi, hxv, g with
    | .d (.str z), hhi, hxv, g =>
      cases (show At G.K F3 v (.str z) from hxv)
      exact .inr (.inr ⟨z, rfl, hhi.1, k _ hhi.2 _ F3 H3 (g.pop.pushD (.str _))⟩)
    | .d (.tuple ds), hhi, hxv, g =>
      obtain ⟨a, vs, rfl, h2, h3⟩ := tup_of hxv g.fh
      have hxx : At G.K F3 (.ref a) (.tuple ds) := hxv
      rw [n.k] at h2
      refine .inr (.inl ⟨a, vs, rfl, h2, fun hw => ?_, fun hw p hp => k _ hhi _ _ _ (g.pop.newT hp (atL_cut h3 l h))⟩)
      rw [h3.length] at hw
      have hhi' : R (.d (.tuple (cutD ds l h))) := hhi
      rw [cutD_all hw] at hhi'
      exact k _ hhi' _ F3 H3 (g.pop.pushD hxx)
    | .scr ns, hhi, hxv, g =>
      obtain ⟨a, vs, rfl, h2, h3⟩ := rd_of hxv g.fh rfl
      rw [n.k] at h2
      exact .inl ⟨a, vs, rfl, h2, fun p hp => k _ hhi _ _ _ (g.pop.newO hp (atL_cut h3 l h))⟩
    | .d (.list ds), hhi, hxv, g =>
      obtain ⟨a, vs, rfl, h2, h3⟩ := lst_of hxv g.fh rfl
      exact .inl ⟨a, vs, rfl, SqL.of h2, fun p hp => k _ hhi _ _ _ (g.pop.newO hp (atL_cut h3 l h))⟩
    | .own ds, hhi, hxv, g =>
      obtain ⟨a, vs, rfl, h2, h3⟩ := lst_of hxv g.fh rfl
      exact .inl ⟨a, vs, rfl, SqL.of h2, fun p hp => k _ hhi _ _ _ (g.pop.newO hp (atL_cut h3 l h))⟩
    | .bor ds, hhi, hxv, g =>
      obtain ⟨a, vs, rfl, h2, h3⟩ := lst_of hxv g.fh rfl
      exact .inl ⟨a, vs, rfl, SqL.of h2, fun p hp => k _ hhi _ _ _ (g.pop.newO hp (atL_cut h3 l h))⟩⟩
section
variable {prog : Program} {w : World} {A : Around} {E : Value → Shared → Prop} {s : Shared}
theorem back_applied {sl : Addr} {n : Nat} {Q : Int × Int × Nat → Shared → Prop} (hs : ∃ os, s.heap.get? sl = some os ∧ os.cls = .type "slice" ∧ ∃ t, os.data = .fields #[.none, .none, .int (-1) t])
    (h : Q ((n : Int) - 1, -1, n) s) : wpAny (model prog w) A (Builtin.Slice.sliceApplied (.ref sl) (pure (n : Int))) Q E s := by
  obtain ⟨os, hos, hcs, t, hds⟩ := hs
  unfold Builtin.Slice.sliceApplied Builtin.Slice.sliceFields
  refine wpAny_bind (wpAny_bind (wpAny_field hos hds (x := .none) rfl (wpAny_bind (wpAny_field hos hds (x := .none) rfl (wpAny_bind (wpAny_field hos hds (x := .int (-1) t) rfl (wpAny_pure ?_)))))))
  refine wpAny_bind (PyProof.Rows.slicePart_int ?_)
  show wpAny _ _ (if ((-1 : Int) == 0) = true then _ else _) _ _ s
  rw [if_neg (by decide)]
  refine wpAny_bind (PyProof.Rows.slicePart_none (wpAny_bind (PyProof.Rows.slicePart_none (wpAny_bind (wpAny_pure ?_)))))
  have e1 : Builtin.Slice.sliceAdjust none none (-1) (n : Int) = ((n : Int) - 1, -1) := by
    unfold Builtin.Slice.sliceAdjust
    simp
  have e2 : Builtin.Slice.slicePlaces ((n : Int) - 1) (-1) (-1) = n := by
    unfold Builtin.Slice.slicePlaces
    simp
    omega
  show wpAny _ _ (match Builtin.Slice.sliceAdjust none none (-1) (n : Int) with | (lo, hi) => pure (lo, (-1 : Int), Builtin.Slice.slicePlaces lo hi (-1))) _ _ s
  rw [e1]
  show wpAny _ _ (pure ((n : Int) - 1, (-1 : Int), Builtin.Slice.slicePlaces ((n : Int) - 1) (-1) (-1))) _ _ s
  rw [e2]
  exact wpAny_pure h
theorem back_pick (xs : List Value) : ((List.range xs.length).filterMap fun (m : Nat) => xs.toArray[(((xs.length : Nat) : Int) - 1 + (m : Int) * (-1)).toNat]?) = xs.reverse := by
  have e : (List.range xs.length).map (fun m => xs.length - 1 - m) = (List.range xs.length).reverse := by
    apply List.ext_getElem?
    intro i
    by_cases hi : i < xs.length
    · rw [List.getElem?_map, List.getElem?_range hi, List.getElem?_reverse (by simpa using hi), List.length_range, List.getElem?_range (by omega)]
      rfl
    · rw [List.getElem?_eq_none (by simpa using hi), List.getElem?_eq_none (by simpa using hi)]
  have e2 : ((List.range xs.length).filterMap fun (m : Nat) => xs.toArray[(((xs.length : Nat) : Int) - 1 + (m : Int) * (-1)).toNat]?) = ((List.range xs.length).map (fun m => xs.length - 1 - m)).filterMap fun j => xs[j]? := by
    rw [List.filterMap_map]
    have cong : ∀ (l : List Nat) (f g : Nat → Option Value), (∀ m ∈ l, f m = g m) → l.filterMap f = l.filterMap g := by
      intro l f g h
      induction l with
      | nil => rfl
      | cons a l ih => rw [List.filterMap_cons, List.filterMap_cons, h a List.mem_cons_self, ih fun m hm => h m (List.mem_cons_of_mem _ hm)]
    refine cong _ _ _ fun m hm => ?_
    have hm' : m < xs.length := List.mem_range.mp hm
    have : (((xs.length : Nat) : Int) - 1 + (m : Int) * (-1)).toNat = xs.length - 1 - m := by omega
    rw [this]
    simp
  rw [e2, e, List.filterMap_reverse]
  congr 1
  apply List.ext_getElem?
  intro i
  have all : ∀ l : List Value, (List.range l.length).filterMap (fun j => l[j]?) = l := by
    intro l
    induction l with
    | nil => rfl
    | cons a l ih =>
      rw [List.length_cons, List.range_succ_eq_map, List.filterMap_cons]
      simp only [List.getElem?_cons_zero, List.filterMap_map]
      congr 1
  rw [all]
theorem getItem_tuple_back {t sl : Addr} {its : List Value} {Q : Value → Shared → Prop} (ht : PyProof.Rows.IsTup s.heap t its.toArray) (hs : ∃ os, s.heap.get? sl = some os ∧ os.cls = .type "slice" ∧ ∃ tk, os.data = .fields #[.none, .none, .int (-1) tk])
    (h : Q (.ref s.heap.objs.size) { s with heap := s.heap.push { cls := .type "tuple", data := .seq its.reverse.toArray } }) (hsz : its.length ≤ sizeLine) : wpAny (model prog w) A (getItem (.ref t) (.ref sl)) Q E s := by
  obtain ⟨os, hos, hcs, hrest⟩ := id hs
  have hT : s.TypeIs (.ref sl) "slice" := ⟨os, hos, hcs⟩
  have room : sizeOk (.seq its.reverse.toArray) := by
    show its.reverse.toArray.size ≤ sizeLine
    rw [List.size_toArray, List.length_reverse]
    exact hsz
  unfold getItem
  try with_reducible refine wpAny_holding ?_
  first | refine wpAny_bind (wpAny_pure ?_) | skip
  refine wpAny_bind (wpAny_sequenceKey ht.typeIs (by decide) ?_)
  refine wpAny_bind (wpAny_callSpecial?_slot (name := Str.ofString "__getitem__") ht.typeIs PyProof.Rows.slot_tuple_getitem (wpAny_call_entry PyProof.Rows.slot_tuple_getitem ht.typeIs PyProof.Rows.entry_tuple_getitem ?_ (PyProof.Rows.args_tuple_getitem _ _)))
  show wpAny _ _ (Builtin.Tuple.tupleItemsOf (.ref t) >>= _) _ _ s
  refine wpAny_bind (PyProof.Rows.tupleItemsOf_ ht ?_)
  refine wpAny_bind (wpAny_typeOf hT ?_)
  rw [if_pos (by decide)]
  rw [show its.toArray.size = its.length from List.size_toArray]
  refine wpAny_bind (back_applied hs ?_)
  have hne : ¬ ((((its.length : Nat) : Int) - 1 == 0 && (-1 : Int) == 1 && its.length == its.length) = true) := by simp
  show wpAny _ _ (if ((((its.length : Nat) : Int) - 1 == 0 && (-1 : Int) == 1 && its.length == its.length) = true) then _ else _) _ _ s
  rw [if_neg hne, back_pick]
  first
    | exact wpAny_bind (m := Builtin.Tuple.tupleExact _) (wpAny_newObj_type (wpAny_pure ⟨_, rfl, wpAny_pure h⟩) room)
    | exact wpAny_bind (m := Builtin.Tuple.tupleExact _) (wpAny_newObj_type (wpAny_bind (wpAny_pure (wpAny_pure ⟨_, rfl, wpAny_pure h⟩))) room)
    | exact wpAny_bind (wpAny_bind (m := Builtin.Tuple.tupleExact _) (wpAny_newObj_type (wpAny_pure (wpAny_pure ⟨_, rfl, wpAny_pure h⟩)) room))
    | exact wpAny_bind (wpAny_bind (m := Builtin.Tuple.tupleExact _) (wpAny_newObj_type (wpAny_pure ⟨_, rfl, wpAny_pure h⟩) room))
end
def tBack (K : PySem.W.Frag) (te : TE) : TE := fun σ H Q => te σ H fun x H1 => ∃ a xs, x = .ref a ∧ ((SqL K H1 a xs ∧ ∀ p, H1 p = none → Q (.ref p) (upd H1 p (.lst xs.reverse))) ∨ (SqT K H1 a xs ∧ ∀ p, H1 p = none → Q (.ref p) (upd H1 p (.tup xs.reverse))))
theorem pe_back {te : TE} {n1 : Nat} {p1 p2 p3 : Pos} (he : PE X e te) : PE X (.Subscript e (.Slice none none (some (.UnaryOp .USub (.Constant (.int 1) n1 p1) p2)) p3) pos) (tBack X.K te) := by
  refine ⟨fun pins s σ H Q I h => ?_⟩
  refine PyProof.Rows.Subscript_ (thn (he.run pins s σ H _ I h) fun v s1 ⟨x, H1, I1, r1, a, xs, ex, q⟩ => ?_)
  subst ex
  cases r1
  have one : PO X (some (.UnaryOp .USub (.Constant (.int 1) n1 p1) p2)) (tPart (tUn (rU fun i => .int (-i)) (tC (.int 1)))) := po_some (pe_un un_neg pe_int)
  refine wpAny_Slice (thn (po_none.run pins s1 σ H1 (fun o H' => o = none ∧ H' = H1) I1 ⟨rfl, rfl⟩) fun vl s2 ⟨l, H2, I2, pl, el, e2⟩ => ?_)
  subst el
  subst e2
  refine thn (po_none.run pins s2 σ H2 (fun o H' => o = none ∧ H' = H2) I2 ⟨rfl, rfl⟩) fun vu s3 ⟨u, H3, I3, pu, eu, e3⟩ => ?_
  subst eu
  subst e3
  refine thn (one.run pins s3 σ H3 (fun o H' => o = some (-1) ∧ H' = H3) I3 ⟨1, rfl, -1, rfl, rfl, rfl⟩) fun vs s4 ⟨o, H4, I4, ps, eo, e4⟩ => ?_
  subst eo
  subst e4
  cases pl
  cases pu
  have I5 : Inv X pins σ H4 { s4 with heap := s4.heap.push { cls := .type "slice", data := .fields #[.none, .none, vs] } } := I4.kept (t' := s4.toks) fun b ob z => Heap.get?_push_of_some _ z
  show wpAny (model X.prog X.w) X.A (PyProof.Rows.subscriptTail e (.Slice none none (some (.UnaryOp .USub (.Constant (.int 1) n1 p1) p2)) p3) (.ref a) (.ref s4.heap.objs.size)) (EP X pins σ Q) X.xe { s4 with heap := s4.heap.push { cls := .type "slice", data := .fields #[.none, .none, vs] } }
  rcases q with ⟨hx, q⟩ | ⟨hx, q⟩
  · obtain ⟨its, r, ht, hz⟩ := I5.list hx
    have hlen := r.length
    refine PyProof.Rows.tail_any (ops := [.ref a, .ref s4.heap.objs.size]) ht.isList.typeIs PySem.slot_list_getitem.lookup ?_ (by with_unfolding_all rfl)
    refine wpAny_getItem_list_slice ht.isList (Heap.IsSliceOf.new _ .none .none vs) .none .none ps (by decide) ?_ (by rw [List.size_toArray]; omega)
    rw [PySem.W.krv_pick]
    exact ⟨.ref _, _, I5.laid (t' := s4.toks) (o := .lst xs.reverse) (fun b ob z => Heap.get?_push_of_some _ z) (Nat.le_refl _) ⟨by rw [List.length_reverse]; exact hz, _, 0, r.reverse, Heap.get?_push_size _ rfl⟩, rfl, q _ (I5.hok.fresh (Nat.le_refl _))⟩
  · obtain ⟨its, r, ht, hz⟩ := I5.tuple hx
    have hlen := r.length
    obtain ⟨tk, rfl⟩ : ∃ tk, vs = .int (-1) tk := by
      cases ps
      exact ⟨_, rfl⟩
    refine PyProof.Rows.tail_any (ops := [.ref a, .ref s4.heap.objs.size]) ht.typeIs PyProof.Rows.slot_tuple_getitem.lookup ?_ (by with_unfolding_all rfl)
    refine getItem_tuple_back ht ⟨_, Heap.get?_push_size _ rfl, rfl, tk, rfl⟩ ?_ (by omega)
    exact ⟨.ref _, _, I5.laid (t' := s4.toks) (o := .tup xs.reverse) (fun b ob z => Heap.get?_push_of_some _ z) (Nat.le_refl _) ⟨by rw [List.length_reverse]; exact hz, _, r.reverse, PyProof.Rows.IsTup.new _ _⟩, rfl, q _ (I5.hok.fresh (Nat.le_refl _))⟩
def oBack : D1 := fun x R => match x with
  | .d (.tuple ds) => R (.d (.tuple ds.reverse))
  | x => match x.lst with
    | some ds => R (.own ds.reverse)
    | none => False
theorem de_back {n1 : Nat} {p1 p2 p3 : Pos} (he : DE X W e me u) : DE X W (.Subscript e (.Slice none none (some (.UnaryOp .USub (.Constant (.int 1) n1 p1) p2)) p3) pos) (mUn oBack me) u :=
  ⟨PE.imp (pe_back he.pe) fun σ H Q q => by
    obtain ⟨ex, G, F, δ, τ, ts, τ1, ts1, R, n, m, k⟩ := q
    refine ⟨ex, G, F, δ, τ, ts, τ1, ts1, _, n, m, fun x hx v F1 H1 g => ?_⟩
    have hxv := g.top
    match x, hx, hxv, g with
    | .d (.tuple ds), hx, hxv, g =>
      obtain ⟨a, vs, rfl, h2, h3⟩ := tup_of hxv g.fh
      rw [n.k] at h2
      exact ⟨a, vs, rfl, .inr ⟨h2, fun p hp => k _ hx _ _ _ (g.pop.newT hp h3.reverse)⟩⟩
    | .d (.list ds), hx, hxv, g =>
      obtain ⟨a, vs, rfl, h2, h3⟩ := lst_of hxv g.fh rfl
      exact ⟨a, vs, rfl, .inl ⟨SqL.of h2, fun p hp => k _ hx _ _ _ (g.pop.newO hp h3.reverse)⟩⟩
    | .own ds, hx, hxv, g =>
      obtain ⟨a, vs, rfl, h2, h3⟩ := lst_of hxv g.fh rfl
      exact ⟨a, vs, rfl, .inl ⟨SqL.of h2, fun p hp => k _ hx _ _ _ (g.pop.newO hp h3.reverse)⟩⟩
    | .bor ds, hx, hxv, g =>
      obtain ⟨a, vs, rfl, h2, h3⟩ := lst_of hxv g.fh rfl
      exact ⟨a, vs, rfl, .inl ⟨SqL.of h2, fun p hp => k _ hx _ _ _ (g.pop.newO hp h3.reverse)⟩⟩⟩
end
end DL
namespace DL
open PySem PySem.Spec L2
section
variable {u u1 u2 u3 : Nat} {X : Cx} {W : WC} {a b c e : Expr} {es : List Expr} {pos p : Pos} {ma mb me : ME} {mas : MA} {k : Nat}
def o1 (o : D1) : DN := fun xs R => match xs with
  | [x] => o x R
  | _ => False
theorem on_1 {r : List V → Hp → VK → Prop} {o : D1} (h : ∀ (G : Gm) (F : Hp) (δ : Env) (σ : L2.St) (H : Hp) (v : V) (x : DV) (R : DV → Prop) (Q : VK), G.K = X.K → Good G F δ σ H → VOk G F H v x → o x R →
    (∀ z, R z → ∀ w F' H', Good G F' (δ ++ [some z]) (σ ++ [some w]) H' → Q w H') → r [v] H Q) : OpN X r (o1 o) := by
  intro G F δ σ H vs xs R Q hK hl g ho k
  match xs, ho, hl, g with
  | [x], ho, hl, g =>
    obtain ⟨v, rfl, hv, g'⟩ := one_of hl g
    exact h G F δ σ H v x R Q hK g' hv ho k
theorem on_2 {r : List V → Hp → VK → Prop} {o : D2} (h : ∀ (G : Gm) (F : Hp) (δ : Env) (σ : L2.St) (H : Hp) (v u : V) (x y : DV) (R : DV → Prop) (Q : VK), G.K = X.K → Good G F δ σ H → VOk G F H v x → VOk G F H u y → o x y R →
    (∀ z, R z → ∀ w F' H', Good G F' (δ ++ [some z]) (σ ++ [some w]) H' → Q w H') → r [v, u] H Q) : OpN X r (fun xs R => match xs with | [x, y] => o x y R | _ => False) := by
  intro G F δ σ H vs xs R Q hK hl g ho k
  match xs, ho, hl, g with
  | [x, y], ho, hl, g =>
    obtain ⟨v, u, rfl, hv, hu, g'⟩ := two_of hl g
    exact h G F δ σ H v u x y R Q hK g' hv hu ho k
def o2 (o : D2) : DN := fun xs R => match xs with
  | [x, y] => o x y R
  | _ => False
def oLen : D1 := fun x R => match x with
  | .d (.str z) => z.length ≤ sizeLine ∧ R (.d (.int z.length))
  | .scr ns => R (.d (.int ns.length))
  | x => match x.seq with
    | some ds => R (.d (.int ds.length))
    | none => False
def rLen (K : PySem.W.Frag) : List V → Hp → VK → Prop := fun xs H Q => (∃ p ys, xs = [.ref p] ∧ (SqL K H p ys ∨ SqT K H p ys) ∧ Q (.int ys.length) H) ∨ ∃ z, xs = [.str z] ∧ z.length ≤ sizeLine ∧ Q (.int z.length) H
theorem cr_len : CallR X (.builtin "len") (rLen X.K) := CallR.or call_len_seq call_len_str
theorem on_len : OpN X (rLen X.K) (o1 oLen) := on_1 fun G F δ σ H v x R Q hK g hx h k => by
  match x, h, hx with
  | .d (.str z), h, hx =>
    cases (show At G.K F v (.str z) from hx)
    exact .inr ⟨z, rfl, h.1, k _ h.2 _ F H (g.pushD (.int _))⟩
  | .scr ns, h, hx =>
    obtain ⟨l, vs, rfl, h1, h2⟩ := rd_of hx g.fh rfl
    rw [hK] at h1
    refine .inl ⟨l, vs, rfl, .inl h1, ?_⟩
    rw [h2.length, List.length_map]
    exact k _ h _ F H (g.pushD (.int _))
  | .d (.list ds), h, hx =>
    obtain ⟨l, vs, rfl, h1, h2⟩ := lst_of hx g.fh rfl
    refine .inl ⟨l, vs, rfl, .inl (SqL.of h1), ?_⟩
    rw [h2.length]
    exact k _ h _ F H (g.pushD (.int _))
  | .d (.tuple ds), h, hx =>
    obtain ⟨l, vs, rfl, h1, h2⟩ := tup_of hx g.fh
    rw [hK] at h1
    refine .inl ⟨l, vs, rfl, .inr h1, ?_⟩
    rw [h2.length]
    exact k _ h _ F H (g.pushD (.int _))
  | .own ds, h, hx =>
    obtain ⟨l, vs, rfl, h1, h2⟩ := lst_of hx g.fh rfl
    refine .inl ⟨l, vs, rfl, .inl (SqL.of h1), ?_⟩
    rw [h2.length]
    exact k _ h _ F H (g.pushD (.int _))
  | .bor ds, h, hx =>
    obtain ⟨l, vs, rfl, h1, h2⟩ := lst_of hx g.fh rfl
    refine .inl ⟨l, vs, rfl, .inl (SqL.of h1), ?_⟩
    rw [h2.length]
    exact k _ h _ F H (g.pushD (.int _))
theorem de_len (hg : Gl X "len") (hm : X.mg "len" = none) (ha : DA X W [e] mas u) (he : starEach [e] X.env = (false, eval e X.env) :: starEach [] X.env := by rfl) (hpl : (backTo pos (starEach [] X.env)).any (·.1) = false := by rfl) :
    DE X W (.Call (.Name "len" p) [e] [] pos) (mCB (o1 oLen) mas) u := de_callB cr_len on_len hg hm PySem.boot_len ha (by decide) (by decide) he hpl
def oAbs : D1 := fun x R => match x with
  | .d (.int i) => R (.d (.int (if i < 0 then -i else i)))
  | _ => False
theorem on_abs : OpN X (fun xs H Q => ∃ i, xs = [.int i] ∧ Q (.int (if i < 0 then -i else i)) H) (o1 oAbs) := on_1 fun G F δ σ H v x R Q hK g hx h k => by
  match x, h, hx with
  | .d (.int i), h, hx =>
    cases int_of hx
    exact ⟨i, rfl, k _ h _ F H (g.pushD (.int _))⟩
theorem de_abs (hg : Gl X "abs") (hm : X.mg "abs" = none) (ha : DA X W [e] mas u) (he : starEach [e] X.env = (false, eval e X.env) :: starEach [] X.env := by rfl) (hpl : (backTo pos (starEach [] X.env)).any (·.1) = false := by rfl) :
    DE X W (.Call (.Name "abs" p) [e] [] pos) (mCB (o1 oAbs) mas) u := de_callB call_abs on_abs hg hm (by decide +kernel) ha (by decide) (by decide) he hpl
def oMax2 : D2 := fun x y R => match x, y with
  | .d (.int i), .d (.int j) => R (.d (.int (if j > i then j else i)))
  | _, _ => False
def oMin2 : D2 := fun x y R => match x, y with
  | .d (.int i), .d (.int j) => R (.d (.int (if j < i then j else i)))
  | _, _ => False
theorem oMax2_inv {x y : DV} {R : DV → Prop} (h : oMax2 x y R) : ∃ i j, x = .d (.int i) ∧ y = .d (.int j) ∧ R (.d (.int (if j > i then j else i))) := by
  cases x with
  | d v => cases v with
    | int i => cases y with
      | d w => cases w with
        | int j => exact ⟨i, j, rfl, rfl, h⟩
        | _ => exact False.elim h
      | _ => exact False.elim h
    | _ => exact False.elim h
  | _ => exact False.elim h
theorem oMin2_inv {x y : DV} {R : DV → Prop} (h : oMin2 x y R) : ∃ i j, x = .d (.int i) ∧ y = .d (.int j) ∧ R (.d (.int (if j < i then j else i))) := by
  cases x with
  | d v => cases v with
    | int i => cases y with
      | d w => cases w with
        | int j => exact ⟨i, j, rfl, rfl, h⟩
        | _ => exact False.elim h
      | _ => exact False.elim h
    | _ => exact False.elim h
  | _ => exact False.elim h
theorem on_max2 : OpN X (fun xs H Q => ∃ i j, xs = [.int i, .int j] ∧ Q (.int (if j > i then j else i)) H) (o2 oMax2) := on_2 fun G F δ σ H v u x y R Q hK g hx hy h k => by
  obtain ⟨i, j, rfl, rfl, h⟩ := oMax2_inv h
  cases int_of hx
  cases int_of hy
  exact ⟨i, j, rfl, k _ h _ F H (g.pushD (.int _))⟩
theorem on_min2 : OpN X (fun xs H Q => ∃ i j, xs = [.int i, .int j] ∧ Q (.int (if j < i then j else i)) H) (o2 oMin2) := on_2 fun G F δ σ H v u x y R Q hK g hx hy h k => by
  obtain ⟨i, j, rfl, rfl, h⟩ := oMin2_inv h
  cases int_of hx
  cases int_of hy
  exact ⟨i, j, rfl, k _ h _ F H (g.pushD (.int _))⟩
theorem de_max2 (hc : X.calm = true) (hg : Gl X "max") (hm : X.mg "max" = none) (ha : DA X W [a, b] mas u) (he : starEach [a, b] X.env = (false, eval a X.env) :: starEach [b] X.env := by rfl) (hpl : (backTo pos (starEach [b] X.env)).any (·.1) = false := by rfl) :
    DE X W (.Call (.Name "max" p) [a, b] [] pos) (mCB (o2 oMax2) mas) u := de_callB (call_max2 hc) on_max2 hg hm (by decide +kernel) ha (by decide) (by decide) he hpl
theorem de_min2 (hc : X.calm = true) (hg : Gl X "min") (hm : X.mg "min" = none) (ha : DA X W [a, b] mas u) (he : starEach [a, b] X.env = (false, eval a X.env) :: starEach [b] X.env := by rfl) (hpl : (backTo pos (starEach [b] X.env)).any (·.1) = false := by rfl) :
    DE X W (.Call (.Name "min" p) [a, b] [] pos) (mCB (o2 oMin2) mas) u := de_callB (call_min2 hc) on_min2 hg hm (by decide +kernel) ha (by decide) (by decide) he hpl
def oInt : D1 := fun x R => match x with
  | .d (.int i) => R (.d (.int i))
  | .d (.bool b) => R (.d (.int (if b then 1 else 0)))
  | _ => False
theorem on_int : OpN X (fun xs H Q => (∃ i, xs = [.int i] ∧ Q (.int i) H) ∨ ∃ k, xs = [.bl k] ∧ Q (.int (if k then 1 else 0)) H) (o1 oInt) := on_1 fun G F δ σ H v x R Q hK g hx h k => by
  match x, h, hx with
  | .d (.int i), h, hx =>
    cases int_of hx
    exact .inl ⟨i, rfl, k _ h _ F H (g.pushD (.int _))⟩
  | .d (.bool b), h, hx =>
    cases (show At G.K F v (.bool b) from hx)
    exact .inr ⟨b, rfl, k _ h _ F H (g.pushD (.int _))⟩
theorem de_intC (hg : Gl X "int") (hm : X.mg "int" = none) (ha : DA X W [e] mas u) (he : starEach [e] X.env = (false, eval e X.env) :: starEach [] X.env := by rfl) (hpl : (backTo pos (starEach [] X.env)).any (·.1) = false := by rfl) :
    DE X W (.Call (.Name "int" p) [e] [] pos) (mCB (o1 oInt) mas) u := de_callTy call_int1 on_int hg hm (by decide +kernel) ha (by decide) (by decide) he hpl
def oTuple : D1 := fun x R => match x with
  | .d (.tuple ds) => R (.d (.tuple ds))
  | x => match x.lst with
    | some ds => R (.d (.tuple ds))
    | none => False
theorem on_tuple : OpN X (fun xs H Q => ∃ p ys, xs = [.ref p] ∧ ((SqL X.K H p ys ∧ ∀ l, H l = none → Q (.ref l) (upd H l (.tup ys))) ∨ (SqT X.K H p ys ∧ Q (.ref p) H))) (o1 oTuple) := on_1 fun G F δ σ H v x R Q hK g hx h k => by
  match x, h, hx with
  | .d (.tuple ds), h, hx =>
    have hxx : At G.K F v (.tuple ds) := hx
    obtain ⟨l, vs, rfl, h1, h2⟩ := tup_of hx g.fh
    rw [hK] at h1
    exact ⟨l, vs, rfl, .inr ⟨h1, k _ h _ F H (g.pushD hxx)⟩⟩
  | .d (.list ds), h, hx =>
    obtain ⟨l, vs, rfl, h1, h2⟩ := lst_of hx g.fh rfl
    exact ⟨l, vs, rfl, .inl ⟨SqL.of h1, fun q hq => k _ h _ _ _ (g.newT hq h2)⟩⟩
  | .own ds, h, hx =>
    obtain ⟨l, vs, rfl, h1, h2⟩ := lst_of hx g.fh rfl
    exact ⟨l, vs, rfl, .inl ⟨SqL.of h1, fun q hq => k _ h _ _ _ (g.newT hq h2)⟩⟩
  | .bor ds, h, hx =>
    obtain ⟨l, vs, rfl, h1, h2⟩ := lst_of hx g.fh rfl
    exact ⟨l, vs, rfl, .inl ⟨SqL.of h1, fun q hq => k _ h _ _ _ (g.newT hq h2)⟩⟩
theorem de_tupleC (hg : Gl X "tuple") (hm : X.mg "tuple" = none) (ha : DA X W [e] mas u) (he : starEach [e] X.env = (false, eval e X.env) :: starEach [] X.env := by rfl) (hpl : (backTo pos (starEach [] X.env)).any (·.1) = false := by rfl) :
    DE X W (.Call (.Name "tuple" p) [e] [] pos) (mCB (o1 oTuple) mas) u := de_callTy call_tuple_of on_tuple hg hm (by decide +kernel) ha (by decide) (by decide) he hpl
def oList : D1 := fun x R => match x.seq with
  | some ds => R (.own ds)
  | none => False
theorem on_list : OpN X (fun xs H Q => ∃ p ys, xs = [.ref p] ∧ (SqL X.K H p ys ∨ SqT X.K H p ys) ∧ ∀ l, H l = none → Q (.ref l) (upd H l (.lst ys))) (o1 oList) := on_1 fun G F δ σ H v x R Q hK g hx h k => by
  match x, h, hx with
  | .d (.tuple ds), h, hx =>
    obtain ⟨l, vs, rfl, h1, h2⟩ := tup_of hx g.fh
    rw [hK] at h1
    exact ⟨l, vs, rfl, .inr h1, fun q hq => k _ h _ _ _ (g.newO hq h2)⟩
  | .d (.list ds), h, hx =>
    obtain ⟨l, vs, rfl, h1, h2⟩ := lst_of hx g.fh rfl
    exact ⟨l, vs, rfl, .inl (SqL.of h1), fun q hq => k _ h _ _ _ (g.newO hq h2)⟩
  | .own ds, h, hx =>
    obtain ⟨l, vs, rfl, h1, h2⟩ := lst_of hx g.fh rfl
    exact ⟨l, vs, rfl, .inl (SqL.of h1), fun q hq => k _ h _ _ _ (g.newO hq h2)⟩
  | .bor ds, h, hx =>
    obtain ⟨l, vs, rfl, h1, h2⟩ := lst_of hx g.fh rfl
    exact ⟨l, vs, rfl, .inl (SqL.of h1), fun q hq => k _ h _ _ _ (g.newO hq h2)⟩
theorem de_listC (hg : Gl X "list") (hm : X.mg "list" = none) (ha : DA X W [e] mas u) (he : starEach [e] X.env = (false, eval e X.env) :: starEach [] X.env := by rfl) (hpl : (backTo pos (starEach [] X.env)).any (·.1) = false := by rfl) :
    DE X W (.Call (.Name "list" p) [e] [] pos) (mCB (o1 oList) mas) u := de_callTy call_list_of on_list hg hm (by decide +kernel) ha (by decide) (by decide) he hpl
def intsOf : List PyData → Option (List Int)
  | [] => some []
  | .int i :: r => (intsOf r).map (i :: ·)
  | _ :: _ => none
def boolsOf : List PyData → Option (List Bool)
  | [] => some []
  | .bool i :: r => (boolsOf r).map (i :: ·)
  | _ :: _ => none
theorem intsOf_map : ∀ ns : List Int, intsOf (ns.map PyData.int) = some ns
  | [] => rfl
  | n :: ns => by simp [intsOf, intsOf_map ns]
theorem boolsOf_map : ∀ ns : List Bool, boolsOf (ns.map PyData.bool) = some ns
  | [] => rfl
  | n :: ns => by simp [boolsOf, boolsOf_map ns]
theorem intsOf_eq : ∀ {ds : List PyData} {ns : List Int}, intsOf ds = some ns → ds = ns.map PyData.int
  | [], ns, e => by cases e; rfl
  | .int i :: r, ns, e => by
    simp only [intsOf, Option.map_eq_some_iff] at e
    obtain ⟨m, h, rfl⟩ := e
    rw [intsOf_eq h]
    rfl
def oInts (o : List Int → (DV → Prop) → Prop) : D1 := fun x R => match x.lst with
  | some ds => match intsOf ds with
    | some ns => o ns R
    | none => False
  | none => False
theorem ints_of {G : Gm} {F H : Hp} {v : V} {x : DV} {o : List Int → (DV → Prop) → Prop} {R : DV → Prop} (hx : VOk G F H v x) (hf : Same F H) (h : oInts o x R) : ∃ l ns, v = .ref l ∧ H l = some (.lst (ns.map V.int)) ∧ o ns R := by
  unfold oInts at h
  split at h
  · rename_i ds e
    split at h
    · rename_i ns e2
      obtain ⟨l, vs, rfl, h1, h2⟩ := lst_of hx hf e
      rw [intsOf_eq e2] at h2
      have := h2.ints
      subst this
      exact ⟨l, ns, rfl, h1, h⟩
    · exact h.elim
  · exact h.elim
def isort (ns : List Int) : List Int := ns.mergeSort fun a b => decide (a ≤ b)
theorem isort_of {ns ms : List Int} (hp : ms.Perm ns) (hs : ms.Pairwise (· ≤ ·)) : ms = isort ns := by
  have h1 : (isort ns).Perm ns := List.mergeSort_perm _ _
  have h2 : (isort ns).Pairwise (· ≤ ·) := by
    have := List.pairwise_mergeSort (le := fun a b : Int => decide (a ≤ b)) (fun a b c h1 h2 => by simp at *; omega) (fun a b => by simp; omega) ns
    exact this.imp fun h => by simpa using h
  exact List.Perm.eq_of_pairwise (fun a b _ _ h1 h2 => Int.le_antisymm h1 h2) hs h2 (hp.trans h1.symm)
def oSum : D1 := oInts fun ns R => R (.d (.int ns.sum))
theorem on_sum : OpN X (rSum X.K) (o1 oSum) := on_1 fun G F δ σ H v x R Q hK g hx h k => by
  obtain ⟨l, ns, rfl, h1, hR⟩ := ints_of hx g.fh h
  exact ⟨l, ns, rfl, SqL.of h1, k _ hR _ F H (g.pushD (.int _))⟩
theorem de_sum (hc : X.calm = true) (hg : Gl X "sum") (hm : X.mg "sum" = none) (ha : DA X W [e] mas u) (he : starEach [e] X.env = (false, eval e X.env) :: starEach [] X.env := by rfl) (hpl : (backTo pos (starEach [] X.env)).any (·.1) = false := by rfl) :
    DE X W (.Call (.Name "sum" p) [e] [] pos) (mCB (o1 oSum) mas) u := de_callB (cr_sum hc) on_sum hg hm (by decide +kernel) ha (by decide) (by decide) he hpl
def oBools (f : List Bool → Bool) : D1 := fun x R => match x.lst with
  | some ds => match boolsOf ds with
    | some bs => R (.d (.bool (f bs)))
    | none => False
  | none => False
def isTy : PyData → String → Bool
  | .none, _ => false
  | .bool _, T => T == "bool" || T == "int"
  | .int _, T => T == "int"
  | .str _, T => T == "str"
  | .list _, T => T == "list"
  | .tuple _, T => T == "tuple"
  | .dict ks, T => T == "dict" && !isObj ks
def tys : List String := ["int", "bool", "str", "tuple", "list", "dict"]
theorem kit_all : ∀ T ∈ tys, kitB "NoneType" T = some false ∧ kitB "bool" T = some (T == "bool" || T == "int") ∧ kitB "int" T = some (T == "int") ∧ kitB "str" T = some (T == "str") ∧ kitB "list" T = some (T == "list") ∧ kitB "tuple" T = some (T == "tuple") ∧ kitB "dict" T = some (T == "dict") := by decide +kernel
theorem isObj_kv {K : PySem.W.Frag} {F : Hp} {kvs : List (Key × V)} {ds : List (PyData × PyData)} (h : AtKv K F kvs ds) : isObj ds = false := by
  cases h with
  | nil => rfl
  | @cons k v r d ds h1 h2 => cases k <;> rfl
theorem kit_at {K : PySem.W.Frag} {H : Hp} {v : V} {d : PyData} (h : Da K H v d) : ∃ t, TyX K H v t ∧ ∀ T ∈ tys, PySem.W.kitOne K t (.type T) = some (isTy d T) := by
  obtain ⟨F, hF, h⟩ := h
  cases h with
  | non => exact ⟨_, .base .non, fun T h => kit_ty (kit_all T h).1⟩
  | bl b => exact ⟨_, .base (.bl b), fun T h => kit_ty (kit_all T h).2.1⟩
  | int i => exact ⟨_, .base (.int i), fun T h => kit_ty (kit_all T h).2.2.1⟩
  | str x => exact ⟨_, .base (.str x), fun T h => kit_ty (kit_all T h).2.2.2.1⟩
  | lst hs _ => exact ⟨_, .base (.lst (hF _ _ hs)), fun T h => kit_ty (kit_all T h).2.2.2.2.1⟩
  | dct hs ha =>
    have e : ∀ T ∈ tys, PySem.W.kitOne K (.type "dict") (.type T) = some (isTy (.dict _) T) := fun T h => by
      rw [isTy, isObj_kv ha, Bool.not_false, Bool.and_true]
      exact kit_ty (kit_all T h).2.2.2.2.2.2
    rcases hs with hs | ⟨o, hs⟩
    · exact ⟨_, .base (.dK (hF _ _ hs)), e⟩
    · exact ⟨_, .fDict (hF _ _ hs), e⟩
  | tup hs _ =>
    exact ⟨_, .base (.tup (hF _ _ hs)), fun T h => kit_ty (kit_all T h).2.2.2.2.2.1⟩
  | obj hs ho _ _ => exact ⟨_, .base (.ins (hF _ _ hs) ho.cls ho.ha ho.hn ho.htk ho.hm), fun T h => by
      rw [isTy, show isObj ((objK, _) :: _) = true from rfl, Bool.not_true, Bool.and_false]
      exact ho.no T h⟩
def oIsi : D2 := fun x y R => match x.pd, y with
  | some d, .raw (.ty T) => T ∈ tys ∧ R (.d (.bool (isTy d T)))
  | _, _ => False
theorem on_isi : OpN X (rIsi X.K) (o2 oIsi) := on_2 fun G F δ σ H v u x y R Q hK g hx hy h k => by
  unfold oIsi at h
  split at h
  · rename_i d T e
    have hd := pd_da hx g.fh e
    rw [hK] at hd
    have hu : u = .ty T := hy
    subst hu
    obtain ⟨t, ht, hk⟩ := kit_at hd
    exact ⟨v, .ty T, _, _, _, rfl, .ty T, ht, hk T h.1, k _ h.2 _ F H (g.pushD (.bl _))⟩
  · exact h.elim
theorem de_isi (hg : Gl X "isinstance") (hm : X.mg "isinstance" = none) (ha : DA X W [a, b] mas u) (he : starEach [a, b] X.env = (false, eval a X.env) :: starEach [b] X.env := by rfl) (hpl : (backTo pos (starEach [b] X.env)).any (·.1) = false := by rfl) :
    DE X W (.Call (.Name "isinstance" p) [a, b] [] pos) (mCB (o2 oIsi) mas) u := de_callB call_isi on_isi hg hm (by decide +kernel) ha (by decide) (by decide) he hpl
def Shows (d : PyData) : Prop := d.hasDict = false ∧ d.showable = true ∧ d.shown.length ≤ sizeLine ∧ d.depth ≤ 30
end
end DL
namespace DL
open PySem PySem.Spec L2
section
variable {u u1 u2 u3 : Nat} {X : Cx} {W : WC} {a b c e : Expr} {es : List Expr} {pos p : Pos} {ma mb me mi : ME} {mas : MA} {k : Nat}
abbrev Mut := List PyData → List PyData → Option (PyData × List PyData)
def MutOk (K : PySem.W.Frag) (r : V → List V → Hp → VK → Prop) (o : Mut) : Prop := ∀ (F : Hp) (l : Addr) (ws : List V) (xs : List PyData) (vs : List V) (ds : List PyData) (H : Hp) (Q : VK) (res : PyData) (xs' : List PyData), Same F H → H l = some (.lst ws) → AtL K F ws xs → AtL K F vs ds → o xs ds = some (res, xs') →
  (∀ u ws', At K F u res → AtL K F ws' xs' → Q u (upd H l (.lst ws'))) → r (.ref l) vs H Q
def uApp : Mut := fun xs ds => match ds with
  | [d] => if xs.length < sizeLine then some (.none, xs ++ [d]) else none
  | _ => none
theorem mut_app {K : PySem.W.Frag} : MutOk K rAppend uApp := by
  intro F l ws xs vs ds H Q res xs' hF hl ha hv e k
  unfold uApp at e
  split at e
  · cases hv with
    | cons h1 h2 =>
      cases h2
      split at e
      · rename_i hz
        cases e
        exact ⟨l, ws, _, rfl, rfl, hl, by rw [ha.length]; exact hz, k _ _ .non (ha.append (.cons h1 .nil))⟩
      · cases e
  · cases e
def uExt : Mut := fun xs ds => match ds with
  | [.list zs] => if xs.length + zs.length ≤ sizeLine then some (.none, xs ++ zs) else none
  | _ => none
theorem mut_ext {K : PySem.W.Frag} : MutOk K rExtend uExt := by
  intro F l ws xs vs ds H Q res xs' hF hl ha hv e k
  unfold uExt at e
  split at e
  · rename_i zs
    cases hv with
    | cons h1 h2 =>
      cases h2
      cases h1 with
      | @lst b ys _ hb hy =>
        split at e
        · rename_i hz
          cases e
          exact ⟨l, b, ws, ys, rfl, rfl, hl, hF _ _ hb, by rw [ha.length, hy.length]; exact hz, k _ _ .non (ha.append hy)⟩
        · cases e
  · cases e
def mutRun (o : Mut) (i : Nat) (δ : Env) (as : List DV) (R : PyData → Env → Prop) : Prop := match δ[i]? with
  | some (some (.own xs)) => match vals as with
    | some ds => match o xs ds with
      | some (res, xs') => R res (δ.set i (some (.own xs')))
      | none => False
    | none => False
  | _ => False
theorem mut_lift {r : V → List V → Hp → VK → Prop} {o : Mut} {G : Gm} (ho : MutOk G.K r o) {F : Hp} {δ τ : Env} {σ ts : L2.St} {H : Hp} {i : Nat} {as : List DV} {vs : List V} {R : PyData → Env → Prop} {Q : VK} {v : V} (nb : NoBor (δ ++ τ)) (l1 : δ.length = σ.length) (hl : as.length = vs.length)
    (g : Good G F (δ ++ τ ++ as.map some) (σ ++ ts ++ vs.map some) H) (hi : σ[i]? = some (some v)) (h : mutRun o i δ as R) (hQ : ∀ res δ', R res δ' → ∀ u F' H', δ'.length = δ.length → NoBor (δ' ++ τ) → Good G F' (δ' ++ τ ++ [some (.d res)]) (σ ++ ts ++ [some u]) H' → Q u H') : r v vs H Q := by
  unfold mutRun at h
  split at h
  · rename_i xs e
    have hiL : i < δ.length := (List.getElem?_eq_some_iff.mp e).1
    split at h
    · rename_i ds ev
      split at h
      · rename_i res xs' eo
        obtain ⟨F2, s2, g2⟩ := fix_all as g ev
        have hd : ds.length = vs.length := (vals_len ev).trans hl
        have hav := atL_of hd g2
        have g3 := g2.cut (by simpa using hd)
        obtain ⟨w, ew, l, ws, rfl, h1, h2, _⟩ := g3.get (i := i) (dv := .own xs) (by rw [List.getElem?_append_left hiL]; exact e)
        rw [List.getElem?_append_left (by omega), hi] at ew
        cases ew
        refine ho F2 l ws xs vs ds H Q res xs' g3.fh h1 h2 hav eo fun u ws' hu hws => ?_
        have g4 := g3.write nb (n := i) (xs := xs) (ys := xs') (l := l) (ws := ws') (by rw [List.getElem?_append_left hiL]; exact e) (by rw [List.getElem?_append_left (by omega)]; exact hi) hws
        rw [List.set_append_left _ _ hiL] at g4
        refine hQ res _ h u F2 _ (by simp) ?_ (g4.pushD hu)
        rw [← List.set_append_left _ _ hiL]
        exact noBor_set nb rfl
      · exact h.elim
    · exact h.elim
  · exact h.elim
theorem own_ref {G : Gm} {F : Hp} {δ A : Env} {σ A' : L2.St} {H : Hp} {i : Nat} {xs : List PyData} (l1 : δ.length = σ.length) (g : Good G F (δ ++ A) (σ ++ A') H) (e : δ[i]? = some (some (.own xs))) : ∃ l ws, σ[i]? = some (some (.ref l)) ∧ H l = some (.lst ws) := by
  have hiL : i < δ.length := (List.getElem?_eq_some_iff.mp e).1
  obtain ⟨w, ew, l, ws, rfl, h1, _⟩ := g.get (i := i) (dv := .own xs) (by rw [List.getElem?_append_left hiL]; exact e)
  rw [List.getElem?_append_left (by omega)] at ew
  exact ⟨l, ws, ew, h1⟩
def isOwnAt (δ : Env) (i : Nat) : Prop := match δ[i]? with
  | some (some (.own _)) => True
  | _ => False
theorem isOwn_some {δ : Env} {i : Nat} (h : isOwnAt δ i) : ∃ xs, δ[i]? = some (some (.own xs)) := by
  unfold isOwnAt at h
  split at h
  · exact ⟨_, by assumption⟩
  · exact h.elim
def mMut (i : Nat) (o : Mut) (t : MA) : MS := fun ex E δ => isOwnAt δ i ∧ t ex δ fun as => mutRun o i δ as fun _ δ' => E.nx δ'
theorem setTop2 {G : Gm} {F : Hp} {δ τ : Env} {σ ts : L2.St} {H : Hp} {j : Nat} {x : DV} {u : V} (l1 : δ.length = σ.length) (hj : j < δ.length) (g : Good G F (δ ++ τ ++ [some x]) (σ ++ ts ++ [some u]) H) : Good G F (δ.set j (some x) ++ τ) (σ.set j (some u) ++ ts) H := by
  have := g.setTop (i := j) (by simp; omega)
  rw [List.set_append_left _ _ hj, List.set_append_left _ _ (by omega)] at this
  exact this
variable {x : Str} {p1 ap cp : Pos} {m id : Str}
theorem tyL {K : PySem.W.Frag} {H : Hp} {l : Addr} {ws : List V} (h : H l = some (.lst ws)) : tyV K "list" (.ref l) H := .inl ⟨rfl, ws, SqL.of h⟩
theorem bm_lift {i : Nat} {o : Mut} {r : V → List V → Hp → VK → Prop} (ho : MutOk X.K r o) {D : Ends} {σ : L2.St} {H : Hp} {ex : XD} {G : Gm} {F : Hp} {δ τ : Env} {ts : L2.St} (n : Now X.K X.mg W u1 ex G F δ σ τ ts [] [] H) (nb : NoBor (δ ++ τ)) {R : PyData → Env → Prop} {Q : VK}
    (h : isOwnAt δ i ∧ mas ex δ fun as => mutRun o i δ as R) (hQ : ∀ res δ', R res δ' → ∀ u F' H', δ'.length = δ.length → NoBor (δ' ++ τ) → Good (G.up u1) F' (δ' ++ τ ++ [some (.d res)]) (σ ++ ts ++ [some u]) H' → Q u H') :
    tBM X.K "list" r (tVar i) (liftA X.K X.mg W u1 mas) σ H Q := by
  obtain ⟨ho1, ha⟩ := h
  obtain ⟨xs, e⟩ := isOwn_some ho1
  obtain ⟨l, ws, el, hw⟩ := own_ref n.l1 n.g0 e
  refine ⟨.ref l, el, tyL hw, ex, G, F, δ, τ, ts, [], [], _, n, ha, fun as has vs F1 H1 hl g1 => ?_⟩
  exact mut_lift (by have e : (G.up u1).K = X.K := n.k; rw [e]; exact ho) nb n.l1 hl (by simpa using g1) el has hQ
theorem drop_end {D : Ends} {σ : L2.St} {G : Gm} {δ τ : Env} {ts : L2.St} {E : DEnds} {u1 : Nat} (l1 : δ.length = σ.length) (eo : EndsOk G u1 τ ts E D) : ∀ (res : PyData) δ', E.nx δ' → ∀ u F' H', δ'.length = δ.length → NoBor (δ' ++ τ) → Good (G.up u1) F' (δ' ++ τ ++ [some (.d res)]) (σ ++ ts ++ [some u]) H' → D.nx σ H' :=
  fun res δ' h u F' H' hl nb g => eo.nx δ' h u1 σ F' H' (Nat.le_refl _) (hl.trans l1) nb g.pop
theorem ds_mut {i : Nat} {o : Mut} {r : V → List V → Hp → VK → Prop} {name : Str} {id : String} (slot : Slot "list" name id) (hty : typeOf (.builtin id) = pure (.type "method_descriptor")) (hm : MtR X id r) (ho : MutOk X.K r o) (hv : PE X (.Name x p1) (tVar i)) (ha : DA X W (e :: es) mas u1)
    (hbase : attributeBase (.Name x p1) name X.env (eval (.Name x p1) X.env) = eval (.Name x p1) X.env := by rfl)
    (hfew : ((backTo cp (starEach (e :: es) X.env)).all (fun x => !x.1) && (backToKw cp (keywordEach [] X.env)).all (fun x => x.1.isSome)
      && decide ((e :: es).length + ([] : List Keyword).length + (if ([] : List Keyword).isEmpty then 0 else 1) < 30)) = true := by rfl)
    (hline : (ap.endLine == cp.line) = true := by rfl) (hs : starEach (e :: es) X.env = (false, eval e X.env) :: starEach es X.env := by rfl) (hplain : (backTo cp (starEach es X.env)).any (·.1) = false := by rfl) (hsw : swapsWith (.Call (.Attribute (.Name x p1) name ap) (e :: es) [] cp) none pos.line X.env = pure false := by rfl) :
    DS X W (.Expr (.Call (.Attribute (.Name x p1) name ap) (e :: es) [] cp) pos) (mMut i o mas) u1 :=
  ⟨PS.imp (ps_expr (pe_bm PySem.F.plainAttrs_list slot hty hm hv ha.pa hbase hfew hline hs hplain) hsw) fun D σ H q => by
    obtain ⟨ex, G, F, δ, τ, ts, E, n, nb, eo, h⟩ := q
    exact bm_lift (D := D) (Q := fun _ H1 => D.nx σ H1) ho n nb h (drop_end n.l1 eo)⟩
def mSto (i : Nat) (mi me : ME) : MS := fun ex E δ => isOwnAt δ i ∧ me ex δ fun y => mi ex δ fun z => match δ[i]?, y.val, z with
  | some (some (.own xs)), some d, .d (.int k) => match ixN xs.length k with
    | some j => E.nx (δ.set i (some (.own (xs.set j d))))
    | none => False
  | _, _, _ => False
theorem ds_sto {i : Nat} {idx : Expr} {p2 : Pos} (hv : PE X (.Name x p1) (tVar i)) (hi : DE X W idx mi u2) (he : DE X W e me u1)
    (hset : ∀ v, assign (.Subscript (.Name x p1) idx p2) X.env v = (do
      let ov ← holding [v] (eval (.Name x p1) X.env)
      let iv ← holding [v, ov] (eval idx X.env)
      standAt p2
      holding [v, ov, iv] (setItem ov iv v)
      release [v, ov, iv] []) := by intro _; rfl)
    (hs : swapsWithSole [.Subscript (.Name x p1) idx p2] e pos.line X.env = pure false := by rfl) (hw : swappedStores [.Subscript (.Name x p1) idx p2] e X.env = pure none := by rfl)
    (h1 : (assignEach [.Subscript (.Name x p1) idx p2] X.env).map (·.2) = [assign (.Subscript (.Name x p1) idx p2) X.env] := by rfl) :
    DS X W (.Assign [.Subscript (.Name x p1) idx p2] e pos) (mSto i mi me) (u1 + u2) :=
  ⟨PS.imp (ps_asg he.pe (pg_sub hv hi.pe set_list hset) hs hw h1) fun D σ H q => by
    obtain ⟨ex, G, F, δ, τ, ts, E, n, nb, eo, ho1, h⟩ := q
    obtain ⟨xs, eX⟩ := isOwn_some ho1
    refine ⟨ex, G, F, δ, τ, ts, [], [], _, n.fst, h, fun y hy v F1 H1 g1 => ?_⟩
    obtain ⟨l, ws0, el, _⟩ := own_ref n.l1 n.g0 eX
    refine ⟨.ref l, el, ?_⟩
    refine ⟨ex, G.up u1, F1, δ, τ, ts, _, _, _, n.after (rs := [some y]) (vs := [some v]) g1, hy, fun z hz iv F2 H2 g2 => ?_⟩
    rw [up_up] at g2
    have g : Good (G.up (u1 + u2)) F2 (δ ++ τ ++ [some y] ++ [some z]) (σ ++ ts ++ [some v] ++ [some iv]) H2 := by simpa only [List.append_assoc, List.nil_append] using g2
    rw [eX] at hz
    match hyv : y.val, z, hz, g with
    | some d, .d (.int kk), hz, g =>
      cases int_of g.top
      obtain ⟨F3, s3, g3⟩ := fix_one (A := δ ++ τ) (A2 := []) (x := y) (ρ := σ ++ ts ++ [some v]) (by simpa using g.pop) hyv
      have g3' : Good (G.up (u1 + u2)) F3 (δ ++ τ ++ [some (.d d)]) (σ ++ ts ++ [some v]) H2 := g3
      have hd : At G.K F3 v d := g3'.top
      have g4 := g3'.pop
      have hiL : i < δ.length := (List.getElem?_eq_some_iff.mp eX).1
      obtain ⟨w, ew, l', ws, rfl, q1, q2, _⟩ := g4.get (i := i) (dv := .own xs) (by rw [List.getElem?_append_left hiL]; exact eX)
      rw [List.getElem?_append_left (by have := n.l1; omega), el] at ew
      cases ew
      have hz' : (match ixN xs.length kk with | some j => E.nx (δ.set i (some (.own (xs.set j d)))) | none => False) := hz
      split at hz'
      · rename_i j ej
        refine ⟨l, ws, kk, j, rfl, rfl, q1, by rw [q2.length]; exact ej, ?_⟩
        have g5 := g4.write nb (n := i) (xs := xs) (ys := xs.set j d) (l := l) (ws := ws.set j v) (by rw [List.getElem?_append_left hiL]; exact eX) (by rw [List.getElem?_append_left (by have := n.l1; omega)]; exact el) (AtL.set hd j q2)
        rw [List.set_append_left _ _ hiL] at g5
        refine eo.nx _ hz' _ σ F3 _ (Nat.le_refl _) (by simpa using n.l1) ?_ g5
        rw [← List.set_append_left _ _ hiL]
        exact noBor_set nb rfl
      · exact hz'.elim⟩
def mPar2 (i j : Nat) (t : MA) : MS := fun ex E δ => t ex δ fun xs => match xs with
  | [x, y] => x.isBor = false ∧ y.isBor = false ∧ i < δ.length ∧ j < δ.length ∧ E.nx ((δ.set i (some x)).set j (some y))
  | _ => False
theorem ds_par2 {i j : Nat} {y : Str} {px py pt pt2 : Pos} {kt k2 : _} (hc : X.calm = true) (hN : X.N.Nodup) (hi : X.N[i]? = some x) (hj : X.N[j]? = some y) (hij : i ≠ j)
    (hx : X.env.scope.names.lookup x = some .local) (hy : X.env.scope.names.lookup y = some .local) (ha : DA X W [a, b] mas u1)
    (hw : swappedStores [.Tuple [.Name x px, .Name y py] kt pt] (.Tuple [a, b] k2 pt2) X.env = pure (some [x, y]))
    (hs : swapsWithSole [.Tuple [.Name x px, .Name y py] kt pt] (.Tuple [a, b] k2 pt2) pos.line X.env = pure false := by rfl) :
    DS X W (.Assign [.Tuple [.Name x px, .Name y py] kt pt] (.Tuple [a, b] k2 pt2) pos) (mPar2 i j mas) u1 :=
  ⟨PS.imp (ps_par hc hN hi hj hij hx hy ha.pa hw hs) fun D σ H q => by
    obtain ⟨ex, G, F, δ, τ, ts, E, n, nb, eo, h⟩ := q
    refine ⟨ex, G, F, δ, τ, ts, [], [], _, n, h, fun xs hxs vs F1 H1 hl g1 => ?_⟩
    match xs, hxs, hl, g1 with
    | [x, y], hxs, hl, g1 =>
      obtain ⟨h1, h2, h3, h4, h5⟩ := hxs
      match vs, hl, g1 with
      | [v, u], hl, g1 =>
        refine ⟨v, u, rfl, ?_⟩
        have l1 := n.l1
        have g : Good (G.up u1) F1 (δ ++ (τ ++ [some x]) ++ [some y]) (σ ++ (ts ++ [some v]) ++ [some u]) H1 := by simpa using g1
        have g2 : Good (G.up u1) F1 (δ.set j (some y) ++ τ ++ [some x]) (σ.set j (some u) ++ ts ++ [some v]) H1 := by
          have := setTop2 l1 h4 g
          simpa only [List.append_assoc] using this
        have g3 := setTop2 (by simpa using l1) (j := i) (by simpa using h3) g2
        rw [List.set_comm _ _ (Ne.symm hij), List.set_comm _ _ (Ne.symm hij)] at g3
        refine eo.nx _ h5 _ _ F1 H1 (Nat.le_refl _) (by simpa using l1) ?_ g3
        exact nb_mk (noBor_set (noBor_set (nb_left nb) h1) h2) (nb_right nb)⟩
def mPar3 (i j l : Nat) (t : MA) : MS := fun ex E δ => t ex δ fun xs => match xs with
  | [x, y, z] => x.isBor = false ∧ y.isBor = false ∧ z.isBor = false ∧ i < δ.length ∧ j < δ.length ∧ l < δ.length ∧ E.nx (((δ.set i (some x)).set j (some y)).set l (some z))
  | _ => False
theorem ds_par3 {i j l : Nat} {y z : Str} {px py pz pt pt2 : Pos} {kt k2 : _} (hc : X.calm = true) (hN : X.N.Nodup) (hi : X.N[i]? = some x) (hj : X.N[j]? = some y) (hl : X.N[l]? = some z) (hij : i ≠ j) (hil : i ≠ l) (hjl : j ≠ l)
    (hx : X.env.scope.names.lookup x = some .local) (hy : X.env.scope.names.lookup y = some .local) (hz : X.env.scope.names.lookup z = some .local) (ha : DA X W [a, b, c] mas u1)
    (hw : swappedStores [.Tuple [.Name x px, .Name y py, .Name z pz] kt pt] (.Tuple [a, b, c] k2 pt2) X.env = pure (some [x, y, z]))
    (hs : swapsWithSole [.Tuple [.Name x px, .Name y py, .Name z pz] kt pt] (.Tuple [a, b, c] k2 pt2) pos.line X.env = pure false := by rfl) :
    DS X W (.Assign [.Tuple [.Name x px, .Name y py, .Name z pz] kt pt] (.Tuple [a, b, c] k2 pt2) pos) (mPar3 i j l mas) u1 :=
  ⟨PS.imp (ps_par3 hc hN hi hj hl hij hil hjl hx hy hz ha.pa hw hs) fun D σ H q => by
    obtain ⟨ex, G, F, δ, τ, ts, E, n, nb, eo, h⟩ := q
    refine ⟨ex, G, F, δ, τ, ts, [], [], _, n, h, fun xs hxs vs F1 H1 hln g1 => ?_⟩
    match xs, hxs, hln, g1 with
    | [x, y, z], hxs, hln, g1 =>
      obtain ⟨h1, h2, h3, h4, h5, h6, h7⟩ := hxs
      match vs, hln, g1 with
      | [v, u, w], hln, g1 =>
        refine ⟨v, u, w, rfl, ?_⟩
        have l1 := n.l1
        have g : Good (G.up u1) F1 (δ ++ (τ ++ [some x] ++ [some y]) ++ [some z]) (σ ++ (ts ++ [some v] ++ [some u]) ++ [some w]) H1 := by simpa using g1
        have g2 : Good (G.up u1) F1 (δ.set l (some z) ++ (τ ++ [some x]) ++ [some y]) (σ.set l (some w) ++ (ts ++ [some v]) ++ [some u]) H1 := by
          have := setTop2 l1 h6 g
          simpa only [List.append_assoc] using this
        have g3 : Good (G.up u1) F1 ((δ.set l (some z)).set j (some y) ++ τ ++ [some x]) ((σ.set l (some w)).set j (some u) ++ ts ++ [some v]) H1 := by
          have := setTop2 (by simpa using l1) (j := j) (by simpa using h5) g2
          simpa only [List.append_assoc] using this
        have g4 := setTop2 (by simpa using l1) (j := i) (by simpa using h4) g3
        have perm : ∀ {α : Type} (s : List α) (p q r : α), ((s.set l r).set j q).set i p = ((s.set i p).set j q).set l r := fun s p q r => by
          rw [List.set_comm _ _ (Ne.symm hij), List.set_comm r p (Ne.symm hil), List.set_comm _ _ (Ne.symm hjl)]
        rw [perm, perm] at g4
        refine eo.nx _ h7 _ _ F1 H1 (Nat.le_refl _) (by simpa using l1) ?_ g4
        exact nb_mk (noBor_set (noBor_set (noBor_set (nb_left nb) h1) h2) h3) (nb_right nb)⟩
def mAug (i : Nat) (f : Int → Int → Int) (me : ME) : MS := fun ex E δ => match δ[i]? with
  | some (some (.d (.int v))) => me ex δ fun y => match y with
    | .d (.int u) => E.nx (δ.set i (some (.d (.int (f v u)))))
    | _ => False
  | _ => False
theorem ds_aug {i : Nat} {op : Operator} {f : Int → Int → Int} (hN : X.N.Nodup) (hi : X.N[i]? = some x) (hx : Loc X.env.scope x) (he : DE X W e me u1) (ho : PIp X op (ipI f)) (hf : X.fn x = true ∨ X.env.scope.names.lookup x = some .local := by first | exact .inl rfl | exact .inr rfl | assumption) :
    DS X W (.AugAssign (.Name x p1) op e pos) (mAug i f me) u1 :=
  ⟨PS.imp (ps_aug hN hi hx he.pe ho hf) fun D σ H q => by
    obtain ⟨ex, G, F, δ, τ, ts, E, n, nb, eo, h⟩ := q
    unfold mAug at h
    split at h
    · rename_i v e
      have hiL : i < δ.length := (List.getElem?_eq_some_iff.mp e).1
      obtain ⟨w, ew, hw⟩ := n.g0.get (i := i) (dv := .d (.int v)) (by rw [List.getElem?_append_left hiL]; exact e)
      rw [List.getElem?_append_left (by have := n.l1; omega)] at ew
      cases int_of hw
      refine ⟨.int v, ew, ex, G, F, δ, τ, ts, [], [], _, n, h, fun y hy u F1 H1 g1 => ?_⟩
      match y, hy, g1 with
      | .d (.int j), hy, g1 =>
        cases int_of g1.top
        have g2 : Good (G.up u1) F1 (δ ++ τ) (σ ++ ts) H1 := by
          have := g1.pop
          simpa using this
        refine ⟨v, j, rfl, rfl, eo.nx _ hy _ _ F1 H1 (Nat.le_refl _) (by simpa using n.l1) ?_ (setTop2 n.l1 hiL (g2.pushD (.int _)))⟩
        rw [← List.set_append_left _ _ hiL]
        exact noBor_set nb rfl
    · exact h.elim⟩
end
end DL
namespace DL
open PySem PySem.Spec L2
section
variable {u u1 u2 u3 : Nat} {X : Cx} {W : WC} {a b c e : Expr} {es : List Expr} {pos p : Pos} {ma mb mc me : ME} {mas : MA} {k : Nat}
theorem Ctx.blk (cx : Ctx X W k) {s : Shared} {H : Hp} {scope : Scope} {ce : PySem.Env} {fp : List Addr} : Ctx (X.blk s H scope ce fp) (W0 W) k := ⟨cx.gd, cx.hr, takes0⟩
theorem CtxU.blk (cx : CtxU X) {s : Shared} {H : Hp} {scope : Scope} {ce : PySem.Env} {fp : List Addr} : CtxU (X.blk s H scope ce fp) := ⟨cx.gd, cx.un⟩
theorem Ctx.passes {Y : Cx} {K : Value → Shared → Prop} {E₁ : Value → Shared → Prop} (hx : Y.xe = fun e s' => wpAny (model Y.prog Y.w) Y.A (leaving Y.env e) (fun _ s'' => K e s'') E₁ s') : PassesOwn (model Y.prog Y.w) Y.A Y.env Y.xe := passes_of hx
theorem dt_eq (cx : CtxU X) (ha : DE X W a ma u1) (hb : DE X W b mb u2) : DT X W (.Compare a [.Eq] [b] pos) (mB (mBin (oEq false) ma mb)) (u1 + u2) := dt_cmp (op_eqB cx.u64) o2_eq ha hb (nomark _)
theorem dt_ne (cx : CtxU X) (ha : DE X W a ma u1) (hb : DE X W b mb u2) : DT X W (.Compare a [.NotEq] [b] pos) (mB (mBin (oEq true) ma mb)) (u1 + u2) := dt_cmp (op_neB cx.u64) o2_eq ha hb (nomark _)
theorem dt_lt (ha : DE X W a ma u1) (hb : DE X W b mb u2) : DT X W (.Compare a [.Lt] [b] pos) (mB (mBin oLt ma mb)) (u1 + u2) := dt_cmp op_lt o2_C ha hb (nomark _)
theorem dt_le (ha : DE X W a ma u1) (hb : DE X W b mb u2) : DT X W (.Compare a [.LtE] [b] pos) (mB (mBin oLe ma mb)) (u1 + u2) := dt_cmp op_le o2_C ha hb (nomark _)
theorem dt_gt (ha : DE X W a ma u1) (hb : DE X W b mb u2) : DT X W (.Compare a [.Gt] [b] pos) (mB (mBin oGt ma mb)) (u1 + u2) := dt_cmp op_gt o2_C ha hb (nomark _)
theorem dt_ge (ha : DE X W a ma u1) (hb : DE X W b mb u2) : DT X W (.Compare a [.GtE] [b] pos) (mB (mBin oGe ma mb)) (u1 + u2) := dt_cmp op_ge o2_C ha hb (nomark _)
theorem de_ch {op op' : CmpOp} {f g : Int → Int → Bool} (h : OpR X (compareOp op) (rI0 fun i j => .bl (f i j))) (h' : OpR X (compareOp op') (rI0 fun i j => .bl (g i j))) (ha : DE X W a ma u1) (hb : DE X W b mb u2) (hc : DE X W c mc u3)
    (hm : lastMarks [op, op'] [b, c] = false := by with_unfolding_all rfl) : DE X W (.Compare a [op, op'] [b, c] pos) (mChain (oC f) (oC g) ma mb mc) (u1 + (u2 + u3)) :=
  ⟨PE.imp (pe_chain h h' ha.pe hb.pe hc.pe hm) fun σ H Q q => chain_lift o2_C o2_C oC_bool σ H Q q⟩
theorem dt_ch {op op' : CmpOp} {f g : Int → Int → Bool} (h : OpR X (compareOp op) (rI0 fun i j => .bl (f i j))) (h' : OpR X (compareOp op') (rI0 fun i j => .bl (g i j))) (ha : DE X W a ma u1) (hb : DE X W b mb u2) (hc : DE X W c mc u3)
    (hm : lastMarks [op, op'] [b, c] = false := by with_unfolding_all rfl) : DT X W (.Compare a [op, op'] [b, c] pos) (mB (mChain (oC f) (oC g) ma mb mc)) (u1 + (u2 + u3)) :=
  ⟨PT.imp (pt_chain h h' ha.pe hb.pe hc.pe hm) fun σ H Q q => by
    have q' := liftT_of σ H Q q
    exact chain_lift o2_C o2_C oC_bool σ H _ q'⟩
def tCallG (sp : Sp) (W : WX) (t : TA) : TE := fun σ H Q => t σ H fun vs H1 => sp vs H1 Q (WE W σ)
theorem pe_callG {sp : Sp} {t : TA} {f : Addr} {fd : FuncData} {ps : List Str} {j : Nat} {x : Str} {w : WX} (gd : X.A.guards = some []) (hr : Room j X.A) (tk : Takes X w) (F : FnG X.prog X.w X.K X.mg X.base k f fd ps sp) (hk : k ≤ j) (hm : X.mg x = some (.ref f)) (hkp : PySem.W.keepIn X.K (.ref f) = true) (hb : Binds X.K fd ps []) (hg : Gl X x) (ha : PA X (e :: es) t) (hdb : (x == ("__debug__" : Str)) = false := by decide)
    (he : starEach (e :: es) X.env = (false, eval e X.env) :: starEach es X.env := by rfl) (hpl : (backTo pos (starEach es X.env)).any (·.1) = false := by rfl) : PE X (.Call (.Name x p) (e :: es) [] pos) (tCallG sp w t) := by
  refine ⟨fun pins s σ H Q I h => ?_⟩
  refine wpAny_Call_Name_kw (ld_glob I hg hm ?_ hdb)
  exact PySem.W.callWith_K (h₀ := X.base) I.ok.mod.kin hkp (thn (ha.run pos pins s σ H _ I h) fun us s1 ⟨vs, H1, I1, r, q⟩ => ⟨I1.kIn, call_run (W := ⟨w, fun _ _ _ _ => True⟩) F gd (hr.mono hk) hb tk I1 r q⟩) he hpl
end
end DL
namespace DL
open PySem PySem.Spec L2
section
variable {u u1 u2 u3 : Nat} {X : Cx} {W : WC} {a b c e : Expr} {pos p : Pos} {mas : MA}
def downD (hi : Int) (n : Nat) : List PyData := (List.range n).map fun i => .int (hi - (i : Nat))
theorem downD_len {lo : Int} {n : Nat} : (downD lo n).length = n := by unfold downD; simp
theorem downD_get {lo : Int} {n i : Nat} : (downD lo n)[i]? = if i < n then some (.int (lo - (i : Nat))) else none := by
  unfold downD
  rw [List.getElem?_map]
  by_cases h : i < n
  · rw [List.getElem?_range h, if_pos h]; rfl
  · rw [List.getElem?_eq_none (by simpa using h), if_neg h]; rfl
theorem itc_ok (G : Gm) (lo : Int) (n : Nat) : ItOk G ⟨[], downD lo n⟩ [] (Itc lo (-1) n) := fun b i F A B A' B' H hA hB g => by
  refine ⟨fun h => by rw [downD_len] at h; exact h, fun d hd => ?_⟩
  rw [downD_get] at hd
  split at hd
  · rename_i hi
    cases hd
    refine ⟨hi, fun y H3 hy => ?_⟩
    obtain ⟨rfl, rfl⟩ := hy
    have e : lo + (i : Nat) * (-1 : Int) = lo - (i : Nat) := by omega
    rw [e]
    exact ⟨F, g.pushD (.int _)⟩
  · cases hd
def mR3 (t : MA) : MI := fun ex δ R => t ex δ fun xs => match xs with
  | [.d (.int i), .d (.int j), .d (.int c)] => c = -1 ∧ (-(2 ^ 62) ≤ i ∧ i < 2 ^ 62 ∧ -(2 ^ 62) ≤ j ∧ j < 2 ^ 62) ∧ R ⟨[], downD i (i - j).toNat⟩
  | _ => False
theorem di_range3 {tg : Expr} {p : Pos} (hg : Gl X "range") (hm : X.mg "range" = none) (ha : DA X W [a, b, c] mas u) (hs : starEach [a, b, c] X.env = (false, eval a X.env) :: starEach [b, c] X.env := by rfl)
    (hpl : (backTo pos (starEach [b, c] X.env)).any (·.1) = false := by rfl) :
    DI X W tg (.Call (.Name "range" p) [a, b, c] [] pos) (mR3 mas) u :=
  ⟨PI.imp (pi_range3 hg hm ha.pa hs hpl) fun σ H Q q => by
    obtain ⟨ex, G, F, δ, τ, ts, τ1, ts1, R, n, m, k⟩ := q
    refine ⟨ex, G, F, δ, τ, ts, τ1, ts1, _, n, m, fun xs hxs vs F1 H1 hl g1 => ?_⟩
    match xs, hxs, hl, g1 with
    | [.d (.int i), .d (.int j), .d (.int c)], hxs, hl, g1 =>
      obtain ⟨rfl, ⟨h1, h2, h3, h4⟩, hR⟩ := hxs
      obtain ⟨v, u, w, rfl, hv, hu, hw, g⟩ := three_of hl g1
      cases int_of hv
      cases int_of hu
      cases int_of hw
      exact ⟨i, j, -1, _, rfl, RgC.neg h1 h2 h3 h4, k _ hR [] F1 H1 _ rfl (by simpa using g) (itc_ok _ i _)⟩⟩
end
theorem Good.alloc {G : Gm} {F H : Hp} {δ : Env} {σ : L2.St} (g : Good G F δ σ H) {p : Addr} {o : HO} (hp : H p = none) : Good G F δ σ (upd H p o) := by
  have cp : ¬ G.C p := fun c => g.g.jn _ H g.jh p c hp
  have fp : F p = none := g.fresh hp
  refine ⟨g.g, g.len, g.f0, fun b u e => ?_, g.fr, fun b u c e => ?_, g.cf, g.g.js _ _ _ g.jh (fun b c => upd_ne (fun z => cp (z ▸ c))) (fun b x e => by rw [upd_ne (ne_of_none e hp)]; exact e), fun i z e => ?_, g.di⟩
  · rw [upd_ne (ne_of_none e fp)]
    exact g.fh _ _ e
  · have hb := g.bh _ _ c e
    rw [upd_ne (ne_of_none hb hp)]
    exact hb
  · obtain ⟨w, e', h⟩ := g.sl i z e
    exact ⟨w, e', h.keep (Same.refl F) (fun l vs _ _ hl => by rw [upd_ne (ne_of_none hl hp)]; exact hl) fun _ _ _ hl => hl⟩
theorem Good.base {G : Gm} {F H : Hp} {δ : Env} {σ : L2.St} (g : Good G F δ σ H) (hn : ∀ (i : Nat) (x : DV), δ[i]? = some (some x) → x.arg = true) : Good (G.into F H) F δ σ H := by
  refine ⟨⟨g.g.js, g.g.jm, g.g.jn, fun p c => g.g.jn _ H g.jh p c, g.g.jt⟩, g.len, Same.refl F, g.fh, fun p q1 q2 => absurd q2 q1, fun p o _ q => q, g.cf, g.jh, fun i x e => ?_, fun i j a b l hx _ e1 _ _ _ => ?_⟩
  · obtain ⟨v, e1, e2⟩ := g.sl i x e
    have hm := hn i x e
    refine ⟨v, e1, ?_⟩
    cases x with
    | d _ => exact e2
    | cask => exact e2
    | raw _ => exact e2
    | scr _ => exact e2
    | fvs _ _ => exact e2
    | _ => cases hm
  · have hm := hn i a e1
    cases a with
    | own _ => cases hm
    | odk _ => cases hm
    | olk _ _ => cases hm
    | odt _ _ => cases hm
    | ins _ _ _ => cases hm
    | _ => cases hx
theorem Good.draw {G : Gm} {F H H' : Hp} {δ : Env} {σ : L2.St} {k : Nat} (g : Good G F δ σ H) (hk : ∀ p, ¬ G.C p → ∀ o, H p = some o → H' p = some o) (hj : G.J (G.n + k) H') : Good (G.up k) F [] [] H' := by
  refine ⟨g.g.up k, rfl, g.f0, fun b u e => ?_, g.fr, fun b u c e => hk b c _ (g.bh _ _ c e), g.cf, hj, fun i z e => by simp at e, fun i j x y l _ _ e => by simp at e⟩
  have nc : ¬ G.C b := fun c => by rw [g.cf b c] at e; cases e
  exact hk b nc _ (g.fh _ _ e)
theorem good_script {K : PySem.W.Frag} {H : Hp} {a : Addr} {ns : List Int} (h : SqL K H a (ns.map V.int)) (k lim : Nat) :
    Good ⟨K, fun p => if p = a then H p else none, H, fun _ => False, .non, fun _ _ => True, 0, lim⟩ (fun p => if p = a then H p else none) (some (.scr ns) :: List.replicate k none) (some (.ref a) :: List.replicate k none) H := by
  refine ⟨⟨fun _ _ _ _ _ _ => trivial, fun _ _ _ _ _ => trivial, fun _ _ _ _ z => z.elim, fun _ z => z.elim, fun _ _ _ _ z => z.elim⟩, by simp, Same.refl _, fun b u e => ?_, fun p q1 q2 => absurd q2 q1, fun _ _ _ q => q, fun _ z => z.elim, trivial, fun i x e => ?_, fun i j x y l hx _ e1 _ _ _ => ?_⟩
  · have e' : (if b = a then H b else none) = some u := e
    split at e'
    · exact e'
    · cases e'
  · cases i with
    | zero =>
      cases e
      refine ⟨.ref a, rfl, a, rfl, ?_⟩
      have h' : SqL K (fun p => if p = a then H p else none) a (ns.map V.int) := by
        have e0 : (fun p => if p = a then H p else none) a = H a := if_pos rfl
        unfold SqL Rd at h ⊢
        rw [e0]
        exact h
      exact h'
    | succ i =>
      rw [List.getElem?_cons_succ, List.getElem?_replicate] at e
      split at e <;> cases e
  · cases i with
    | zero => cases e1; cases hx
    | succ i =>
      rw [List.getElem?_cons_succ, List.getElem?_replicate] at e1
      split at e1 <;> cases e1
theorem good_cask {G : Gm} {H : Hp} {i : Nat} {σ : L2.St} (hG : G.Ok) (h0 : G.F0 = fun _ => none) (hB : G.B = H) (hj : G.J G.n H) (hi : σ[i]? = some (some G.cv)) : Good G (fun _ => none) ((List.replicate σ.length none).set i (some .cask)) σ H := by
  have s0 : Same G.F0 (fun _ => none) := by rw [h0]; exact Same.refl _
  refine ⟨hG, by simp, s0, fun b u e => (nomatch e), fun p q => absurd rfl q, fun p o _ q => by rw [← hB]; exact q, fun _ _ => rfl, hj, fun j x e => ?_, fun a b x y l hx _ e1 _ _ _ => ?_⟩
  · rcases get_set e with ⟨q1, q2, _⟩ | ⟨_, q⟩
    · cases q2
      subst q1
      exact ⟨G.cv, hi, rfl⟩
    · rw [List.getElem?_replicate] at q
      split at q <;> cases q
  · rcases get_set e1 with ⟨_, q2, _⟩ | ⟨_, q⟩
    · cases q2; cases hx
    · rw [List.getElem?_replicate] at q
      split at q <;> cases q
section
variable {u1 : Nat} {X : Cx} {W : WC} {a b c : Expr} {pos : Pos} {mas : MA} {x y z : Str}
theorem ds_tup2 {i j : Nat} {px py pt pt2 : Pos} {kt k2 : _} (hc : X.calm = true) (hN : X.N.Nodup) (hi : X.N[i]? = some x) (hj : X.N[j]? = some y) (hij : i ≠ j) (hx : Loc X.env.scope x) (hy : Loc X.env.scope y) (ha : DA X W [a, b] mas u1)
    (hfx : X.fn x = true ∨ X.env.scope.names.lookup x = some .local := by first | exact .inl rfl | exact .inr rfl) (hfy : X.fn y = true ∨ X.env.scope.names.lookup y = some .local := by first | exact .inl rfl | exact .inr rfl)
    (hn : (assignEach [.Name x px, .Name y py] X.env).length = 2 := by rfl) (hst : (assignEach [.Name x px, .Name y py] X.env).findIdx? (·.1) = none := by rfl)
    (h1 : (assignEach [.Name x px, .Name y py] X.env).map (·.2) = assign (.Name x px) X.env :: (assignEach [.Name y py] X.env).map (·.2) := by rfl) (h2 : (assignEach [.Name y py] X.env).map (·.2) = assign (.Name y py) X.env :: (assignEach [] X.env).map (·.2) := by rfl)
    (hs : swapsWithSole [.Tuple [.Name x px, .Name y py] kt pt] (.Tuple [a, b] k2 pt2) pos.line X.env = pure false := by rfl) (hw : swappedStores [.Tuple [.Name x px, .Name y py] kt pt] (.Tuple [a, b] k2 pt2) X.env = pure none := by rfl)
    (h0 : (assignEach [.Tuple [.Name x px, .Name y py] kt pt] X.env).map (·.2) = [assign (.Tuple [.Name x px, .Name y py] kt pt) X.env] := by rfl) :
    DS X W (.Assign [.Tuple [.Name x px, .Name y py] kt pt] (.Tuple [a, b] k2 pt2) pos) (mPar2 i j mas) u1 :=
  ⟨PS.imp (ps_asg (pe_tup ha.pa) (pg_tup hc (pgs_cons (pg_name hN hi hx hfx) (pgs_cons (pg_name hN hj hy hfy) pgs_nil h2) h1) hn hst) hs hw h0) fun D σ H q => by
    obtain ⟨ex, G, F, δ, τ, ts, E, n, nb, eo, h⟩ := q
    refine ⟨ex, G, F, δ, τ, ts, [], [], _, n, h, fun xs hxs vs F1 H1 hl g1 => ?_⟩
    match xs, hxs, hl, g1 with
    | [x, y], hxs, hl, g1 =>
      obtain ⟨q1, q2, q3, q4, q5⟩ := hxs
      match vs, hl, g1 with
      | [v, u], hl, g1 =>
        refine ⟨by show 2 ≤ sizeLine; decide, fun p hp => ⟨p, [v, u], rfl, SqT.of upd_same, rfl, v, [u], rfl, u, [], rfl, rfl, ?_⟩⟩
        have l1 := n.l1
        have g : Good (G.up u1) F1 (δ ++ (τ ++ [some x]) ++ [some y]) (σ ++ (ts ++ [some v]) ++ [some u]) (upd H1 p (.tup [v, u])) := by
          have := g1.alloc (o := .tup [v, u]) hp
          simpa using this
        have g2 : Good (G.up u1) F1 (δ.set j (some y) ++ τ ++ [some x]) (σ.set j (some u) ++ ts ++ [some v]) (upd H1 p (.tup [v, u])) := by
          have := setTop2 l1 q4 g
          simpa only [List.append_assoc] using this
        have g3 := setTop2 (by simpa using l1) (j := i) (by simpa using q3) g2
        rw [List.set_comm _ _ (Ne.symm hij), List.set_comm _ _ (Ne.symm hij)] at g3
        refine eo.nx _ q5 _ _ F1 _ (Nat.le_refl _) (by simpa using l1) ?_ g3
        exact nb_mk (noBor_set (noBor_set (nb_left nb) q1) q2) (nb_right nb)⟩
theorem ds_tup3 {i j l : Nat} {px py pz pt pt2 : Pos} {kt k2 : _} (hc : X.calm = true) (hN : X.N.Nodup) (hi : X.N[i]? = some x) (hj : X.N[j]? = some y) (hl : X.N[l]? = some z) (hij : i ≠ j) (hil : i ≠ l) (hjl : j ≠ l) (hx : Loc X.env.scope x) (hy : Loc X.env.scope y) (hz : Loc X.env.scope z) (ha : DA X W [a, b, c] mas u1)
    (hfx : X.fn x = true ∨ X.env.scope.names.lookup x = some .local := by first | exact .inl rfl | exact .inr rfl) (hfy : X.fn y = true ∨ X.env.scope.names.lookup y = some .local := by first | exact .inl rfl | exact .inr rfl) (hfz : X.fn z = true ∨ X.env.scope.names.lookup z = some .local := by first | exact .inl rfl | exact .inr rfl)
    (hn : (assignEach [.Name x px, .Name y py, .Name z pz] X.env).length = 3 := by rfl) (hst : (assignEach [.Name x px, .Name y py, .Name z pz] X.env).findIdx? (·.1) = none := by rfl)
    (h1 : (assignEach [.Name x px, .Name y py, .Name z pz] X.env).map (·.2) = assign (.Name x px) X.env :: (assignEach [.Name y py, .Name z pz] X.env).map (·.2) := by rfl) (h2 : (assignEach [.Name y py, .Name z pz] X.env).map (·.2) = assign (.Name y py) X.env :: (assignEach [.Name z pz] X.env).map (·.2) := by rfl)
    (h3 : (assignEach [.Name z pz] X.env).map (·.2) = assign (.Name z pz) X.env :: (assignEach [] X.env).map (·.2) := by rfl)
    (hs : swapsWithSole [.Tuple [.Name x px, .Name y py, .Name z pz] kt pt] (.Tuple [a, b, c] k2 pt2) pos.line X.env = pure false := by rfl) (hw : swappedStores [.Tuple [.Name x px, .Name y py, .Name z pz] kt pt] (.Tuple [a, b, c] k2 pt2) X.env = pure none := by rfl)
    (h0 : (assignEach [.Tuple [.Name x px, .Name y py, .Name z pz] kt pt] X.env).map (·.2) = [assign (.Tuple [.Name x px, .Name y py, .Name z pz] kt pt) X.env] := by rfl) :
    DS X W (.Assign [.Tuple [.Name x px, .Name y py, .Name z pz] kt pt] (.Tuple [a, b, c] k2 pt2) pos) (mPar3 i j l mas) u1 :=
  ⟨PS.imp (ps_asg (pe_tup ha.pa) (pg_tup hc (pgs_cons (pg_name hN hi hx hfx) (pgs_cons (pg_name hN hj hy hfy) (pgs_cons (pg_name hN hl hz hfz) pgs_nil h3) h2) h1) hn hst) hs hw h0) fun D σ H q => by
    obtain ⟨ex, G, F, δ, τ, ts, E, n, nb, eo, h⟩ := q
    refine ⟨ex, G, F, δ, τ, ts, [], [], _, n, h, fun xs hxs vs F1 H1 hln g1 => ?_⟩
    match xs, hxs, hln, g1 with
    | [x, y, z], hxs, hln, g1 =>
      obtain ⟨q1, q2, q3, q4, q5, q6, q7⟩ := hxs
      match vs, hln, g1 with
      | [v, u, w], hln, g1 =>
        refine ⟨by show 3 ≤ sizeLine; decide, fun p hp => ⟨p, [v, u, w], rfl, SqT.of upd_same, rfl, v, [u, w], rfl, u, [w], rfl, w, [], rfl, rfl, ?_⟩⟩
        have l1 := n.l1
        have g : Good (G.up u1) F1 (δ ++ (τ ++ [some x] ++ [some y]) ++ [some z]) (σ ++ (ts ++ [some v] ++ [some u]) ++ [some w]) (upd H1 p (.tup [v, u, w])) := by
          have := g1.alloc (o := .tup [v, u, w]) hp
          simpa using this
        have g2 : Good (G.up u1) F1 (δ.set l (some z) ++ (τ ++ [some x]) ++ [some y]) (σ.set l (some w) ++ (ts ++ [some v]) ++ [some u]) (upd H1 p (.tup [v, u, w])) := by
          have := setTop2 l1 q6 g
          simpa only [List.append_assoc] using this
        have g3 : Good (G.up u1) F1 ((δ.set l (some z)).set j (some y) ++ τ ++ [some x]) ((σ.set l (some w)).set j (some u) ++ ts ++ [some v]) (upd H1 p (.tup [v, u, w])) := by
          have := setTop2 (by simpa using l1) (j := j) (by simpa using q5) g2
          simpa only [List.append_assoc] using this
        have g4 := setTop2 (by simpa using l1) (j := i) (by simpa using q4) g3
        have perm : ∀ {α : Type} (s : List α) (p q r : α), ((s.set l r).set j q).set i p = ((s.set i p).set j q).set l r := fun s p q r => by
          rw [List.set_comm _ _ (Ne.symm hij), List.set_comm r p (Ne.symm hil), List.set_comm _ _ (Ne.symm hjl)]
        rw [perm, perm] at g4
        refine eo.nx _ q7 _ _ F1 _ (Nat.le_refl _) (by simpa using l1) ?_ g4
        exact nb_mk (noBor_set (noBor_set (noBor_set (nb_left nb) q1) q2) q3) (nb_right nb)⟩
end
end DL
namespace DL
open PySem PySem.Spec L2
theorem ge0 {α : Type} {a : α} {l : List α} : (a :: l)[0]? = some a := rfl
theorem ges {α : Type} {a : α} {l : List α} {n : Nat} : (a :: l)[n + 1]? = l[n]? := List.getElem?_cons_succ
theorem all_nil' {α : Type} {p : α → Prop} : (∀ x ∈ ([] : List α), p x) = True := by simp
theorem tf_t {A B : Prop} : ((true = true → A) ∧ (true = false → B)) = A := by simp
theorem tf_f {A B : Prop} : ((false = true → A) ∧ (false = false → B)) = B := by simp
theorem tf1 {A : Prop} : (true = true → A) = A := by simp
theorem tf2 {A : Prop} : (false = true → A) = True := by simp
theorem tf3 {A : Prop} : (true = false → A) = True := by simp
theorem tf4 {A : Prop} : (false = false → A) = A := by simp
section
variable {x y : PyData} {xs ys : List PyData} {i j : Int} {s t : Str} {b : Bool} {ns : List Int} {R : DV → Prop}
theorem val_d : (DV.val (.d x)) = (some x) := rfl
theorem val_o : (DV.val (.own xs)) = (some (.list xs)) := rfl
theorem seen_d : (DV.seen (.d x)) = (.d x) := rfl
theorem seen_o : (DV.seen (.own xs)) = (.bor xs) := rfl
theorem seen_b : (DV.seen (.bor xs)) = (.bor xs) := rfl
theorem seen_c : (DV.seen .cask) = (.cask) := rfl
theorem seen_s : (DV.seen (.scr ns)) = (.scr ns) := rfl
theorem fix_d : (DV.fix (.d x)) = (.d x) := rfl
theorem fix_o : (DV.fix (.own xs)) = (.d (.list xs)) := rfl
theorem fix_b : (DV.fix (.bor xs)) = (.d (.list xs)) := rfl
theorem fix_c : (DV.fix .cask) = (.cask) := rfl
theorem isBor_d : (DV.isBor (.d x)) = (false) := rfl
theorem isBor_o : (DV.isBor (.own xs)) = (false) := rfl
theorem isBor_b : (DV.isBor (.bor xs)) = (true) := rfl
theorem isBor_c : (DV.isBor .cask) = (false) := rfl
theorem isBor_s : (DV.isBor (.scr ns)) = (false) := rfl
variable {Rb : Bool → Prop}
theorem tru_b : (DV.tru (.d (.bool b)) Rb) = (Rb b) := rfl
theorem lst_dl : (DV.lst (.d (.list xs))) = (some xs) := rfl
theorem rd_dl : (DV.rd (.d (.list xs))) = (some xs) := rfl
theorem lst_o : (DV.lst (.own xs)) = (some xs) := rfl
theorem rd_o : (DV.rd (.own xs)) = (some xs) := rfl
theorem lst_b : (DV.lst (.bor xs)) = (some xs) := rfl
theorem rd_b : (DV.rd (.bor xs)) = (some xs) := rfl
theorem seq_dl : (DV.seq (.d (.list xs))) = (some xs) := rfl
theorem seq_dt : (DV.seq (.d (.tuple xs))) = (some xs) := rfl
theorem seq_o : (DV.seq (.own xs)) = (some xs) := rfl
theorem seq_b : (DV.seq (.bor xs)) = (some xs) := rfl
theorem rd_s : (DV.rd (.scr ns)) = (some (ns.map .int)) := rfl
theorem pd_d : (DV.pd (.d x)) = (some x) := rfl
theorem pd_o : (DV.pd (.own xs)) = (some (.list xs)) := rfl
theorem pd_b : (DV.pd (.bor xs)) = (some (.list xs)) := rfl
variable {C : Int → Int → Prop} {f : Int → Int → Int} {g : Int → Int → Bool}
theorem oI_i : (oI C f (.d (.int i)) (.d (.int j)) R) = (C i j ∧ R (.d (.int (f i j)))) := rfl
theorem oC_i : (oC g (.d (.int i)) (.d (.int j)) R) = (R (.d (.bool (g i j)))) := rfl
theorem oAdd_i : (oAdd (.d (.int i)) (.d (.int j)) R) = (R (.d (.int (i + j)))) := rfl
theorem oAdd_s : (oAdd (.d (.str s)) (.d (.str t)) R) = (s.length + t.length ≤ sizeLine ∧ R (.d (.str (s ++ t)))) := rfl
theorem oAdd_t : (oAdd (.d (.tuple xs)) (.d (.tuple ys)) R) = (xs.length + ys.length ≤ sizeLine ∧ R (.d (.tuple (xs ++ ys)))) := rfl
theorem oAdd_ll : (oAdd (.d (.list xs)) (.d (.list ys)) R) = (xs.length + ys.length ≤ sizeLine ∧ R (.own (xs ++ ys))) := rfl
theorem oAdd_lo : (oAdd (.d (.list xs)) (.own ys) R) = (xs.length + ys.length ≤ sizeLine ∧ R (.own (xs ++ ys))) := rfl
theorem oAdd_lb : (oAdd (.d (.list xs)) (.bor ys) R) = (xs.length + ys.length ≤ sizeLine ∧ R (.own (xs ++ ys))) := rfl
theorem oAdd_ol : (oAdd (.own xs) (.d (.list ys)) R) = (xs.length + ys.length ≤ sizeLine ∧ R (.own (xs ++ ys))) := rfl
theorem oAdd_oo : (oAdd (.own xs) (.own ys) R) = (xs.length + ys.length ≤ sizeLine ∧ R (.own (xs ++ ys))) := rfl
theorem oAdd_ob : (oAdd (.own xs) (.bor ys) R) = (xs.length + ys.length ≤ sizeLine ∧ R (.own (xs ++ ys))) := rfl
theorem oAdd_bl : (oAdd (.bor xs) (.d (.list ys)) R) = (xs.length + ys.length ≤ sizeLine ∧ R (.own (xs ++ ys))) := rfl
theorem oAdd_bo : (oAdd (.bor xs) (.own ys) R) = (xs.length + ys.length ≤ sizeLine ∧ R (.own (xs ++ ys))) := rfl
theorem oAdd_bb : (oAdd (.bor xs) (.bor ys) R) = (xs.length + ys.length ≤ sizeLine ∧ R (.own (xs ++ ys))) := rfl
theorem oMul_i : (oMul (.d (.int i)) (.d (.int j)) R) = (CMul i j ∧ R (.d (.int (i * j)))) := rfl
theorem oMul_l : (oMul (.d (.list xs)) (.d (.int j)) R) = (-(2 ^ 63) ≤ j ∧ j < 2 ^ 63 ∧ xs.length * j.toNat ≤ sizeLine ∧ R (.own (List.replicate j.toNat xs).flatten)) := rfl
theorem oMul_o : (oMul (.own xs) (.d (.int j)) R) = (-(2 ^ 63) ≤ j ∧ j < 2 ^ 63 ∧ xs.length * j.toNat ≤ sizeLine ∧ R (.own (List.replicate j.toNat xs).flatten)) := rfl
theorem oMul_b : (oMul (.bor xs) (.d (.int j)) R) = (-(2 ^ 63) ≤ j ∧ j < 2 ^ 63 ∧ xs.length * j.toNat ≤ sizeLine ∧ R (.own (List.replicate j.toNat xs).flatten)) := rfl
theorem oNeg_i : (oNeg (.d (.int i)) R) = (R (.d (.int (-i)))) := rfl
theorem oIn_dtf : (oIn false (.d x) (.d (.tuple ys)) R) = (SeqAt.shaped (x) = true ∧ SeqAt.shaped (.list ys) = true ∧ R (.d (.bool ((ys.any fun z => PyData.eqv z (x)))))) := rfl
theorem oIn_dtt : (oIn true (.d x) (.d (.tuple ys)) R) = (SeqAt.shaped (x) = true ∧ SeqAt.shaped (.list ys) = true ∧ R (.d (.bool (!(ys.any fun z => PyData.eqv z (x)))))) := rfl
theorem oIn_dlf : (oIn false (.d x) (.d (.list ys)) R) = (SeqAt.shaped (x) = true ∧ SeqAt.shaped (.list ys) = true ∧ R (.d (.bool ((ys.any fun z => PyData.eqv z (x)))))) := rfl
theorem oIn_dlt : (oIn true (.d x) (.d (.list ys)) R) = (SeqAt.shaped (x) = true ∧ SeqAt.shaped (.list ys) = true ∧ R (.d (.bool (!(ys.any fun z => PyData.eqv z (x)))))) := rfl
theorem oIn_dof : (oIn false (.d x) (.own ys) R) = (SeqAt.shaped (x) = true ∧ SeqAt.shaped (.list ys) = true ∧ R (.d (.bool ((ys.any fun z => PyData.eqv z (x)))))) := rfl
theorem oIn_dot : (oIn true (.d x) (.own ys) R) = (SeqAt.shaped (x) = true ∧ SeqAt.shaped (.list ys) = true ∧ R (.d (.bool (!(ys.any fun z => PyData.eqv z (x)))))) := rfl
theorem oIn_dbf : (oIn false (.d x) (.bor ys) R) = (SeqAt.shaped (x) = true ∧ SeqAt.shaped (.list ys) = true ∧ R (.d (.bool ((ys.any fun z => PyData.eqv z (x)))))) := rfl
theorem oIn_dbt : (oIn true (.d x) (.bor ys) R) = (SeqAt.shaped (x) = true ∧ SeqAt.shaped (.list ys) = true ∧ R (.d (.bool (!(ys.any fun z => PyData.eqv z (x)))))) := rfl
theorem oIn_otf : (oIn false (.own xs) (.d (.tuple ys)) R) = (SeqAt.shaped (.list xs) = true ∧ SeqAt.shaped (.list ys) = true ∧ R (.d (.bool ((ys.any fun z => PyData.eqv z (.list xs)))))) := rfl
theorem oIn_ott : (oIn true (.own xs) (.d (.tuple ys)) R) = (SeqAt.shaped (.list xs) = true ∧ SeqAt.shaped (.list ys) = true ∧ R (.d (.bool (!(ys.any fun z => PyData.eqv z (.list xs)))))) := rfl
theorem oIn_olf : (oIn false (.own xs) (.d (.list ys)) R) = (SeqAt.shaped (.list xs) = true ∧ SeqAt.shaped (.list ys) = true ∧ R (.d (.bool ((ys.any fun z => PyData.eqv z (.list xs)))))) := rfl
theorem oIn_olt : (oIn true (.own xs) (.d (.list ys)) R) = (SeqAt.shaped (.list xs) = true ∧ SeqAt.shaped (.list ys) = true ∧ R (.d (.bool (!(ys.any fun z => PyData.eqv z (.list xs)))))) := rfl
theorem oIn_oof : (oIn false (.own xs) (.own ys) R) = (SeqAt.shaped (.list xs) = true ∧ SeqAt.shaped (.list ys) = true ∧ R (.d (.bool ((ys.any fun z => PyData.eqv z (.list xs)))))) := rfl
theorem oIn_oot : (oIn true (.own xs) (.own ys) R) = (SeqAt.shaped (.list xs) = true ∧ SeqAt.shaped (.list ys) = true ∧ R (.d (.bool (!(ys.any fun z => PyData.eqv z (.list xs)))))) := rfl
theorem oIn_obf : (oIn false (.own xs) (.bor ys) R) = (SeqAt.shaped (.list xs) = true ∧ SeqAt.shaped (.list ys) = true ∧ R (.d (.bool ((ys.any fun z => PyData.eqv z (.list xs)))))) := rfl
theorem oIn_obt : (oIn true (.own xs) (.bor ys) R) = (SeqAt.shaped (.list xs) = true ∧ SeqAt.shaped (.list ys) = true ∧ R (.d (.bool (!(ys.any fun z => PyData.eqv z (.list xs)))))) := rfl
theorem oIn_btf : (oIn false (.bor xs) (.d (.tuple ys)) R) = (SeqAt.shaped (.list xs) = true ∧ SeqAt.shaped (.list ys) = true ∧ R (.d (.bool ((ys.any fun z => PyData.eqv z (.list xs)))))) := rfl
theorem oIn_btt : (oIn true (.bor xs) (.d (.tuple ys)) R) = (SeqAt.shaped (.list xs) = true ∧ SeqAt.shaped (.list ys) = true ∧ R (.d (.bool (!(ys.any fun z => PyData.eqv z (.list xs)))))) := rfl
theorem oIn_blf : (oIn false (.bor xs) (.d (.list ys)) R) = (SeqAt.shaped (.list xs) = true ∧ SeqAt.shaped (.list ys) = true ∧ R (.d (.bool ((ys.any fun z => PyData.eqv z (.list xs)))))) := rfl
theorem oIn_blt : (oIn true (.bor xs) (.d (.list ys)) R) = (SeqAt.shaped (.list xs) = true ∧ SeqAt.shaped (.list ys) = true ∧ R (.d (.bool (!(ys.any fun z => PyData.eqv z (.list xs)))))) := rfl
theorem oIn_bof : (oIn false (.bor xs) (.own ys) R) = (SeqAt.shaped (.list xs) = true ∧ SeqAt.shaped (.list ys) = true ∧ R (.d (.bool ((ys.any fun z => PyData.eqv z (.list xs)))))) := rfl
theorem oIn_bot : (oIn true (.bor xs) (.own ys) R) = (SeqAt.shaped (.list xs) = true ∧ SeqAt.shaped (.list ys) = true ∧ R (.d (.bool (!(ys.any fun z => PyData.eqv z (.list xs)))))) := rfl
theorem oIn_bbf : (oIn false (.bor xs) (.bor ys) R) = (SeqAt.shaped (.list xs) = true ∧ SeqAt.shaped (.list ys) = true ∧ R (.d (.bool ((ys.any fun z => PyData.eqv z (.list xs)))))) := rfl
theorem oIn_bbt : (oIn true (.bor xs) (.bor ys) R) = (SeqAt.shaped (.list xs) = true ∧ SeqAt.shaped (.list ys) = true ∧ R (.d (.bool (!(ys.any fun z => PyData.eqv z (.list xs)))))) := rfl
theorem oIsN_nnf : (oIsN false (.d .none) (.d .none) R) = (R (.d (.bool true))) := rfl
theorem oIsN_if : (oIsN false (.d (.int i)) (.d .none) R) = (R (.d (.bool false))) := rfl
theorem oIsN_bf : (oIsN false (.d (.bool b)) (.d .none) R) = (R (.d (.bool false))) := rfl
theorem oIsN_sf : (oIsN false (.d (.str s)) (.d .none) R) = (R (.d (.bool false))) := rfl
theorem oIsN_tf : (oIsN false (.d (.tuple xs)) (.d .none) R) = (R (.d (.bool false))) := rfl
theorem oIsN_lf : (oIsN false (.d (.list xs)) (.d .none) R) = (R (.d (.bool false))) := rfl
theorem oIsN_of : (oIsN false (.own xs) (.d .none) R) = (R (.d (.bool false))) := rfl
theorem oIsN_rf : (oIsN false (.bor xs) (.d .none) R) = (R (.d (.bool false))) := rfl
theorem oIsN_nnt : (oIsN true (.d .none) (.d .none) R) = (R (.d (.bool false))) := rfl
theorem oIsN_it : (oIsN true (.d (.int i)) (.d .none) R) = (R (.d (.bool true))) := rfl
theorem oIsN_bt : (oIsN true (.d (.bool b)) (.d .none) R) = (R (.d (.bool true))) := rfl
theorem oIsN_st : (oIsN true (.d (.str s)) (.d .none) R) = (R (.d (.bool true))) := rfl
theorem oIsN_tt : (oIsN true (.d (.tuple xs)) (.d .none) R) = (R (.d (.bool true))) := rfl
theorem oIsN_lt : (oIsN true (.d (.list xs)) (.d .none) R) = (R (.d (.bool true))) := rfl
theorem oIsN_ot : (oIsN true (.own xs) (.d .none) R) = (R (.d (.bool true))) := rfl
theorem oIsN_rt : (oIsN true (.bor xs) (.d .none) R) = (R (.d (.bool true))) := rfl
theorem oIx_t : (oIx (.d (.tuple xs)) (.d (.int i)) R) = (match atI xs i with | some d => R (.d d) | none => False) := rfl
theorem oLen_t : (oLen (.d (.tuple xs)) R) = (R (.d (.int xs.length))) := rfl
theorem oList_t : (oList (.d (.tuple xs)) R) = (R (.own xs)) := rfl
theorem oIx_l : (oIx (.d (.list xs)) (.d (.int i)) R) = (match atI xs i with | some d => R (.d d) | none => False) := rfl
theorem oLen_l : (oLen (.d (.list xs)) R) = (R (.d (.int xs.length))) := rfl
theorem oList_l : (oList (.d (.list xs)) R) = (R (.own xs)) := rfl
theorem oIx_o : (oIx (.own xs) (.d (.int i)) R) = (match atI xs i with | some d => R (.d d) | none => False) := rfl
theorem oLen_o : (oLen (.own xs) R) = (R (.d (.int xs.length))) := rfl
theorem oList_o : (oList (.own xs) R) = (R (.own xs)) := rfl
theorem oIx_b : (oIx (.bor xs) (.d (.int i)) R) = (match atI xs i with | some d => R (.d d) | none => False) := rfl
theorem oLen_b : (oLen (.bor xs) R) = (R (.d (.int xs.length))) := rfl
theorem oList_b : (oList (.bor xs) R) = (R (.own xs)) := rfl
theorem oLen_s : (oLen (.scr ns) R) = (R (.d (.int ns.length))) := rfl
theorem oLen_x : (oLen (.d (.str s)) R) = (s.length ≤ sizeLine ∧ R (.d (.int s.length))) := rfl
theorem oAbs_i : (oAbs (.d (.int i)) R) = (R (.d (.int (if i < 0 then -i else i)))) := rfl
theorem oMax2_i : (oMax2 (.d (.int i)) (.d (.int j)) R) = (R (.d (.int (if j > i then j else i)))) := rfl
theorem oMin2_i : (oMin2 (.d (.int i)) (.d (.int j)) R) = (R (.d (.int (if j < i then j else i)))) := rfl
theorem oInt_i : (oInt (.d (.int i)) R) = (R (.d (.int i))) := rfl
theorem oInt_b : (oInt (.d (.bool b)) R) = (R (.d (.int (if b then 1 else 0)))) := rfl
theorem oTuple_t : (oTuple (.d (.tuple xs)) R) = (R (.d (.tuple xs))) := rfl
theorem oTuple_l : (oTuple (.d (.list xs)) R) = (R (.d (.tuple xs))) := rfl
theorem oTuple_o : (oTuple (.own xs) R) = (R (.d (.tuple xs))) := rfl
theorem oTuple_b : (oTuple (.bor xs) R) = (R (.d (.tuple xs))) := rfl
variable {o : List Int → (DV → Prop) → Prop}
theorem oInts_l : (oInts o (.d (.list xs)) R) = (match intsOf xs with | some ns => o ns R | none => False) := rfl
theorem oInts_o : (oInts o (.own xs) R) = (match intsOf xs with | some ns => o ns R | none => False) := rfl
theorem oInts_b : (oInts o (.bor xs) R) = (match intsOf xs with | some ns => o ns R | none => False) := rfl
theorem oIsi_d {T : String} : (oIsi (.d x) (.raw (.ty T)) R) = (T ∈ tys ∧ R (.d (.bool (isTy (x) T)))) := rfl
theorem oIsi_o {T : String} : (oIsi (.own xs) (.raw (.ty T)) R) = (T ∈ tys ∧ R (.d (.bool (isTy (.list xs) T)))) := rfl
theorem oIsi_b {T : String} : (oIsi (.bor xs) (.raw (.ty T)) R) = (T ∈ tys ∧ R (.d (.bool (isTy (.list xs) T)))) := rfl
variable {lo hi : Option Int}
theorem oSl_t : (oSl (.d (.tuple xs)) lo hi R) = (R (.d (.tuple (cutD xs lo hi)))) := rfl
theorem oSl_l : (oSl (.d (.list xs)) lo hi R) = (R (.own (cutD xs lo hi))) := rfl
theorem oSl_o : (oSl (.own xs) lo hi R) = (R (.own (cutD xs lo hi))) := rfl
theorem oSl_b : (oSl (.bor xs) lo hi R) = (R (.own (cutD xs lo hi))) := rfl
theorem oSl_s : (oSl (.scr ns) lo hi R) = (R (.own (cutD (ns.map .int) lo hi))) := rfl
theorem oBack_t : (oBack (.d (.tuple xs)) R) = (R (.d (.tuple xs.reverse))) := rfl
theorem oBack_l : (oBack (.d (.list xs)) R) = (R (.own xs.reverse)) := rfl
theorem oBack_o : (oBack (.own xs) R) = (R (.own xs.reverse)) := rfl
theorem oBack_b : (oBack (.bor xs) R) = (R (.own xs.reverse)) := rfl
end
theorem at0 {a : PyData} {l : List PyData} : atI (a :: l) 0 = some a := atI_nat (j := 0) rfl
theorem at1 {a b : PyData} {l : List PyData} : atI (a :: b :: l) 1 = some b := atI_nat (j := 1) rfl
theorem at2 {a b c : PyData} {l : List PyData} : atI (a :: b :: c :: l) 2 = some c := atI_nat (j := 2) rfl
theorem ixN_nat {n s : Nat} (h : s < n) : ixN n (s : Nat) = some s := by
  unfold ixN
  rw [if_pos (by omega), if_pos (by omega)]
  simp
theorem oI_T {f : Int → Int → Int} {i j : Int} {R : DV → Prop} : (oI (fun _ _ => True) f (.d (.int i)) (.d (.int j)) R) = (R (.d (.int (f i j)))) := by simp [oI]
section
variable {x y : PyData} {xs ys : List PyData} {i : Int} {b : Bool} {s t : Str} {kv : List (PyData × PyData)} {R : DV → Prop}
theorem oEq_ssf : (oEq false (.d (.str s)) (.d (.str t)) R) = (R (.d (.bool (PyData.eqv (.str s) (.str t))))) := rfl
theorem oEq_ndf : (oEq false (.d (.none)) (.d y) R) = (SeqAt.shaped (.none) = true ∧ SeqAt.shaped (y) = true ∧ R (.d (.bool (PyData.eqv (.none) (y))))) := rfl
theorem oEq_nof : (oEq false (.d (.none)) (.own ys) R) = (SeqAt.shaped (.none) = true ∧ SeqAt.shaped (.list ys) = true ∧ R (.d (.bool (PyData.eqv (.none) (.list ys))))) := rfl
theorem oEq_nrf : (oEq false (.d (.none)) (.bor ys) R) = (SeqAt.shaped (.none) = true ∧ SeqAt.shaped (.list ys) = true ∧ R (.d (.bool (PyData.eqv (.none) (.list ys))))) := rfl
theorem oEq_dnf : (oEq false (.d x) (.d (.none)) R) = (SeqAt.shaped (x) = true ∧ SeqAt.shaped (.none) = true ∧ R (.d (.bool (PyData.eqv (x) (.none))))) := by cases x <;> rfl
theorem oEq_bdf : (oEq false (.d (.bool b)) (.d y) R) = (SeqAt.shaped (.bool b) = true ∧ SeqAt.shaped (y) = true ∧ R (.d (.bool (PyData.eqv (.bool b) (y))))) := rfl
theorem oEq_bof : (oEq false (.d (.bool b)) (.own ys) R) = (SeqAt.shaped (.bool b) = true ∧ SeqAt.shaped (.list ys) = true ∧ R (.d (.bool (PyData.eqv (.bool b) (.list ys))))) := rfl
theorem oEq_brf : (oEq false (.d (.bool b)) (.bor ys) R) = (SeqAt.shaped (.bool b) = true ∧ SeqAt.shaped (.list ys) = true ∧ R (.d (.bool (PyData.eqv (.bool b) (.list ys))))) := rfl
theorem oEq_dbf : (oEq false (.d x) (.d (.bool b)) R) = (SeqAt.shaped (x) = true ∧ SeqAt.shaped (.bool b) = true ∧ R (.d (.bool (PyData.eqv (x) (.bool b))))) := by cases x <;> rfl
theorem oEq_idf : (oEq false (.d (.int i)) (.d y) R) = (SeqAt.shaped (.int i) = true ∧ SeqAt.shaped (y) = true ∧ R (.d (.bool (PyData.eqv (.int i) (y))))) := rfl
theorem oEq_iof : (oEq false (.d (.int i)) (.own ys) R) = (SeqAt.shaped (.int i) = true ∧ SeqAt.shaped (.list ys) = true ∧ R (.d (.bool (PyData.eqv (.int i) (.list ys))))) := rfl
theorem oEq_irf : (oEq false (.d (.int i)) (.bor ys) R) = (SeqAt.shaped (.int i) = true ∧ SeqAt.shaped (.list ys) = true ∧ R (.d (.bool (PyData.eqv (.int i) (.list ys))))) := rfl
theorem oEq_dif : (oEq false (.d x) (.d (.int i)) R) = (SeqAt.shaped (x) = true ∧ SeqAt.shaped (.int i) = true ∧ R (.d (.bool (PyData.eqv (x) (.int i))))) := by cases x <;> rfl
theorem oEq_ldf : (oEq false (.d (.list xs)) (.d y) R) = (SeqAt.shaped (.list xs) = true ∧ SeqAt.shaped (y) = true ∧ R (.d (.bool (PyData.eqv (.list xs) (y))))) := rfl
theorem oEq_lof : (oEq false (.d (.list xs)) (.own ys) R) = (SeqAt.shaped (.list xs) = true ∧ SeqAt.shaped (.list ys) = true ∧ R (.d (.bool (PyData.eqv (.list xs) (.list ys))))) := rfl
theorem oEq_lrf : (oEq false (.d (.list xs)) (.bor ys) R) = (SeqAt.shaped (.list xs) = true ∧ SeqAt.shaped (.list ys) = true ∧ R (.d (.bool (PyData.eqv (.list xs) (.list ys))))) := rfl
theorem oEq_dlf : (oEq false (.d x) (.d (.list xs)) R) = (SeqAt.shaped (x) = true ∧ SeqAt.shaped (.list xs) = true ∧ R (.d (.bool (PyData.eqv (x) (.list xs))))) := by cases x <;> rfl
theorem oEq_tdf : (oEq false (.d (.tuple xs)) (.d y) R) = (SeqAt.shaped (.tuple xs) = true ∧ SeqAt.shaped (y) = true ∧ R (.d (.bool (PyData.eqv (.tuple xs) (y))))) := rfl
theorem oEq_tof : (oEq false (.d (.tuple xs)) (.own ys) R) = (SeqAt.shaped (.tuple xs) = true ∧ SeqAt.shaped (.list ys) = true ∧ R (.d (.bool (PyData.eqv (.tuple xs) (.list ys))))) := rfl
theorem oEq_trf : (oEq false (.d (.tuple xs)) (.bor ys) R) = (SeqAt.shaped (.tuple xs) = true ∧ SeqAt.shaped (.list ys) = true ∧ R (.d (.bool (PyData.eqv (.tuple xs) (.list ys))))) := rfl
theorem oEq_dtf : (oEq false (.d x) (.d (.tuple xs)) R) = (SeqAt.shaped (x) = true ∧ SeqAt.shaped (.tuple xs) = true ∧ R (.d (.bool (PyData.eqv (x) (.tuple xs))))) := by cases x <;> rfl
theorem oEq_kdf : (oEq false (.d (.dict kv)) (.d y) R) = (SeqAt.shaped (.dict kv) = true ∧ SeqAt.shaped (y) = true ∧ R (.d (.bool (PyData.eqv (.dict kv) (y))))) := rfl
theorem oEq_kof : (oEq false (.d (.dict kv)) (.own ys) R) = (SeqAt.shaped (.dict kv) = true ∧ SeqAt.shaped (.list ys) = true ∧ R (.d (.bool (PyData.eqv (.dict kv) (.list ys))))) := rfl
theorem oEq_krf : (oEq false (.d (.dict kv)) (.bor ys) R) = (SeqAt.shaped (.dict kv) = true ∧ SeqAt.shaped (.list ys) = true ∧ R (.d (.bool (PyData.eqv (.dict kv) (.list ys))))) := rfl
theorem oEq_dkf : (oEq false (.d x) (.d (.dict kv)) R) = (SeqAt.shaped (x) = true ∧ SeqAt.shaped (.dict kv) = true ∧ R (.d (.bool (PyData.eqv (x) (.dict kv))))) := by cases x <;> rfl
theorem oEq_odf : (oEq false (.own xs) (.d y) R) = (SeqAt.shaped (.list xs) = true ∧ SeqAt.shaped (y) = true ∧ R (.d (.bool (PyData.eqv (.list xs) (y))))) := rfl
theorem oEq_oof : (oEq false (.own xs) (.own ys) R) = (SeqAt.shaped (.list xs) = true ∧ SeqAt.shaped (.list ys) = true ∧ R (.d (.bool (PyData.eqv (.list xs) (.list ys))))) := rfl
theorem oEq_orf : (oEq false (.own xs) (.bor ys) R) = (SeqAt.shaped (.list xs) = true ∧ SeqAt.shaped (.list ys) = true ∧ R (.d (.bool (PyData.eqv (.list xs) (.list ys))))) := rfl
theorem oEq_dof : (oEq false (.d x) (.own xs) R) = (SeqAt.shaped (x) = true ∧ SeqAt.shaped (.list xs) = true ∧ R (.d (.bool (PyData.eqv (x) (.list xs))))) := by cases x <;> rfl
theorem oEq_rdf : (oEq false (.bor xs) (.d y) R) = (SeqAt.shaped (.list xs) = true ∧ SeqAt.shaped (y) = true ∧ R (.d (.bool (PyData.eqv (.list xs) (y))))) := rfl
theorem oEq_rof : (oEq false (.bor xs) (.own ys) R) = (SeqAt.shaped (.list xs) = true ∧ SeqAt.shaped (.list ys) = true ∧ R (.d (.bool (PyData.eqv (.list xs) (.list ys))))) := rfl
theorem oEq_rrf : (oEq false (.bor xs) (.bor ys) R) = (SeqAt.shaped (.list xs) = true ∧ SeqAt.shaped (.list ys) = true ∧ R (.d (.bool (PyData.eqv (.list xs) (.list ys))))) := rfl
theorem oEq_drf : (oEq false (.d x) (.bor xs) R) = (SeqAt.shaped (x) = true ∧ SeqAt.shaped (.list xs) = true ∧ R (.d (.bool (PyData.eqv (x) (.list xs))))) := by cases x <;> rfl
theorem oEq_sst : (oEq true (.d (.str s)) (.d (.str t)) R) = (R (.d (.bool (!PyData.eqv (.str s) (.str t))))) := rfl
theorem oEq_ndt : (oEq true (.d (.none)) (.d y) R) = (SeqAt.shaped (.none) = true ∧ SeqAt.shaped (y) = true ∧ R (.d (.bool (!PyData.eqv (.none) (y))))) := rfl
theorem oEq_not : (oEq true (.d (.none)) (.own ys) R) = (SeqAt.shaped (.none) = true ∧ SeqAt.shaped (.list ys) = true ∧ R (.d (.bool (!PyData.eqv (.none) (.list ys))))) := rfl
theorem oEq_nrt : (oEq true (.d (.none)) (.bor ys) R) = (SeqAt.shaped (.none) = true ∧ SeqAt.shaped (.list ys) = true ∧ R (.d (.bool (!PyData.eqv (.none) (.list ys))))) := rfl
theorem oEq_dnt : (oEq true (.d x) (.d (.none)) R) = (SeqAt.shaped (x) = true ∧ SeqAt.shaped (.none) = true ∧ R (.d (.bool (!PyData.eqv (x) (.none))))) := by cases x <;> rfl
theorem oEq_bdt : (oEq true (.d (.bool b)) (.d y) R) = (SeqAt.shaped (.bool b) = true ∧ SeqAt.shaped (y) = true ∧ R (.d (.bool (!PyData.eqv (.bool b) (y))))) := rfl
theorem oEq_bot : (oEq true (.d (.bool b)) (.own ys) R) = (SeqAt.shaped (.bool b) = true ∧ SeqAt.shaped (.list ys) = true ∧ R (.d (.bool (!PyData.eqv (.bool b) (.list ys))))) := rfl
theorem oEq_brt : (oEq true (.d (.bool b)) (.bor ys) R) = (SeqAt.shaped (.bool b) = true ∧ SeqAt.shaped (.list ys) = true ∧ R (.d (.bool (!PyData.eqv (.bool b) (.list ys))))) := rfl
theorem oEq_dbt : (oEq true (.d x) (.d (.bool b)) R) = (SeqAt.shaped (x) = true ∧ SeqAt.shaped (.bool b) = true ∧ R (.d (.bool (!PyData.eqv (x) (.bool b))))) := by cases x <;> rfl
theorem oEq_idt : (oEq true (.d (.int i)) (.d y) R) = (SeqAt.shaped (.int i) = true ∧ SeqAt.shaped (y) = true ∧ R (.d (.bool (!PyData.eqv (.int i) (y))))) := rfl
theorem oEq_iot : (oEq true (.d (.int i)) (.own ys) R) = (SeqAt.shaped (.int i) = true ∧ SeqAt.shaped (.list ys) = true ∧ R (.d (.bool (!PyData.eqv (.int i) (.list ys))))) := rfl
theorem oEq_irt : (oEq true (.d (.int i)) (.bor ys) R) = (SeqAt.shaped (.int i) = true ∧ SeqAt.shaped (.list ys) = true ∧ R (.d (.bool (!PyData.eqv (.int i) (.list ys))))) := rfl
theorem oEq_dit : (oEq true (.d x) (.d (.int i)) R) = (SeqAt.shaped (x) = true ∧ SeqAt.shaped (.int i) = true ∧ R (.d (.bool (!PyData.eqv (x) (.int i))))) := by cases x <;> rfl
theorem oEq_ldt : (oEq true (.d (.list xs)) (.d y) R) = (SeqAt.shaped (.list xs) = true ∧ SeqAt.shaped (y) = true ∧ R (.d (.bool (!PyData.eqv (.list xs) (y))))) := rfl
theorem oEq_lot : (oEq true (.d (.list xs)) (.own ys) R) = (SeqAt.shaped (.list xs) = true ∧ SeqAt.shaped (.list ys) = true ∧ R (.d (.bool (!PyData.eqv (.list xs) (.list ys))))) := rfl
theorem oEq_lrt : (oEq true (.d (.list xs)) (.bor ys) R) = (SeqAt.shaped (.list xs) = true ∧ SeqAt.shaped (.list ys) = true ∧ R (.d (.bool (!PyData.eqv (.list xs) (.list ys))))) := rfl
theorem oEq_dlt : (oEq true (.d x) (.d (.list xs)) R) = (SeqAt.shaped (x) = true ∧ SeqAt.shaped (.list xs) = true ∧ R (.d (.bool (!PyData.eqv (x) (.list xs))))) := by cases x <;> rfl
theorem oEq_tdt : (oEq true (.d (.tuple xs)) (.d y) R) = (SeqAt.shaped (.tuple xs) = true ∧ SeqAt.shaped (y) = true ∧ R (.d (.bool (!PyData.eqv (.tuple xs) (y))))) := rfl
theorem oEq_tot : (oEq true (.d (.tuple xs)) (.own ys) R) = (SeqAt.shaped (.tuple xs) = true ∧ SeqAt.shaped (.list ys) = true ∧ R (.d (.bool (!PyData.eqv (.tuple xs) (.list ys))))) := rfl
theorem oEq_trt : (oEq true (.d (.tuple xs)) (.bor ys) R) = (SeqAt.shaped (.tuple xs) = true ∧ SeqAt.shaped (.list ys) = true ∧ R (.d (.bool (!PyData.eqv (.tuple xs) (.list ys))))) := rfl
theorem oEq_dtt : (oEq true (.d x) (.d (.tuple xs)) R) = (SeqAt.shaped (x) = true ∧ SeqAt.shaped (.tuple xs) = true ∧ R (.d (.bool (!PyData.eqv (x) (.tuple xs))))) := by cases x <;> rfl
theorem oEq_kdt : (oEq true (.d (.dict kv)) (.d y) R) = (SeqAt.shaped (.dict kv) = true ∧ SeqAt.shaped (y) = true ∧ R (.d (.bool (!PyData.eqv (.dict kv) (y))))) := rfl
theorem oEq_kot : (oEq true (.d (.dict kv)) (.own ys) R) = (SeqAt.shaped (.dict kv) = true ∧ SeqAt.shaped (.list ys) = true ∧ R (.d (.bool (!PyData.eqv (.dict kv) (.list ys))))) := rfl
theorem oEq_krt : (oEq true (.d (.dict kv)) (.bor ys) R) = (SeqAt.shaped (.dict kv) = true ∧ SeqAt.shaped (.list ys) = true ∧ R (.d (.bool (!PyData.eqv (.dict kv) (.list ys))))) := rfl
theorem oEq_dkt : (oEq true (.d x) (.d (.dict kv)) R) = (SeqAt.shaped (x) = true ∧ SeqAt.shaped (.dict kv) = true ∧ R (.d (.bool (!PyData.eqv (x) (.dict kv))))) := by cases x <;> rfl
theorem oEq_odt : (oEq true (.own xs) (.d y) R) = (SeqAt.shaped (.list xs) = true ∧ SeqAt.shaped (y) = true ∧ R (.d (.bool (!PyData.eqv (.list xs) (y))))) := rfl
theorem oEq_oot : (oEq true (.own xs) (.own ys) R) = (SeqAt.shaped (.list xs) = true ∧ SeqAt.shaped (.list ys) = true ∧ R (.d (.bool (!PyData.eqv (.list xs) (.list ys))))) := rfl
theorem oEq_ort : (oEq true (.own xs) (.bor ys) R) = (SeqAt.shaped (.list xs) = true ∧ SeqAt.shaped (.list ys) = true ∧ R (.d (.bool (!PyData.eqv (.list xs) (.list ys))))) := rfl
theorem oEq_dot : (oEq true (.d x) (.own xs) R) = (SeqAt.shaped (x) = true ∧ SeqAt.shaped (.list xs) = true ∧ R (.d (.bool (!PyData.eqv (x) (.list xs))))) := by cases x <;> rfl
theorem oEq_rdt : (oEq true (.bor xs) (.d y) R) = (SeqAt.shaped (.list xs) = true ∧ SeqAt.shaped (y) = true ∧ R (.d (.bool (!PyData.eqv (.list xs) (y))))) := rfl
theorem oEq_rot : (oEq true (.bor xs) (.own ys) R) = (SeqAt.shaped (.list xs) = true ∧ SeqAt.shaped (.list ys) = true ∧ R (.d (.bool (!PyData.eqv (.list xs) (.list ys))))) := rfl
theorem oEq_rrt : (oEq true (.bor xs) (.bor ys) R) = (SeqAt.shaped (.list xs) = true ∧ SeqAt.shaped (.list ys) = true ∧ R (.d (.bool (!PyData.eqv (.list xs) (.list ys))))) := rfl
theorem oEq_drt : (oEq true (.d x) (.bor xs) R) = (SeqAt.shaped (x) = true ∧ SeqAt.shaped (.list xs) = true ∧ R (.d (.bool (!PyData.eqv (x) (.list xs))))) := by cases x <;> rfl
end
end DL
namespace DL
open PySem PySem.Spec L2
mutual
def wid : PyData → Nat
  | .none => 4
  | .bool _ => 5
  | .int _ => 1922
  | .str x => (reprText x).length
  | .list xs => 4 + widAll xs
  | .tuple xs => 4 + widAll xs
  | .dict _ => 0
def widAll : List PyData → Nat
  | [] => 0
  | x :: xs => wid x + 2 + widAll xs
end
theorem listText_le : ∀ ts : List Str, (listText ts).length ≤ 4 + piled ts
  | [] => by
    have : (listText []).length = 2 := rfl
    omega
  | t :: r => by
    have h := textFrom_length_pos r 1 (("[" : Str) ++ (if (0 : Nat) > 0 then ", " else "" : String) ++ t) (Nat.succ_pos 0)
    have e : ((("[" : Str) ++ (if (0 : Nat) > 0 then ", " else "" : String) ++ t)).length = 1 + t.length := by
      rw [strLen_append, strLen_append]; rfl
    have hX : (listText (t :: r)).length = (textFrom 0 "[" (t :: r)).length + 1 := by
      show (textFrom 0 "[" (t :: r) ++ "]").length = _
      rw [strLen_append]; rfl
    have hY : (textFrom 0 "[" (t :: r)).length = (textFrom 1 (("[" : Str) ++ (if (0 : Nat) > 0 then ", " else "" : String) ++ t) r).length := rfl
    rw [hX, hY, h, e, piled_cons]
    omega
theorem tupleText_le (ts : List Str) : (tupleText ts).length ≤ 4 + piled ts := by
  unfold tupleText
  rw [strLen_append, strLen_append]
  have h1 : (Str.ofString "(").length = 1 := rfl
  have h2 : (Str.ofString (if ts.length == 1 then ",)" else ")")).length ≤ 2 := by split <;> decide
  by_cases h : ts = []
  · subst h
    have h3 : (Str.join ", " ([] : List Str)).length = 0 := rfl
    have := piled_nil
    omega
  · have := join_length_add ts h
    omega
mutual
theorem shown_le : ∀ d : PyData, d.hasDict = false → d.showable = true → d.shown.length ≤ wid d
  | .none, _, _ => by
    have : (PyData.shown .none).length = 4 := by simp only [PyData.shown]; rfl
    simp only [wid]; omega
  | .bool b, _, _ => by
    have : (PyData.shown (.bool b)).length ≤ 5 := by simp only [PyData.shown]; cases b <;> decide
    simp only [wid]; omega
  | .int i, _, h => by
    have h' : i.natAbs.log2 < 1920 := by simpa [PyData.showable] using h
    have e := int_text_length_le (k := 1920) (by decide) h'
    have : (PyData.shown (.int i)).length = (toString i).length := by simp only [PyData.shown]; exact ofString_length _
    simp only [wid]; omega
  | .str x, _, _ => by simp only [PyData.shown, wid]; exact Nat.le_refl _
  | .list xs, h1, h2 => by
    have := shownAll_le xs (by simpa [PyData.hasDict] using h1) (by simpa [PyData.showable] using h2)
    have := listText_le (PyData.shownAll xs)
    simp only [PyData.shown, wid]; omega
  | .tuple xs, h1, h2 => by
    have := shownAll_le xs (by simpa [PyData.hasDict] using h1) (by simpa [PyData.showable] using h2)
    have := tupleText_le (PyData.shownAll xs)
    simp only [PyData.shown, wid]; omega
  | .dict _, h, _ => by simp [PyData.hasDict] at h
theorem shownAll_le : ∀ xs : List PyData, PyData.hasDictAll xs = false → PyData.showableAll xs = true → piled (PyData.shownAll xs) ≤ widAll xs
  | [], _, _ => Nat.le_refl _
  | x :: xs, h1, h2 => by
    simp only [PyData.hasDictAll, Bool.or_eq_false_iff] at h1
    simp only [PyData.showableAll, Bool.and_eq_true] at h2
    have a := shown_le x h1.1 h2.1
    have b := shownAll_le xs h1.2 h2.2
    simp only [PyData.shownAll, piled_cons, widAll]
    omega
end
structure Sz (d : PyData) (dp wd : Nat) : Prop where
  nd : d.hasDict = false
  sh : d.showable = true
  de : d.depth ≤ dp
  wi : wid d ≤ wd
  ly : d.canLay0 = true
structure SzA (xs : List PyData) (dp wd : Nat) : Prop where
  nd : PyData.hasDictAll xs = false
  sh : PyData.showableAll xs = true
  de : PyData.depthAll xs ≤ dp
  wi : widAll xs ≤ xs.length * (wd + 2)
  ly : PyData.canLayAll0 xs = true
theorem szA {dp wd : Nat} : ∀ {xs : List PyData}, (∀ x ∈ xs, Sz x dp wd) → SzA xs dp wd
  | [], _ => ⟨rfl, rfl, Nat.zero_le _, by simp [widAll], rfl⟩
  | x :: xs, h => by
    have a := h x (by simp)
    have b := szA (xs := xs) fun y hy => h y (by simp [hy])
    refine ⟨by simp [PyData.hasDictAll, a.nd, b.nd], by simp [PyData.showableAll, a.sh, b.sh], ?_, ?_, by simp [PyData.canLayAll0, a.ly, b.ly]⟩
    · simp only [PyData.depthAll]
      have := a.de; have := b.de
      omega
    · have := a.wi; have := b.wi
      simp only [widAll, List.length_cons, Nat.succ_mul]
      omega
theorem Sz.int {i : Int} (h : i.natAbs.log2 < 1920) : Sz (.int i) 0 1922 := ⟨rfl, by simp [PyData.showable, h], Nat.le_refl _, Nat.le_refl _, rfl⟩
theorem log_lt {i : Int} (h : -(2 ^ 1900) ≤ i ∧ i ≤ 2 ^ 1900) : i.natAbs.log2 < 1920 := by
  have h1 : i.natAbs ≤ 2 ^ 1900 := by
    have e : ((2 ^ 1900 : Nat) : Int) = 2 ^ 1900 := by norm_cast
    omega
  by_cases h0 : i.natAbs = 0
  · rw [h0]; decide
  · have := (Nat.log2_lt h0 (k := 1901)).mpr (Nat.lt_of_le_of_lt h1 (Nat.pow_lt_pow_right (by decide) (by decide)))
    omega
theorem Sz.int' {i : Int} (h : -(2 ^ 100) ≤ i ∧ i ≤ 2 ^ 100) : Sz (.int i) 0 1922 := Sz.int (log_lt ⟨by
    have : (2 : Int) ^ 100 ≤ 2 ^ 1900 := by decide +kernel
    omega, by
    have : (2 : Int) ^ 100 ≤ 2 ^ 1900 := by decide +kernel
    omega⟩)
theorem Sz.mono {d : PyData} {a b a' b' : Nat} (h : Sz d a b) (ha : a ≤ a') (hb : b ≤ b') : Sz d a' b' := ⟨h.nd, h.sh, Nat.le_trans h.de ha, Nat.le_trans h.wi hb, h.ly⟩
theorem Sz.tup {xs : List PyData} {dp wd n : Nat} (h : ∀ x ∈ xs, Sz x dp wd) (hn : xs.length ≤ n) : Sz (.tuple xs) (dp + 1) (4 + n * (wd + 2)) := by
  have b := szA h
  have hm : xs.length * (wd + 2) ≤ n * (wd + 2) := Nat.mul_le_mul_right _ hn
  exact ⟨by simp [PyData.hasDict, b.nd], by simp [PyData.showable, b.sh], by simp only [PyData.depth]; have := b.de; omega, by simp only [wid]; have := b.wi; omega, by simp [PyData.canLay0, b.ly]⟩
theorem Sz.lst {xs : List PyData} {dp wd n : Nat} (h : ∀ x ∈ xs, Sz x dp wd) (hn : xs.length ≤ n) : Sz (.list xs) (dp + 1) (4 + n * (wd + 2)) := by
  have b := szA h
  have hm : xs.length * (wd + 2) ≤ n * (wd + 2) := Nat.mul_le_mul_right _ hn
  exact ⟨by simp [PyData.hasDict, b.nd], by simp [PyData.showable, b.sh], by simp only [PyData.depth]; have := b.de; omega, by simp only [wid]; have := b.wi; omega, by simp [PyData.canLay0, b.ly]⟩
theorem Sz.pair {x y : PyData} {dp wd : Nat} (hx : Sz x dp wd) (hy : Sz y dp wd) : Sz (.tuple [x, y]) (dp + 1) (4 + 2 * (wd + 2)) := Sz.tup (fun z hz => by
  rcases List.mem_cons.mp hz with rfl | hz
  · exact hx
  · rcases List.mem_cons.mp hz with rfl | hz
    · exact hy
    · cases hz) (by simp)
theorem Sz.shows {d : PyData} {dp wd : Nat} (h : Sz d dp wd) (h1 : dp ≤ 30) (h2 : wd ≤ 16000000) : Shows d := ⟨h.nd, h.sh, by
  have := shown_le d h.nd h.sh
  have := h.wi
  rw [sizeLine_eq]; omega, Nat.le_trans h.de h1⟩
theorem Sz.shaped {d : PyData} {dp wd : Nat} (h : Sz d dp wd) (h1 : dp ≤ 64 := by decide) : SeqAt.shaped d = true := by
  unfold SeqAt.shaped
  rw [h.ly, Bool.true_and]
  exact decide_eq_true (Nat.le_trans h.de h1)
theorem shaped_ints (ns : List Int) : SeqAt.shaped (.list (ns.map PyData.int)) = true := by
  have h1 : ∀ ns : List Int, PyData.canLayAll0 (ns.map PyData.int) = true := fun ns => by
    induction ns with
    | nil => rfl
    | cons n ns ih => simp [PyData.canLayAll0, PyData.canLay0, ih]
  have h2 : ∀ ns : List Int, PyData.depthAll (ns.map PyData.int) = 0 := fun ns => by
    induction ns with
    | nil => rfl
    | cons n ns ih => simp [PyData.depthAll, PyData.depth, ih]
  unfold SeqAt.shaped
  simp [PyData.canLay0, PyData.depth, h1, h2]
theorem shaped_int (i : Int) : SeqAt.shaped (.int i) = true := by simp [SeqAt.shaped, PyData.canLay0, PyData.depth]
theorem any_ints (ns : List Int) (i : Int) : ((ns.map PyData.int).any fun z => PyData.eqv z (.int i)) = decide (i ∈ ns) := by
  induction ns with
  | nil => simp
  | cons n ns ih =>
    simp only [List.map_cons, List.any_cons, ih, PyData.eqv, List.mem_cons]
    by_cases h : n = i
    · subst h; simp
    · have h' : ¬ i = n := fun z => h z.symm
      simp [h, h']
theorem mem_range_int {n : Nat} {d : PyData} {lo : Int} : d ∈ rangeD lo n ↔ ∃ i : Nat, i < n ∧ d = .int (lo + (i : Nat)) := by
  unfold rangeD
  simp only [List.mem_map, List.mem_range]
  constructor
  · rintro ⟨i, h, rfl⟩; exact ⟨i, h, rfl⟩
  · rintro ⟨i, h, rfl⟩; exact ⟨i, h, rfl⟩
end DL
local macro_rules | `(tactic| walk_at "lim") => `(tactic| first | omega | (simp only [PySem.sizeLine_eq, List.length_reverse, List.length_append, List.length_map, List.length_cons, List.length_nil]; omega) | decide | decide +kernel)
namespace DL
open PySem PySem.Spec L2
theorem if_dec {p : Prop} [Decidable p] {A B : Prop} (h1 : p → A) (h2 : ¬ p → B) : (decide p = true → A) ∧ (decide p = false → B) := ⟨fun h => h1 (of_decide_eq_true h), fun h => h2 (of_decide_eq_false h)⟩
theorem for_ind {g : MG} {b : MS} {ex : XD} {E : DEnds} (I : List PyData → Env → Prop) (h0 : ∀ δ, I [] δ → E.nx δ)
    (hs : ∀ d ds δ (K : Env → Prop), I (d :: ds) δ → (∀ δ', I ds δ' → K δ') → g (.d d) δ fun δ' => b ex { nx := K, ct := K, bk := E.nx, rt := E.rt, ro := E.ro } δ') : ∀ ds δ, I ds δ → forRun g b ex E ds δ
  | [], δ, h => h0 δ h
  | d :: ds, δ, h => hs d ds δ _ h fun δ' h' => for_ind I h0 hs ds δ' h'
theorem for_at {g : MG} {b : MS} {ex : XD} {E : DEnds} {ds : List PyData} {δ : Env} (I : Nat → Env → Prop) (hi : I 0 δ) (h0 : ∀ δ, I ds.length δ → E.nx δ)
    (hs : ∀ k d δ (K : Env → Prop), ds[k]? = some d → I k δ → (∀ δ', I (k + 1) δ' → K δ') → g (.d d) δ fun δ' => b ex { nx := K, ct := K, bk := E.nx, rt := E.rt, ro := E.ro } δ') : forRun g b ex E ds δ := by
  refine for_ind (fun l δ => ∃ k, k ≤ ds.length ∧ l = ds.drop k ∧ I k δ) (fun δ ⟨k, hk, e, h⟩ => ?_) (fun d l δ K ⟨k, hk, e, h⟩ hK => ?_) ds δ ⟨0, Nat.zero_le _, rfl, hi⟩
  · have : ds.length ≤ k := by
      have := congrArg List.length e
      simp at this
      omega
    have hk' : k = ds.length := by omega
    subst hk'
    exact h0 δ h
  · have hlt : k < ds.length := by
      have := congrArg List.length e
      simp at this
      omega
    have hd : ds[k]? = some d := by
      have : (ds.drop k)[0]? = some d := by rw [← e]; rfl
      simpa using this
    refine hs k d δ K hd h fun δ' h' => hK δ' ⟨k + 1, hlt, ?_, h'⟩
    have := drop_cons hd
    rw [this] at e
    exact (List.cons.inj e).2
theorem for_range {g : MG} {b : MS} {ex : XD} {E : DEnds} {lo : Int} {n : Nat} {δ : Env} (I : Nat → Env → Prop) (hi : I 0 δ) (h0 : ∀ δ, I n δ → E.nx δ)
    (hs : ∀ k δ (K : Env → Prop), k < n → I k δ → (∀ δ', I (k + 1) δ' → K δ') → g (.d (.int (lo + (k : Nat)))) δ fun δ' => b ex { nx := K, ct := K, bk := E.nx, rt := E.rt, ro := E.ro } δ') : forRun g b ex E (rangeD lo n) δ := by
  refine for_at I hi (fun δ h => h0 δ (by rwa [rangeD_len] at h)) fun k d δ K hd h hK => ?_
  rw [rangeD_get] at hd
  split at hd
  · rename_i hk
    cases hd
    exact hs k δ K hk h hK
  · cases hd
theorem for_down {g : MG} {b : MS} {ex : XD} {E : DEnds} {lo : Int} {n : Nat} {δ : Env} (I : Nat → Env → Prop) (hi : I 0 δ) (h0 : ∀ δ, I n δ → E.nx δ)
    (hs : ∀ k δ (K : Env → Prop), k < n → I k δ → (∀ δ', I (k + 1) δ' → K δ') → g (.d (.int (lo - (k : Nat)))) δ fun δ' => b ex { nx := K, ct := K, bk := E.nx, rt := E.rt, ro := E.ro } δ') : forRun g b ex E (downD lo n) δ := by
  refine for_at I hi (fun δ h => h0 δ (by rwa [downD_len] at h)) fun k d δ K hd h hK => ?_
  rw [downD_get] at hd
  split at hd
  · rename_i hk
    cases hd
    exact hs k δ K hk h hK
  · cases hd
theorem lc_ind {g : MG} {tt : MT} {te : ME} {δ : Env} {R : DV → Prop} (out : PyData → Option PyData) : ∀ (ds acc : List PyData),
    (∀ d ∈ ds, ∀ (K1 : PyData → Prop) (K0 : Prop), (∀ z, out d = some z → K1 z) → (out d = none → K0) → g (.d d) δ fun δ' => tt ex0 δ' fun c => (c = true → te ex0 δ' fun y => match y.val with
      | some z => K1 z
      | none => False) ∧ (c = false → K0)) → acc.length + ds.length ≤ sizeLine → R (.own (acc ++ ds.filterMap out)) → lcRun g tt te δ R ds acc
  | [], acc, _, _, h => by
    unfold lcRun
    simpa using h
  | d :: ds, acc, hs, hz, h => by
    unfold lcRun
    rw [List.length_cons] at hz
    refine hs d (by simp) (fun z => acc.length < sizeLine ∧ lcRun g tt te δ R ds (acc ++ [z])) (lcRun g tt te δ R ds acc) (fun z e => ⟨by omega, ?_⟩) fun e => ?_
    · refine lc_ind out ds (acc ++ [z]) (fun d' hd' => hs d' (by simp [hd'])) (by simp; omega) ?_
      simpa [List.filterMap_cons, e] using h
    · refine lc_ind out ds acc (fun d' hd' => hs d' (by simp [hd'])) (by omega) ?_
      simpa [List.filterMap_cons, e] using h
end DL
namespace DL
open PySem PySem.Spec L2
abbrev SRow := List (Int × Int)
def stD (p : Int × Int) : PyData := .tuple [.int p.1, .int p.2]
def rowD (l : SRow) : PyData := .tuple (l.map stD)
def pl (l : SRow) (i : Nat) : Int := (l.getD i (0, 0)).1
def ht (l : SRow) (i : Nat) : Int := (l.getD i (0, 0)).2
theorem atI_row {l : SRow} {i : Int} (k : Nat) (h : i = (k : Nat)) (hk : k < l.length) : atI (l.map stD) i = some (.tuple [.int (pl l k), .int (ht l k)]) := by
  subst h
  refine atI_nat ?_
  rw [List.getElem?_map, List.getElem?_eq_getElem hk]
  unfold pl ht
  rw [List.getD_eq_getElem?_getD, List.getElem?_eq_getElem hk]
  rfl
theorem atI_map {α : Type} {f : α → PyData} {l : List α} {i : Int} (k : Nat) {x : α} (h : i = (k : Nat)) (hx : l[k]? = some x) : atI (l.map f) i = some (f x) := by
  subst h
  refine atI_nat ?_
  rw [List.getElem?_map, hx]
  rfl
theorem atI_end {α : Type} {f : α → PyData} {l : List α} {x : α} (hx : l[l.length - 1]? = some x) : atI (l.map f) (-1) = some (f x) := by
  have h0 : l.length - 1 < l.length := (List.getElem?_eq_some_iff.mp hx).1
  unfold atI ixN
  rw [if_neg (by decide), if_pos (by rw [List.length_map]; omega)]
  show (l.map f)[((-1 : Int) + ((l.map f).length : Nat)).toNat]? = _
  have e : ((-1 : Int) + ((l.map f).length : Nat)).toNat = l.length - 1 := by rw [List.length_map]; omega
  rw [e, List.getElem?_map, hx]
  rfl
structure Inc (l : SRow) : Prop where
  n0 : 0 < l.length
  n1 : l.length ≤ 1000
  inc : ∀ i j, i < j → j < l.length → pl l i < pl l j
  hp : ∀ i, i < l.length → 0 ≤ ht l i
structure IsEnd (l : SRow) (s m : Nat) : Prop where
  le : s ≤ m
  lt : m < l.length
  ch : ∀ j, s < j → j ≤ m → ∃ k, s ≤ k ∧ k < j ∧ pl l j ≤ pl l k + ht l k
  st : m + 1 < l.length → ∀ k, s ≤ k → k ≤ m → pl l k + ht l k < pl l (m + 1)
theorem IsEnd.uniq {l : SRow} {s m k : Nat} (h1 : IsEnd l s m) (h2 : IsEnd l s k) : m = k := by
  rcases Nat.lt_trichotomy m k with h | h | h
  · obtain ⟨j, a, b, c⟩ := h2.ch (m + 1) (by have := h1.le; omega) (by omega)
    have := h1.st (by have := h2.lt; omega) j a (by omega)
    omega
  · exact h
  · obtain ⟨j, a, b, c⟩ := h1.ch (k + 1) (by have := h2.le; omega) (by omega)
    have := h2.st (by have := h1.lt; omega) j a (by omega)
    omega
structure Seek (l : SRow) (s m : Nat) : Prop where
  le : s ≤ m
  lt : m < l.length
  ch : ∀ j, s < j → j ≤ m → ∃ k, s ≤ k ∧ k < j ∧ pl l j ≤ pl l k + ht l k
  st : m + 1 < l.length → ∀ k, s < k → k ≤ m → pl l k + ht l k < pl l (m + 1)
theorem Seek.start {l : SRow} {s : Nat} (h : s < l.length) : Seek l s s := ⟨Nat.le_refl _, h, fun j a b => by omega, fun _ k a b => by omega⟩
theorem Seek.step {l : SRow} (I : Inc l) {s m e : Nat} (h : Seek l s m) (hr : pl l (m + 1) ≤ pl l s + ht l s) (he : IsEnd l (m + 1) e) : Seek l s e := by
  refine ⟨by have := h.le; have := he.le; omega, he.lt, fun j a b => ?_, fun hn k a b => ?_⟩
  · rcases Nat.lt_trichotomy j (m + 1) with q | q | q
    · exact h.ch j a (by omega)
    · exact ⟨s, Nat.le_refl _, a, by rw [q]; exact hr⟩
    · obtain ⟨k, x, y, z⟩ := he.ch j q b
      exact ⟨k, by have := h.le; omega, y, z⟩
  · rcases Nat.lt_or_ge m k with q | q
    · exact he.st hn k (by omega) b
    · have h1 := h.st (by have := he.le; omega) k a q
      have h2 : pl l (m + 1) < pl l (e + 1) := I.inc _ _ (by have := he.le; omega) hn
      omega
theorem Seek.done {l : SRow} {s m : Nat} (h : Seek l s m) (hs : m + 1 < l.length → pl l s + ht l s < pl l (m + 1)) : IsEnd l s m :=
  ⟨h.le, h.lt, h.ch, fun hn k a b => by
    rcases Nat.lt_or_ge s k with q | q
    · exact h.st hn k q b
    · have : k = s := by omega
      rw [this]; exact hs hn⟩
structure AllEnds (l : SRow) (fs : List Nat) : Prop where
  len : fs.length = l.length
  at_ : ∀ s m, fs[s]? = some m → IsEnd l s m
def natD (n : Nat) : PyData := .int (n : Nat)
theorem seek_end {l : SRow} (I : Inc l) {s : Nat} (ih : ∀ t, s < t → t < l.length → ∃ e, IsEnd l t e) : ∀ (d m : Nat), l.length - m ≤ d → Seek l s m → ∃ e, IsEnd l s e
  | 0, m, hd, h => by have := h.lt; omega
  | d + 1, m, hd, h => by
    have hm := h.lt
    have hle := h.le
    by_cases c : m + 1 < l.length ∧ pl l (m + 1) ≤ pl l s + ht l s
    · obtain ⟨e, he⟩ := ih (m + 1) (by omega) c.1
      exact seek_end I ih d e (by have := he.le; omega) (h.step I c.2 he)
    · exact ⟨m, h.done fun hn => by
        rcases Int.lt_or_le (pl l s + ht l s) (pl l (m + 1)) with q | q
        · exact q
        · exact absurd ⟨hn, q⟩ c⟩
theorem end_ex {l : SRow} (I : Inc l) : ∀ (d s : Nat), l.length - s ≤ d → s < l.length → ∃ e, IsEnd l s e
  | 0, s, hd, h => by omega
  | d + 1, s, hd, h => seek_end I (fun t h1 h2 => end_ex I d t (by omega) h2) _ s (Nat.le_refl _) (Seek.start h)
open Classical in
noncomputable def endOf (l : SRow) (s : Nat) : Nat := if h : ∃ e, IsEnd l s e then h.choose else 0
theorem endOf_ok {l : SRow} (I : Inc l) {s : Nat} (h : s < l.length) : IsEnd l s (endOf l s) := by
  have hx := end_ex I _ s (Nat.le_refl _) h
  unfold endOf
  rw [dif_pos hx]
  exact hx.choose_spec
noncomputable def ends (l : SRow) : List Nat := (List.range l.length).map (endOf l)
theorem ends_len {l : SRow} : (ends l).length = l.length := by unfold ends; simp
theorem ends_get {l : SRow} {s : Nat} (h : s < l.length) : (ends l)[s]? = some (endOf l s) := by
  unfold ends
  rw [List.getElem?_map, List.getElem?_range h]
  rfl
theorem AllEnds.eq {l : SRow} {fs : List Nat} (I : Inc l) (h : AllEnds l fs) : fs = ends l := by
  apply List.ext_getElem?
  intro s
  rcases Nat.lt_or_ge s l.length with q | q
  · have e := List.getElem?_eq_getElem (l := fs) (i := s) (by rw [h.len]; exact q)
    rw [ends_get q, e, (h.at_ s _ e).uniq (endOf_ok I q)]
  · rw [List.getElem?_eq_none (by rw [h.len]; exact q), List.getElem?_eq_none (by rw [ends_len]; exact q)]
def mirror (l : SRow) : SRow := l.reverse.map fun p => (pl l 0 + pl l (l.length - 1) - p.1, p.2)
theorem mirror_len (l : SRow) : (mirror l).length = l.length := by unfold mirror; simp
theorem mirror_get {l : SRow} {i : Nat} (h : i < l.length) : (mirror l)[i]? = some (pl l 0 + pl l (l.length - 1) - pl l (l.length - 1 - i), ht l (l.length - 1 - i)) := by
  unfold mirror
  have h2 : l.length - 1 - i < l.length := by omega
  rw [List.getElem?_map, List.getElem?_reverse h, List.getElem?_eq_getElem h2]
  unfold pl ht
  rw [List.getD_eq_getElem?_getD (i := l.length - 1 - i), List.getElem?_eq_getElem h2]
  rfl
theorem mirror_pl {l : SRow} {i : Nat} (h : i < l.length) : pl (mirror l) i = pl l 0 + pl l (l.length - 1) - pl l (l.length - 1 - i) := by
  show ((mirror l).getD i (0, 0)).1 = _
  rw [List.getD_eq_getElem?_getD, mirror_get h]
  rfl
theorem mirror_ht {l : SRow} {i : Nat} (h : i < l.length) : ht (mirror l) i = ht l (l.length - 1 - i) := by
  show ((mirror l).getD i (0, 0)).2 = _
  rw [List.getD_eq_getElem?_getD, mirror_get h]
  rfl
theorem Inc.mirror {l : SRow} (I : Inc l) : Inc (mirror l) := by
  have hn0 := I.n0
  refine ⟨by rw [mirror_len]; exact I.n0, by rw [mirror_len]; exact I.n1, fun i j hij hj => ?_, fun i hi => ?_⟩
  · rw [mirror_len] at hj
    rw [mirror_pl (by omega), mirror_pl hj]
    have := I.inc (l.length - 1 - j) (l.length - 1 - i) (by omega) (by omega)
    omega
  · rw [mirror_len] at hi
    rw [mirror_ht hi]
    exact I.hp _ (by omega)
structure IsStart (l : SRow) (s m : Nat) : Prop where
  le : m ≤ s
  lt : s < l.length
  ch : ∀ j, m ≤ j → j < s → ∃ k, j < k ∧ k ≤ s ∧ pl l k - ht l k ≤ pl l j
  st : 0 < m → ∀ k, m ≤ k → k ≤ s → pl l (m - 1) < pl l k - ht l k
theorem IsStart.of {l : SRow} {s e : Nat} (hs : s < l.length) (h : IsEnd (mirror l) (l.length - 1 - s) e) : IsStart l s (l.length - 1 - e) := by
  have h1 := h.le
  have h2 := h.lt
  rw [mirror_len] at h2
  refine ⟨by omega, hs, fun j a b => ?_, fun hm k a b => ?_⟩
  · obtain ⟨k, x, y, z⟩ := h.ch (l.length - 1 - j) (by omega) (by omega)
    rw [mirror_pl (by omega), mirror_pl (by omega), mirror_ht (by omega)] at z
    refine ⟨l.length - 1 - k, by omega, by omega, ?_⟩
    have e1 : l.length - 1 - (l.length - 1 - j) = j := by omega
    rw [e1] at z
    omega
  · have := h.st (by rw [mirror_len]; omega) (l.length - 1 - k) (by omega) (by omega)
    rw [mirror_pl (by omega), mirror_pl (by omega), mirror_ht (by omega)] at this
    have e1 : l.length - 1 - (l.length - 1 - k) = k := by omega
    have e2 : l.length - 1 - (e + 1) = l.length - 1 - e - 1 := by omega
    rw [e1, e2] at this
    omega
noncomputable def startOf (l : SRow) (s : Nat) : Nat := l.length - 1 - endOf (mirror l) (l.length - 1 - s)
theorem startOf_ok {l : SRow} (I : Inc l) {s : Nat} (h : s < l.length) : IsStart l s (startOf l s) := by
  have hn := I.n0
  exact IsStart.of h (endOf_ok I.mirror (by rw [mirror_len]; omega))
def Hit (l : SRow) (rt : Bool) (k j : Nat) : Prop := if rt then pl l k < pl l j ∧ pl l j ≤ pl l k + ht l k else pl l k - ht l k ≤ pl l j ∧ pl l j < pl l k
def Falls (l : SRow) (rt : Bool) (s lo hi : Nat) : Prop := if rt then lo = s ∧ IsEnd l s hi else hi = s ∧ IsStart l s lo
theorem Inc.lt_of {l : SRow} (I : Inc l) {i j : Nat} (hi : i < l.length) (hj : j < l.length) (h : pl l i < pl l j) : i < j := by
  rcases Nat.lt_trichotomy i j with q | q | q
  · exact q
  · subst q; omega
  · have := I.inc _ _ q hi; omega
theorem Falls.bd {l : SRow} {rt : Bool} {s lo hi : Nat} (h : Falls l rt s lo hi) : lo ≤ s ∧ s ≤ hi ∧ hi < l.length := by
  unfold Falls at h
  cases rt with
  | true => rw [if_pos rfl] at h; obtain ⟨rfl, h⟩ := h; exact ⟨Nat.le_refl _, h.le, h.lt⟩
  | false => rw [if_neg (by decide)] at h; obtain ⟨rfl, h⟩ := h; exact ⟨h.le, Nat.le_refl _, h.lt⟩
theorem Falls.hit {l : SRow} (I : Inc l) {rt : Bool} {s lo hi k j : Nat} (h : Falls l rt s lo hi) (h1 : lo ≤ k) (h2 : k ≤ hi) (hj : j < l.length) (hh : Hit l rt k j) : lo ≤ j ∧ j ≤ hi := by
  have hb := h.bd
  unfold Falls at h
  unfold Hit at hh
  cases rt with
  | true =>
    rw [if_pos rfl] at h hh
    obtain ⟨rfl, h⟩ := h
    have hkj := I.lt_of (by omega) hj hh.1
    refine ⟨by omega, ?_⟩
    rcases Nat.lt_or_ge hi j with q | q
    · have h3 := h.st (by omega) k h1 h2
      rcases Nat.lt_or_ge (hi + 1) j with q' | q'
      · have := I.inc _ _ q' hj; omega
      · have : j = hi + 1 := by omega
        subst this; omega
    · exact q
  | false =>
    rw [if_neg (by decide)] at h hh
    obtain ⟨rfl, h⟩ := h
    have hkj := I.lt_of hj (by omega) hh.2
    refine ⟨?_, by omega⟩
    rcases Nat.lt_or_ge j lo with q | q
    · have h3 := h.st (by omega) k h1 h2
      rcases Nat.lt_or_ge j (lo - 1) with q' | q'
      · have := I.inc _ _ q' (by omega); omega
      · have : j = lo - 1 := by omega
        subst this; omega
    · exact q
theorem Falls.all {l : SRow} (I : Inc l) {rt : Bool} {s lo hi : Nat} (h : Falls l rt s lo hi) (P : Nat → Prop) (hs : P s) (hc : ∀ k, lo ≤ k → k ≤ hi → P k → ∀ j, j < l.length → Hit l rt k j → P j) : ∀ j, lo ≤ j → j ≤ hi → P j := by
  have hb := h.bd
  unfold Falls at h
  cases rt with
  | true =>
    rw [if_pos rfl] at h
    obtain ⟨rfl, h⟩ := h
    intro j
    induction j using Nat.strongRecOn with
    | _ j ih =>
      intro h1 h2
      rcases Nat.lt_or_ge lo j with q | q
      · obtain ⟨k, a, b, c⟩ := h.ch j q h2
        refine hc k a (by omega) (ih k b a (by omega)) j (by omega) ?_
        unfold Hit
        rw [if_pos rfl]
        exact ⟨I.inc _ _ b (by omega), c⟩
      · have : j = lo := by omega
        subst this; exact hs
  | false =>
    rw [if_neg (by decide)] at h
    obtain ⟨rfl, h⟩ := h
    have key : ∀ d j, hi - j ≤ d → lo ≤ j → j ≤ hi → P j := by
      intro d
      induction d with
      | zero => intro j h0 h1 h2; have : j = hi := by omega
                subst this; exact hs
      | succ d ih =>
        intro j h0 h1 h2
        rcases Nat.lt_or_ge j hi with q | q
        · obtain ⟨k, a, b, c⟩ := h.ch j h1 q
          refine hc k (by omega) b (ih k (by omega) (by omega) b) j (by omega) ?_
          unfold Hit
          rw [if_neg (by decide)]
          exact ⟨c, I.inc _ _ a (by omega)⟩
        · have : j = hi := by omega
          subst this; exact hs
    exact fun j h1 h2 => key _ j (Nat.le_refl _) h1 h2
end DL
namespace PySem.W
open PySem PySem.Spec PySem.Calls PyProof.Rows
structure EClass (K : Frag) (D : Addr) : Prop where
  e1 : findIn K (.ref D) "__getattribute__" = some (some (.builtin "BaseException.__getattribute__"))
  e2 : findIn K (.ref D) "__getattr__" = some none
  e3 : subIn K (.ref D) (.type "BaseException") = some true
  e4 : hasDictIn K D = true
  e5 : findIn K (.ref D) "__class__" = some (some (.builtin "object.__class__"))
  e6 : specialIn K (.builtin "object.__class__") "__get__" = some (some (.builtin "getset_descriptor.__get__"))
  e7 : takesIn K (.builtin "object.__class__") = some true
  e8 : mroIn K D (.type "object") = some true
theorem EClass.isc {K : Frag} {D : Addr} (T : EClass K D) : (clsIn K D).isSome = true := by
  obtain ⟨cd, hc, _⟩ := any_some T.e4
  rw [hc]; rfl
theorem EClass.found {K : Frag} {D : Addr} (T : EClass K D) (od : Option Obj) : findObj K D od "__class__" = some (.bind (.builtin "getset_descriptor.__get__") (.builtin "object.__class__")) := by
  obtain ⟨cd, q⟩ := Option.isSome_iff_exists.mp T.isc
  unfold findObj
  rw [q, Option.bind_some, T.e5, Option.bind_some]
  simp [T.e6, T.e7]
end PySem.W
namespace DL
open PySem PySem.Spec L2 PySem.W
def clsA (mg : Str → Option Value) (x : Str) : Addr := match mg x with
  | some (.ref C) => C
  | _ => 0
theorem clsA_of {mg : Str → Option Value} {x : Str} {C : Addr} (h : mg x = some (.ref C)) : clsA mg x = C := by
  unfold clsA
  rw [h]
def AllS (p : Str → Prop) : List Str → Prop
  | [] => True
  | x :: xs => p x ∧ AllS p xs
theorem AllS.get {p : Str → Prop} : ∀ {l : List Str} {x : Str}, AllS p l → x ∈ l → p x
  | [], _, _, h => by cases h
  | y :: ys, x, h, hm => by
    rcases List.mem_cons.mp hm with rfl | q
    · exact h.1
    · exact AllS.get h.2 q
structure XTab (K : Frag) (mg : Str → Option Value) (L M fs : List Str) (sub : Str → Str → Bool) : Prop where
  ml : AllS (fun x => mg x = some (.ref (clsA mg x))) L
  mm : AllS (fun y => mg y = some (.ref (clsA mg y))) M
  ec : AllS (fun x => EClass K (clsA mg x)) L
  no : AllS (fun x => AllS (fun f => findIn K (.ref (clsA mg x)) f = some none) fs) L
  kt : AllS (fun x => AllS (fun y => kitOne K (.ref (clsA mg x)) (.ref (clsA mg y)) = some (sub x y)) M) L
  kv : AllS (fun x => kitOne K (.ref (clsA mg x)) (.type "ValueError") = some true) L
section
variable {u u1 u2 : Nat} {X : Cx} {W : WC} {a C : Addr} {oe : Obj} {d : Option Addr} {pn : List (Addr × Obj)} {e : Expr} {es : List Expr} {me : ME} {mas : MA} {pos p p2 tpos : Pos} {k : Nat}
  {K' : Frag} {mg' : Str → Option Value} {L M fs Y : List Str} {sub : Str → Str → Bool}
structure DCl (X : Cx) (es : List Expr) (ys : List Str) : Prop where
  pa : PA X es fun _ H Q => Q (ys.map fun y => V.ref (clsA X.mg y)) H
def spInit (K : Frag) (C : Addr) (f : Str) : Sp := fun vs H Q _ => ∃ a y, vs = [.ref a, y] ∧ H a = some (exo a C none) ∧ ∀ dx, H dx = none → dx ≠ a → Q .non (upd (upd H dx (exd dx [(f, y)])) a (exo a C (some dx)))
theorem init_read {K : Frag} {C : Addr} {N : List Str} {f : Str} {vs : List V} {H : Hp} {Q : VK} {E : XK} (hO : OexC K C) (hno : findIn K (.ref C) f = some none) (hN : N.length = 2) (h : spInit K C f vs H Q E) : tOst K f (tVar 0) (tVar 1) { nx := fun _ H' => Q .non H', rt := Q } (L2.start N vs) H := by
  obtain ⟨a, y, rfl, ha, hQ⟩ := h
  exact ⟨y, rfl, .ref a, rfl, a, C, rfl, hO, hno, .inl ⟨ha, fun dx n ne => hQ dx n ne⟩⟩
structure XMk (P : Program) (w : World) (K : Frag) (mg : Str → Option Value) (base : Heap) (x f : Str) : Prop where
  ex : ∃ C fI fd ps, mg x = some (.ref C) ∧ OexC K C ∧ findIn K (.ref C) "__init__" = some (some (.ref fI)) ∧ typeIn K (.ref fI) = some (.type "function") ∧ FnOk P w K mg base L2.CX0 1 fI fd ps (spInit K C f) ∧ Binds K fd ps []
def mRaise1 (x f : Str) (t : MA) : MS := fun ex E δ => t ex δ fun xs => match argsD xs with
  | some [.d y] => ex ⟨x, some (f, y)⟩ δ
  | _ => False
theorem ds_raise1 {x f : Str} (c : Ctx X W k) (M : XMk X.prog X.w X.K X.mg X.base x f) (hk : 2 ≤ k) (hc : X.calm = true) (hg : Gl X x) (ha : DA X W [e] mas u) (hdb : (x == ("__debug__" : Str)) = false := by decide)
    (he : starEach [e] X.env = (false, eval e X.env) :: starEach [] X.env := by rfl) (hpl : (backTo pos (starEach [] X.env)).any (·.1) = false := by rfl) : DS X W (.Raise (some (.Call (.Name x p) [e] [] pos)) none p2) (mRaise1 x f mas) u := by
  obtain ⟨C, fI, fd, ps, hm, hO, iC, tI, F1, hb⟩ := M.ex
  refine ⟨PS.imp (ps_raise hc c.tk (pmk_oex hO iC tI F1 (c.hr.mono hk) hb .nil L2.pass0 hg hm ha.pa hdb he hpl)) ?_⟩
  rintro D σ H ⟨ex, G, F, δ, τ, ts, E, n, nb, eo, m⟩
  refine ⟨ex, G, F, δ, τ, ts, [], [], _, n, m, fun xs hxs vs F1 H1 hl g1 => ?_⟩
  split at hxs
  · rename_i y ea
    obtain ⟨F2, s2, g2⟩ := fix_args xs g1 ea
    have hlen := (argsD_arg ea).1
    have hl1 : [DV.d y].length = vs.length := hlen.trans hl
    obtain ⟨v, rfl, hv, g3⟩ := one_of hl1 g2
    have hat : At G.K F2 v y := hv
    refine ⟨by show 1 ≤ 1000; decide, fun a na => ⟨a, v, rfl, upd_same, fun dx ndx ne => ⟨rfl, dx, [(f, v)], upd_same, by rw [upd_ne ne]; exact upd_same, by rw [upd_ne ne] at ndx; exact ndx, ?_⟩⟩⟩
    rw [upd_ne ne] at ndx
    have eH : upd (del (upd (upd (upd H1 a (exo a C none)) dx (exd dx [(f, v)])) a (exo a C (some dx))) a) dx (.xd [(f, v)]) = upd H1 dx (.xd [(f, v)]) := by
      funext b
      by_cases hbd : b = dx
      · rw [hbd, upd_same, upd_same]
      · rw [upd_ne hbd, upd_ne hbd]
        by_cases hba : b = a
        · rw [hba, del_same, na]
        · rw [del_ne hba, upd_ne hba, upd_ne hbd, upd_ne hba]
    rw [eH]
    have fdx : F2 dx = none := by
      cases q : F2 dx with
      | none => rfl
      | some o => rw [g3.fh _ _ q] at ndx; cases ndx
    have g4 := g3.grow (o := .xd [(f, v)]) ndx
    have hs : Same F2 (upd F2 dx (.xd [(f, v)])) := fun b o q => by rw [upd_ne (ne_of_none q fdx)]; exact q
    refine n.link u _ δ σ _ [] [] ⟨x, some (f, y)⟩ (.ref C) (some dx) (Nat.le_refl _) n.l1 (by simpa using g4) ⟨C, hm, rfl, dx, v, rfl, upd_same, ?_⟩ hxs
    rw [← n.k]
    exact At.mono hs _ _ hat
  · exact hxs.elim
structure XEx (K : Frag) (mg : Str → Option Value) (L : List Str) (sub : Str → Str → Bool) (x : Str) : Prop where
  m : mg x = some (.ref (clsA mg x))
  e : AllS (fun y => exmOne K (.ref (clsA mg y)) (.ref (clsA mg x)) = some (sub y x)) L
end
end DL
namespace DL
open PySem PySem.Spec L2 PySem.W
theorem foldl_max {n : Int} : ∀ {ns : List Int}, (ns.foldl max n = n ∨ ns.foldl max n ∈ ns) ∧ n ≤ ns.foldl max n ∧ ∀ y ∈ ns, y ≤ ns.foldl max n := by
  intro ns
  induction ns generalizing n with
  | nil => exact ⟨.inl rfl, Int.le_refl _, fun y h => by cases h⟩
  | cons a r ih =>
    rw [List.foldl_cons]
    obtain ⟨h1, h2, h3⟩ := ih (n := max n a)
    refine ⟨?_, by omega, fun y hy => ?_⟩
    · rcases h1 with h1 | h1
      · rcases Int.le_total a n with q | q
        · left; rw [h1]; omega
        · right; rw [h1]; have : max n a = a := by omega
          rw [this]; exact List.mem_cons_self
      · right; exact List.mem_cons_of_mem _ h1
    · rcases List.mem_cons.mp hy with rfl | hy
      · omega
      · exact h3 y hy
theorem alike_ints (ns : List Int) : AlikeAll (ns.map PyData.int) := by
  refine ⟨fun x hx y hy => ?_, fun x hx => ?_⟩
  · obtain ⟨a, _, rfl⟩ := List.mem_map.mp hx
    obtain ⟨b, _, rfl⟩ := List.mem_map.mp hy
    rfl
  · obtain ⟨a, _, rfl⟩ := List.mem_map.mp hx
    intro z; cases z
theorem depth_ints : ∀ ns : List Int, PyData.depthAll (ns.map PyData.int) = 0
  | [] => rfl
  | n :: ns => by simp [PyData.depthAll, PyData.depth, depth_ints ns]
theorem reads_ints {h : Heap} : ∀ {us : List Value} {ns : List Int}, Vals (ns.map V.int) us → ∃ as, ReadsAll h us (ns.map PyData.int) as
  | _, [], .nil => ⟨_, .nil⟩
  | _, n :: ns, .cons r rs => by
    obtain ⟨t, rfl⟩ := r
    obtain ⟨as, q⟩ := reads_ints rs
    exact ⟨_, .cons (.int n t) q⟩
def rMaxT (K : PySem.W.Frag) : List V → Hp → VK → Prop := fun vs H Q => ∃ (a : Addr) (n : Int) (ns : List Int), vs = [V.ref a] ∧ SqT K H a ((n :: ns).map V.int) ∧ Q (.int (ns.foldl max n)) H
section
variable {X : Cx}
theorem cr_maxT (hc : X.calm = true) (hu : X.A.units + 64 < cLine) : CallR X (.builtin "max") (rMaxT X.K) := by
  intro pins s σ H vs us Q I r h
  obtain ⟨a, n, ns, rfl, hs, q⟩ := h
  obtain ⟨its, rv, ht, _⟩ := I.tuple hs
  rw [Vals.ref1 r]
  obtain ⟨as, hr⟩ := reads_ints (h := s.heap) rv
  refine max_tuple_data (I.ok.hd hc) ht hr (alike_ints (n :: ns)) (by
    have := depth_ints (n :: ns)
    simp only [List.map_cons] at this
    omega) fun i v h' tk bs _ rd hk => ?_
  rw [maxD_ints] at rd
  cases rd
  exact ⟨.int _, H, I.kept hk, ⟨_, rfl⟩, q⟩
def rMaxA (K : PySem.W.Frag) : List V → Hp → VK → Prop := fun vs H Q => rMax K vs H Q ∨ rMaxT K vs H Q
theorem cr_maxA (hc : X.calm = true) (hu : X.A.units + 64 < cLine) : CallR X (.builtin "max") (rMaxA X.K) := by
  intro pins s σ H vs us Q I r h
  rcases h with h | h
  · exact cr_max hc pins s σ H vs us Q I r h
  · exact cr_maxT hc hu pins s σ H vs us Q I r h
def DV.seqI (x : DV) : Option (List Int) := match x.seq with
  | some ds => intsOf ds
  | none => none
def oMaxA : D1 := fun x R => match x.seqI with
  | some ns => 0 < ns.length ∧ ∀ m, m ∈ ns → (∀ y, y ∈ ns → y ≤ m) → R (.d (.int m))
  | none => False
theorem seqI_of {G : Gm} {F H : Hp} {v : V} {x : DV} {ns : List Int} (hx : VOk G F H v x) (hf : Same F H) (h : x.seqI = some ns) : ∃ l, v = .ref l ∧ (SqL G.K H l (ns.map V.int) ∨ SqT G.K H l (ns.map V.int)) := by
  unfold DV.seqI at h
  cases x with
  | d y =>
    cases y with
    | list xs =>
      have e : DV.seq (.d (.list xs)) = some xs := rfl
      rw [e] at h
      obtain ⟨l, vs, rfl, h1, h2⟩ := lst_of (xs := xs) hx hf rfl
      rw [intsOf_eq h] at h2
      rw [h2.ints] at h1
      exact ⟨l, rfl, .inl (SqL.of h1)⟩
    | tuple xs =>
      have e : DV.seq (.d (.tuple xs)) = some xs := rfl
      rw [e] at h
      obtain ⟨l, vs, rfl, h1, h2⟩ := tup_of hx hf
      rw [intsOf_eq h] at h2
      rw [h2.ints] at h1
      exact ⟨l, rfl, .inr h1⟩
    | _ => cases h
  | own xs =>
    have e : DV.seq (.own xs) = some xs := rfl
    rw [e] at h
    obtain ⟨l, vs, rfl, h1, h2⟩ := lst_of (xs := xs) hx hf rfl
    rw [intsOf_eq h] at h2
    rw [h2.ints] at h1
    exact ⟨l, rfl, .inl (SqL.of h1)⟩
  | bor xs =>
    have e : DV.seq (.bor xs) = some xs := rfl
    rw [e] at h
    obtain ⟨l, vs, rfl, h1, h2⟩ := lst_of (xs := xs) hx hf rfl
    rw [intsOf_eq h] at h2
    rw [h2.ints] at h1
    exact ⟨l, rfl, .inl (SqL.of h1)⟩
  | _ => cases h
theorem on_maxA : OpN X (rMaxA X.K) (o1 oMaxA) := on_1 fun G F δ σ H v x R Q hK g hx h k => by
  unfold oMaxA at h
  split at h
  · rename_i ns e
    obtain ⟨l, rfl, hs⟩ := seqI_of hx g.fh e
    rw [hK] at hs
    rcases hs with hs | hs
    · exact .inl ⟨l, ns, rfl, hs, h.1, fun m hm hy => k _ (h.2 m hm hy) _ F H (g.pushD (.int _))⟩
    · cases ns with
      | nil => exact absurd h.1 (Nat.lt_irrefl 0)
      | cons n ns =>
        obtain ⟨f1, f2, f3⟩ := foldl_max (n := n) (ns := ns)
        refine .inr ⟨l, n, ns, rfl, hs, k _ (h.2 _ ?_ fun y hy => ?_) _ F H (g.pushD (.int _))⟩
        · rcases f1 with f1 | f1
          · rw [f1]; exact List.mem_cons_self
          · exact List.mem_cons_of_mem _ f1
        · rcases List.mem_cons.mp hy with rfl | hy
          · exact f2
          · exact f3 y hy
  · exact h.elim
variable {W : WC} {e : Expr} {mas : MA} {u : Nat} {p pos : Pos}
theorem de_maxA (cx : CtxU X) (hc : X.calm = true) (hg : Gl X "max") (hm : X.mg "max" = none) (ha : DA X W [e] mas u) (he : starEach [e] X.env = (false, eval e X.env) :: starEach [] X.env := by rfl) (hpl : (backTo pos (starEach [] X.env)).any (·.1) = false := by rfl) :
    DE X W (.Call (.Name "max" p) [e] [] pos) (mCB (o1 oMaxA) mas) u := de_callB (cr_maxA hc cx.u64) on_maxA hg hm (by decide +kernel) ha (by decide) (by decide) he hpl
end
section
variable {xs : List PyData} {R : DV → Prop}
theorem oMaxA_t : oMaxA (.d (.tuple xs)) R = (match intsOf xs with | some ns => 0 < ns.length ∧ ∀ m, m ∈ ns → (∀ y, y ∈ ns → y ≤ m) → R (.d (.int m)) | none => False) := rfl
theorem oMaxA_l : oMaxA (.d (.list xs)) R = (match intsOf xs with | some ns => 0 < ns.length ∧ ∀ m, m ∈ ns → (∀ y, y ∈ ns → y ≤ m) → R (.d (.int m)) | none => False) := rfl
theorem oMaxA_o : oMaxA (.own xs) R = (match intsOf xs with | some ns => 0 < ns.length ∧ ∀ m, m ∈ ns → (∀ y, y ∈ ns → y ≤ m) → R (.d (.int m)) | none => False) := rfl
theorem oMaxA_b : oMaxA (.bor xs) R = (match intsOf xs with | some ns => 0 < ns.length ∧ ∀ m, m ∈ ns → (∀ y, y ∈ ns → y ≤ m) → R (.d (.int m)) | none => False) := rfl
theorem isBor_e {a C : Addr} {d : Option Addr} {er : DExc} : DV.isBor (.exc a C d er) = false := rfl
theorem seen_e {a C : Addr} {d : Option Addr} {er : DExc} : DV.seen (.exc a C d er) = .exc a C d er := rfl
end
theorem eqv_ii {a b : Int} : PyData.eqv (.int a) (.int b) = decide (a = b) := by
  simp only [PyData.eqv]
  by_cases h : a = b <;> simp [h]
theorem eqv_bb {a b : Bool} : PyData.eqv (.bool a) (.bool b) = decide (a = b) := by
  simp only [PyData.eqv]
  cases a <;> cases b <;> rfl
theorem shaped_i {i : Int} : (SeqAt.shaped (.int i) = true) = True := by simp [shaped_int]
theorem shaped_b {b : Bool} : (SeqAt.shaped (.bool b) = true) = True := by simp [SeqAt.shaped, PyData.canLay0, PyData.depth]
theorem shaped_n : (SeqAt.shaped .none = true) = True := by simp [SeqAt.shaped, PyData.canLay0, PyData.depth]
theorem shaped_nil : (SeqAt.shaped (.list []) = true) = True := by simp [SeqAt.shaped, PyData.canLay0, PyData.depth, PyData.canLayAll0, PyData.depthAll]
theorem shaped_nilt : (SeqAt.shaped (.tuple []) = true) = True := by simp [SeqAt.shaped, PyData.canLay0, PyData.depth, PyData.canLayAll0, PyData.depthAll]
theorem if_tt {α : Type} {a b : α} : (if true = true then a else b) = a := rfl
theorem if_ff {α : Type} {a b : α} : (if false = true then a else b) = b := rfl
theorem cp2 : CPow 10 2 = True := eq_true ⟨by decide, by decide, by decide⟩
theorem pw2 : (10 : Int) ^ Int.toNat 2 = 100 := by decide
theorem cp3 : CPow 10 3 = True := eq_true ⟨by decide, by decide, by decide⟩
theorem pw3 : (10 : Int) ^ Int.toNat 3 = 1000 := by decide
theorem cp4 : CPow 10 4 = True := eq_true ⟨by decide, by decide, by decide⟩
theorem pw4 : (10 : Int) ^ Int.toNat 4 = 10000 := by decide
theorem cp5 : CPow 10 5 = True := eq_true ⟨by decide, by decide, by decide⟩
theorem pw5 : (10 : Int) ^ Int.toNat 5 = 100000 := by decide
theorem cp6 : CPow 10 6 = True := eq_true ⟨by decide, by decide, by decide⟩
theorem pw6 : (10 : Int) ^ Int.toNat 6 = 1000000 := by decide
theorem cp7 : CPow 10 7 = True := eq_true ⟨by decide, by decide, by decide⟩
theorem pw7 : (10 : Int) ^ Int.toNat 7 = 10000000 := by decide
theorem cp8 : CPow 10 8 = True := eq_true ⟨by decide, by decide, by decide⟩
theorem pw8 : (10 : Int) ^ Int.toNat 8 = 100000000 := by decide
theorem cp9 : CPow 10 9 = True := eq_true ⟨by decide, by decide, by decide⟩
theorem pw9 : (10 : Int) ^ Int.toNat 9 = 1000000000 := by decide
theorem cp10 : CPow 10 10 = True := eq_true ⟨by decide, by decide, by decide⟩
theorem pw10 : (10 : Int) ^ Int.toNat 10 = 10000000000 := by decide
theorem cp11 : CPow 10 11 = True := eq_true ⟨by decide, by decide, by decide⟩
theorem pw11 : (10 : Int) ^ Int.toNat 11 = 100000000000 := by decide
theorem cp12 : CPow 10 12 = True := eq_true ⟨by decide, by decide, by decide⟩
theorem pw12 : (10 : Int) ^ Int.toNat 12 = 1000000000000 := by decide
theorem cp13 : CPow 10 13 = True := eq_true ⟨by decide, by decide, by decide⟩
theorem pw13 : (10 : Int) ^ Int.toNat 13 = 10000000000000 := by decide
theorem cp14 : CPow 10 14 = True := eq_true ⟨by decide, by decide, by decide⟩
theorem pw14 : (10 : Int) ^ Int.toNat 14 = 100000000000000 := by decide
theorem cp15 : CPow 10 15 = True := eq_true ⟨by decide, by decide, by decide⟩
theorem pw15 : (10 : Int) ^ Int.toNat 15 = 1000000000000000 := by decide
theorem cp16 : CPow 10 16 = True := eq_true ⟨by decide, by decide, by decide⟩
theorem pw16 : (10 : Int) ^ Int.toNat 16 = 10000000000000000 := by decide
theorem cp17 : CPow 10 17 = True := eq_true ⟨by decide, by decide, by decide⟩
theorem pw17 : (10 : Int) ^ Int.toNat 17 = 100000000000000000 := by decide
theorem cp18 : CPow 10 18 = True := eq_true ⟨by decide, by decide, by decide⟩
theorem pw18 : (10 : Int) ^ Int.toNat 18 = 1000000000000000000 := by decide
theorem cp19 : CPow 10 19 = True := eq_true ⟨by decide, by decide, by decide⟩
theorem pw19 : (10 : Int) ^ Int.toNat 19 = 10000000000000000000 := by decide
theorem cp20 : CPow 10 20 = True := eq_true ⟨by decide, by decide, by decide⟩
theorem pw20 : (10 : Int) ^ Int.toNat 20 = 100000000000000000000 := by decide
theorem cp21 : CPow 10 21 = True := eq_true ⟨by decide, by decide, by decide⟩
theorem pw21 : (10 : Int) ^ Int.toNat 21 = 1000000000000000000000 := by decide
theorem cp22 : CPow 10 22 = True := eq_true ⟨by decide, by decide, by decide⟩
theorem pw22 : (10 : Int) ^ Int.toNat 22 = 10000000000000000000000 := by decide
theorem cp23 : CPow 10 23 = True := eq_true ⟨by decide, by decide, by decide⟩
theorem pw23 : (10 : Int) ^ Int.toNat 23 = 100000000000000000000000 := by decide
theorem cp24 : CPow 10 24 = True := eq_true ⟨by decide, by decide, by decide⟩
theorem pw24 : (10 : Int) ^ Int.toNat 24 = 1000000000000000000000000 := by decide
theorem cp25 : CPow 10 25 = True := eq_true ⟨by decide, by decide, by decide⟩
theorem pw25 : (10 : Int) ^ Int.toNat 25 = 10000000000000000000000000 := by decide
theorem cp26 : CPow 10 26 = True := eq_true ⟨by decide, by decide, by decide⟩
theorem pw26 : (10 : Int) ^ Int.toNat 26 = 100000000000000000000000000 := by decide
theorem cp27 : CPow 10 27 = True := eq_true ⟨by decide, by decide, by decide⟩
theorem pw27 : (10 : Int) ^ Int.toNat 27 = 1000000000000000000000000000 := by decide
theorem cp28 : CPow 10 28 = True := eq_true ⟨by decide, by decide, by decide⟩
theorem pw28 : (10 : Int) ^ Int.toNat 28 = 10000000000000000000000000000 := by decide
theorem cp29 : CPow 10 29 = True := eq_true ⟨by decide, by decide, by decide⟩
theorem pw29 : (10 : Int) ^ Int.toNat 29 = 100000000000000000000000000000 := by decide
theorem cp30 : CPow 10 30 = True := eq_true ⟨by decide, by decide, by decide⟩
theorem pw30 : (10 : Int) ^ Int.toNat 30 = 1000000000000000000000000000000 := by decide
theorem cp31 : CPow 10 31 = True := eq_true ⟨by decide, by decide, by decide⟩
theorem pw31 : (10 : Int) ^ Int.toNat 31 = 10000000000000000000000000000000 := by decide
theorem cp32 : CPow 10 32 = True := eq_true ⟨by decide, by decide, by decide⟩
theorem pw32 : (10 : Int) ^ Int.toNat 32 = 100000000000000000000000000000000 := by decide
theorem cp33 : CPow 10 33 = True := eq_true ⟨by decide, by decide, by decide⟩
theorem pw33 : (10 : Int) ^ Int.toNat 33 = 1000000000000000000000000000000000 := by decide
theorem cp34 : CPow 10 34 = True := eq_true ⟨by decide, by decide, by decide⟩
theorem pw34 : (10 : Int) ^ Int.toNat 34 = 10000000000000000000000000000000000 := by decide
theorem cp35 : CPow 10 35 = True := eq_true ⟨by decide, by decide, by decide⟩
theorem pw35 : (10 : Int) ^ Int.toNat 35 = 100000000000000000000000000000000000 := by decide
theorem cp36 : CPow 10 36 = True := eq_true ⟨by decide, by decide, by decide⟩
theorem pw36 : (10 : Int) ^ Int.toNat 36 = 1000000000000000000000000000000000000 := by decide
theorem cp37 : CPow 10 37 = True := eq_true ⟨by decide, by decide, by decide⟩
theorem pw37 : (10 : Int) ^ Int.toNat 37 = 10000000000000000000000000000000000000 := by decide
theorem cp38 : CPow 10 38 = True := eq_true ⟨by decide, by decide, by decide⟩
theorem pw38 : (10 : Int) ^ Int.toNat 38 = 100000000000000000000000000000000000000 := by decide
theorem cp39 : CPow 10 39 = True := eq_true ⟨by decide, by decide, by decide⟩
theorem pw39 : (10 : Int) ^ Int.toNat 39 = 1000000000000000000000000000000000000000 := by decide
theorem cp40 : CPow 10 40 = True := eq_true ⟨by decide, by decide, by decide⟩
theorem pw40 : (10 : Int) ^ Int.toNat 40 = 10000000000000000000000000000000000000000 := by decide
theorem cdiv {i m : Int} (h0 : 0 < m) (h1 : m ≤ 2 ^ 100) : CDivW i m := ⟨h0, by
  have h2 : m.natAbs < 2 ^ 101 := by
    have e : ((2 ^ 101 : Nat) : Int) = 2 ^ 101 := by norm_cast
    have e2 : (2 : Int) ^ 100 < 2 ^ 101 := by decide
    omega
  have := (Nat.log2_lt (by omega) (k := 101)).mpr h2
  omega⟩
end DL
namespace DL
open PySem PySem.Spec L2 StX
structure FnS (P : Program) (w : World) (K : PySem.W.Frag) (mg : Str → Option Value) (base : Heap) (k : Nat) (f : Addr) (sp : Sp) : Prop where
  run : ∀ (A : Around) (outer : List PySem.Env) (s : Shared) (H : Hp) (us : List Value) (vs : List V) (Q : VK) (E : XK), A.guards = some [] → Room k A → Env0 P w K mg base A outer s H → Vals vs us → sp vs H Q E →
    codeAny (model P w) A (.call (.ref f) ⟨us, []⟩) (CR (L2.CX P w) outer P w H s Q E) s
section
variable {P : Program} {w : World} {K : PySem.W.Frag} {mg : Str → Option Value} {base : Heap}
theorem FnS.mono {j k : Nat} {f : Addr} {sp : Sp} (h : FnS P w K mg base j f sp) (q : j ≤ k) : FnS P w K mg base k f sp :=
  ⟨fun A outer s H us vs Q E hg hr => h.run A outer s H us vs Q E hg (hr.mono q)⟩
def spS (K : PySem.W.Frag) (mg : Str → Option Value) (CK : CKT) (u : Nat) (mf : MF) : Sp := fun vs H Q E => ∃ (G : Gm) (F : Hp) (as : List DV) (R : DV → Prop) (ex : DExc → Prop), G.K = K ∧ (CK G.C G.cv G.J G.lim ∧ G.n + u ≤ G.lim) ∧ as.length = vs.length ∧ (∀ x ∈ as, x.arg = true) ∧ Good G F (as.map some) (vs.map some) H ∧ mf as R ex ∧
  (∀ r, R r → r.arg = true → ∀ v F' H', Good (G.up u) F' [some r] [some v] H' → Q v H') ∧
  (∀ e, ex e → ∀ b cls d F' H', b ≤ u → Good (G.up b) F' [] [] H' → ExcAt K mg F' H' e cls d → E cls d H')
structure DFnS (P : Program) (w : World) (K : PySem.W.Frag) (mg : Str → Option Value) (base : Heap) (CK : CKT) (x : Str) (k u : Nat) (mf : MF) : Prop where
  ex : ∃ f, mg x = some (.ref f) ∧ PySem.W.keepIn K (.ref f) = true ∧ FnS P w K mg base k f (spS K mg CK u mf)
end
section
variable {X : Cx} {W : WC} {e : Expr} {es : List Expr} {pos p : Pos} {mas : MA} {x : Str} {k j u1 u2 : Nat} {mf : MF}
end
theorem DFnS.le {P : Program} {w : World} {K : PySem.W.Frag} {mg : Str → Option Value} {base : Heap} {CK : CKT} {x : Str} {k u u' : Nat} {mf : MF} (h : DFnS P w K mg base CK x k u mf) (hu : u ≤ u') : DFnS P w K mg base CK x k u' mf := by
  obtain ⟨f, h1, h2, h5⟩ := h
  refine ⟨f, h1, h2, ⟨fun A outer s H us vs Q E hg hr e0 r q => h5.run A outer s H us vs Q E hg hr e0 r ?_⟩⟩
  obtain ⟨G, F, as, R, ex, q2, q3, q4, q5, q6, q7, q8, q9⟩ := q
  exact ⟨G, F, as, R, ex, q2, ⟨q3.1, Nat.le_trans (Nat.add_le_add_left hu _) q3.2⟩, q4, q5, q6, q7, fun r hr ha v F' H' g => q8 r hr ha v F' H' (g.mono hu), fun e he b cls d F' H' hb g => q9 e he b cls d F' H' (Nat.le_trans hb hu) g⟩
end DL
namespace PySem
open Sem (wp)
theorem enum_one {v : Value} {o : Obj} {Hy : Heap → Prop} (B : Begins v o Hy) : Meets (Builtin.«enumerate.__new__» ⟨[.type "enumerate", v], []⟩) (fun _ R s => Hy s.heap ∧
    R (.ok (.ret (.ref (s.heap.push o).objs.size))) { s with heap := (s.heap.push o).push { cls := .type "enumerate", data := .fields #[.none, .bool false, .ref s.heap.objs.size, rawInt 0, .none, .none] } }) :=
  .of_wp fun prog w A R s h => by
    obtain ⟨hp, gg, dr, tk, os⟩ := s
    obtain ⟨hy, h⟩ := h
    have hsub := sub_enumerate
    have begin_ : ∀ {A' : Around} {E : Value → Shared → Prop} {Q : Value → Shared → Prop}, Q (.ref hp.objs.size) ⟨hp.push o, gg, dr, tk, os⟩ → wpAny (model prog w) A' (pyIter v) Q E ⟨hp, gg, dr, tk, os⟩ := fun q => B.iter prog w _ _ ⟨hp, gg, dr, tk, os⟩ _ hy q
    wp_walk using begin_
    refine wpAny_stack_any fun st => wpAny_pure ?_
    split
    · rename_i c _ _ _ _ _
      cases (c == Value.type "enumerate") <;> (wp_walk using begin_; exact ⟨_, rfl, h⟩)
    · wp_walk using begin_
      exact ⟨_, rfl, h⟩
theorem enum_call {prog : Program} {w : World} {A : Around} {E : Value → Shared → Prop} {s : Shared} {v : Value} {o : Obj} {Hy : Heap → Prop} {Q : Value → Shared → Prop} (B : Begins v o Hy) (hy : Hy s.heap)
    (h : ∀ h', IsEnum h' (s.heap.objs.size + 1) s.heap.objs.size 0 .none → h'.get? s.heap.objs.size = some o → (∀ b u, s.heap.get? b = some u → h'.get? b = some u) → Q (.ref (s.heap.objs.size + 1)) { s with heap := h' }) :
    wpAny (model prog w) A (call (.type "enumerate") [v]) Q E s := by
  refine callType_new F.called_enumerate (by decide) (F.typeCall_enumerate_1 _) (F.newCall_enumerate_1 _) (fun obj => F.args_object_init_2 obj _) F.entry_enumerate_new (enum_one B) ⟨hy, ?_⟩
  have sz : (s.heap.push o).objs.size = s.heap.objs.size + 1 := Heap.size_push ..
  show _ ∧ _
  rw [sz]
  obtain ⟨eo, heo⟩ : ∃ eo : Obj, eo = { cls := .type "enumerate", data := .fields #[.none, .bool false, .ref s.heap.objs.size, rawInt 0, .none, .none] } := ⟨_, rfl⟩
  have he : IsEnum ((s.heap.push o).push eo) (s.heap.objs.size + 1) s.heap.objs.size 0 .none := by
    have q := Heap.get?_push_size (s.heap.push o) (o := eo) (by rw [heo]; rfl)
    rw [sz] at q
    rw [heo] at q ⊢
    exact q
  rw [← heo]
  exact ⟨⟨_, by rw [heo] at he ⊢; exact he, rfl⟩, h _ he (Heap.get?_push_of_some _ (Heap.get?_push_size _ B.free)) fun b u q => Heap.get?_push_of_some _ (Heap.get?_push_of_some _ q)⟩
end PySem
namespace DL
open PySem PySem.Spec L2 StX
def IteT (K : PySem.W.Frag) (a : Addr) : It :=
  ⟨fun i H => ∃ (xs : List V) (x : V), SqT K H a xs ∧ xs[i]? = some x, fun i H v H' => ∃ T x, v = .ref T ∧ H T = none ∧ H' = upd H T (.tup [.int (i : Nat), x]) ∧ ∀ xs, SqT K H a xs → xs[i]? = some x, fun i H => ∃ xs : List V, SqT K H a xs ∧ xs.length ≤ i⟩
theorem tup_inj {X : Cx} {pins : List (Addr × Obj)} {σ : L2.St} {H : Hp} {s : Shared} {a : Addr} {xs ys : List V} (I : Inv X pins σ H s) (h1 : SqT X.K H a xs) (h2 : SqT X.K H a ys) : xs = ys := I.tuple_inj h1 h2
theorem turn_enumT {P : Program} {w : World} {K : PySem.W.Frag} {elts : List Expr} {kk : Nat} {tpos : Pos} (a e it : Addr) :
    Turn P w K (.Tuple elts kk tpos) (IteT K a) [e, it] e (fun i h => (∃ old, IsEnum h e it ((i : Nat) : Int) old) ∧ h.IsTupleIter it a i ∧ e ≠ it) := by
  refine ⟨by simp, fun i h st b hb => ?_, fun i h h' st k => ?_, ?_, ?_, fun A i s Q E st h => ?_⟩
  · obtain ⟨⟨old, he⟩, ⟨o, ho, hc, hd⟩, _⟩ := st
    rcases List.mem_cons.mp hb with rfl | hb
    · exact ⟨_, he, fun v q => nomatch q⟩
    · rw [List.mem_singleton.mp hb]
      exact ⟨o, ho, fun v q => by rw [hd] at q; cases q⟩
  · obtain ⟨⟨old, he⟩, hi, hne⟩ := st
    exact ⟨⟨old, k e (by simp) _ he⟩, hi.at fun o q => k it (by simp) o q, hne⟩
  · intro X hP hw hK hc i pins s σ H E I hf st hg
    subst hP hw hK
    obtain ⟨⟨old, he⟩, hit, hne⟩ := st
    obtain ⟨xs, x, hq, hx⟩ := hg
    obtain ⟨its, rv, p, hz⟩ := I.tuple hq
    obtain ⟨u, hu, ru⟩ := rv.get hx
    have le1 : e < s.heap.objs.size := Heap.lt_size he
    have le2 : it < s.heap.objs.size := by obtain ⟨_, q, _⟩ := hit; exact Heap.lt_size q
    have nea : e ≠ a := fun z => by
      obtain ⟨o, ho, hcl, _⟩ := p
      rw [← z, he] at ho
      cases ho
      exact absurd hcl (by simp)
    have nia : a ≠ it := fun z => by
      obtain ⟨o, ho, hcl, _⟩ := p
      obtain ⟨o2, ho2, hcl2, _⟩ := hit
      rw [z, ho2] at ho
      cases ho
      rw [hcl2] at hcl
      exact absurd hcl (by simp)
    have D := Draws.tuple (prog := X.prog) (w := X.w) (A := X.A.in1) (by show X.A.handled = none; exact I.ok.hd hc) it a nia its.toArray
    have hlt : i < its.toArray.size := by
      have := (List.getElem?_eq_some_iff.mp hu).1
      simpa using this
    refine wpAny_pyNext_enum_itemC D he ⟨hit, p⟩ hlt hne (by simp [nea, hne]) fun y h' tk hP ho hst hT hsz hk => ?_
    have hy : y = u := by
      have e1 : its.toArray[i]? = some u := by simpa using hu
      rw [e1] at hP
      exact (Option.some.inj hP).symm
    subst hy
    refine ⟨_, rfl, wpAny_letOwnedTupleGo_enum (s := { s with heap := h', toks := tk + 1 }) ho fun h'' he' sb => ?_⟩
    have hT2 : h''.get? s.heap.objs.size = some { cls := .type "tuple", data := .seq #[.int ((i : Nat) : Int) tk, y] } := (sb.2 _ (Nat.ne_of_gt le1)).trans hT
    have ob : ObjOk X.prog X.w (upd H s.heap.objs.size (.tup [.int (i : Nat), x])) h'' s.heap.objs.size (.tup [.int (i : Nat), x]) :=
      ⟨by show 2 ≤ sizeLine; decide, [.int (i : Nat) tk, y], .cons ⟨_, rfl⟩ (.cons ru .nil), ⟨_, hT2, rfl, _, rfl⟩⟩
    have I1 : Inv X pins σ (upd H s.heap.objs.size (.tup [.int (i : Nat), x])) { s with heap := h'', toks := tk + 1 } :=
      I.turnedNew (ch := [e, it]) (fun b ob hb q => (sb.2 b (fun z => hb (by simp [z]))).trans (hk b ob (fun z => hb (by simp [z])) (fun z => hb (by simp [z])) q)) hf (Nat.le_refl _) ob
    refine ⟨.ref s.heap.objs.size, _, I1, rfl, ⟨_, x, rfl, I.hok.fresh (Nat.le_refl _), rfl, fun ys hy => by rw [tup_inj I hy hq]; exact hx⟩, ⟨⟨y, ?_⟩, hst.1.at fun o q => (sb.2 it (Ne.symm hne)).trans q, hne⟩, fun b hb => ?_⟩
    · have e1 : ((i + 1 : Nat) : Int) = (i : Int) + 1 := by omega
      rw [e1]; exact he'
    · have hb' : b < s.heap.objs.size := by
        rcases List.mem_cons.mp hb with rfl | hb
        · exact le1
        · rw [List.mem_singleton.mp hb]; exact le2
      rw [upd_ne (Nat.ne_of_lt hb')]
      exact (hf b hb).1
  · intro X hP hw hK hc i pins s σ H E I hf st hg
    subst hP hw hK
    obtain ⟨⟨old, he⟩, hit, hne⟩ := st
    obtain ⟨xs, hq, hx⟩ := hg
    obtain ⟨its, rv, p, hz⟩ := I.tuple hq
    obtain ⟨f0, f1, f2, f3, f4, f5⟩ := hf it (by simp)
    have hl := rv.length
    have nia : a ≠ it := fun z => by
      obtain ⟨o, ho, hcl, _⟩ := p
      obtain ⟨o2, ho2, hcl2, _⟩ := hit
      rw [z, ho2] at ho
      cases ho
      rw [hcl2] at hcl
      exact absurd hcl (by simp)
    have hh : X.A.in1.handled = none := by show X.A.handled = none; exact I.ok.hd hc
    -- an iterator behind the end ends
    have D : Draws X.prog X.w X.A.in1 it [it, a] i (fun j v => False) (fun j h => h.IsTupleIter it a i ∧ h.IsTuple a its.toArray ∧ j = i) := by
      refine ⟨fun _ _ st => let ⟨o, ho, _⟩ := st.1; ⟨o, ho⟩, fun _ _ _ st hk => ⟨st.1.at fun o e => hk it (by simp) o e, st.2.1.at fun o e => hk a (by simp) o e, st.2.2⟩, fun j s Q E hj st _ => absurd st.2.2 (Nat.ne_of_lt hj), fun s Q E st hE => ?_⟩
      exact wpAny_nextOf_tuple_end hh st.1 st.2.1 (by simp; omega) hE
    exact wpAny_pyNext_enum_endD D he ⟨hit, p, rfl⟩ fun h' eb => ⟨rfl, I.turned (t' := s.toks) (fun b o hb q => eb b o hb q) f0 f1 f3 f4 f5⟩
  · obtain ⟨⟨_, he⟩, _⟩ := st
    exact wpAny_pyIter_enum he h
def iEnumT (K : PySem.W.Frag) (ta : TA) : TI := fun σ H R => ta σ H fun vs H1 => ∃ a xs, vs = [.ref a] ∧ SqT K H1 a xs ∧ R (IteT K a) H1
theorem pi_enumT {X : Cx} {e : Expr} {ta : TA} {p pos tpos : Pos} {elts : List Expr} {kk : Nat} (hg : Gl X "enumerate") (hm : X.mg "enumerate" = none) (ha : PA X [e] ta) (hs : starEach [e] X.env = [(false, eval e X.env)] := by rfl) :
    PI X (.Tuple elts kk tpos) (.Call (.Name "enumerate" p) [e] [] pos) (iEnumT X.K ta) := by
  refine ⟨fun pins s σ H R I h => ?_⟩
  refine PyProof.Rows.Call_ (ld_blt I hg hm PyProof.Rows.boot_enumerate (PyProof.Rows.callWith_type1 (thn (ha.run pos pins s σ H _ I h) fun us s1 ⟨vs, H1, I1, r1, q1⟩ => ?_) hs rfl))
  obtain ⟨a, xs, rfl, hq, q⟩ := q1
  rw [Vals.ref1 r1]
  obtain ⟨its, rv, p', hz⟩ := I1.tuple hq
  refine enum_call (begins_tuple a its.toArray) p' fun h' he ho hk => wpAny_pyIter_enum he ?_
  have I2 : Inv X pins σ H1 { s1 with heap := h' } := I1.kept (t' := s1.toks) hk
  refine ⟨s1.heap.objs.size + 1, [s1.heap.objs.size + 1, s1.heap.objs.size], _, _, H1, rfl, I2, turn_enumT a (s1.heap.objs.size + 1) s1.heap.objs.size, ⟨⟨.none, he⟩, ⟨_, ho, rfl, rfl⟩, Nat.succ_ne_self _⟩, fun b hb => ?_, q⟩
  have hle : s1.heap.objs.size ≤ b := by
    rcases List.mem_cons.mp hb with rfl | hb
    · exact Nat.le_add_right _ _
    · rw [List.mem_singleton.mp hb]; exact Nat.le_refl _
  exact I1.fpOk hle (I1.hok.fresh hle)
end DL
namespace DL
open PySem PySem.Spec L2 StX
def enumD : Nat → List PyData → List PyData
  | _, [] => []
  | k, d :: ds => .tuple [.int (k : Nat), d] :: enumD (k + 1) ds
theorem enumD_get : ∀ {k : Nat} {ds : List PyData} {i : Nat}, (enumD k ds)[i]? = ds[i]?.map fun d => .tuple [.int ((k + i : Nat) : Int), d]
  | _, [], _ => by simp [enumD]
  | k, d :: ds, 0 => by simp [enumD]
  | k, d :: ds, i + 1 => by
    simp only [enumD, List.getElem?_cons_succ]
    rw [enumD_get]
    have : k + 1 + i = k + (i + 1) := by omega
    rw [this]
theorem enumD_len : ∀ {k : Nat} {ds : List PyData}, (enumD k ds).length = ds.length
  | _, [] => rfl
  | k, d :: ds => by simp [enumD, enumD_len]
def zipD : List PyData → List PyData → List PyData
  | x :: xs, y :: ys => .tuple [x, y] :: zipD xs ys
  | _, _ => []
section
variable {X : Cx} {W : WC} {u : Nat} {e e2 : Expr} {mas : MA} {elts : List Expr} {kk : Nat} {tpos p pos : Pos}
theorem pair_new {G : Gm} {F H : Hp} {A : Env} {A' : L2.St} {T : Addr} {v w : V} {d c : PyData} (g : Good G F A A' H) (hT : H T = none) (h1 : At G.K F v d) (h2 : At G.K F w c) : ∃ F', Good G F' (A ++ [some (.d (.tuple [d, c]))]) (A' ++ [some (.ref T)]) (upd H T (.tup [v, w])) :=
  ⟨_, g.newT hT (.cons h1 (.cons h2 .nil))⟩
def mIEnumT (mas : MA) : MI := fun ex δ R => mas ex δ fun xs => match xs with
  | [.d (.tuple ds)] => R ⟨[.d (.tuple ds)], enumD 0 ds⟩
  | _ => False
theorem di_enumT (hg : Gl X "enumerate") (hm : X.mg "enumerate" = none) (ha : DA X W [e] mas u) (hs : starEach [e] X.env = [(false, eval e X.env)] := by rfl) : DI X W (.Tuple elts kk tpos) (.Call (.Name "enumerate" p) [e] [] pos) (mIEnumT mas) u :=
  ⟨PI.imp (pi_enumT hg hm ha.pa hs) fun σ H Q q => by
    obtain ⟨ex, G, F, δ, τ, ts, τ1, ts1, R, n, m, k⟩ := q
    refine ⟨ex, G, F, δ, τ, ts, τ1, ts1, _, n, m, fun xs hxs vs F1 H1 hl g1 => ?_⟩
    match xs, hxs, hl, g1 with
    | [.d (.tuple ds)], hxs, hl, g1 =>
      obtain ⟨v, rfl, hv, g⟩ := one_of hl g1
      obtain ⟨l, vs, rfl, hs, ha⟩ := tup_of hv g1.fh
      rw [show (G.up u).K = X.K from n.k] at hs
      refine ⟨l, vs, rfl, hs, k _ hxs [.ref l] F1 H1 _ rfl g1 fun b i F2 A B A' B' H2 hA hB g2 => ?_⟩
      have ht := sub1 (g2.cut hB)
      obtain ⟨l', vs', e1, hs0, ha'⟩ := tup_of ht g2.fh
      cases e1
      have hs' : SqT X.K H2 l vs' := by rw [← n.k]; exact hs0
      refine ⟨fun hi => ⟨vs', hs', by rw [ha'.length]; rw [enumD_len] at hi; exact hi⟩, fun d hd => ?_⟩
      rw [enumD_get] at hd
      cases hd0 : ds[i]? with
      | none => rw [hd0] at hd; cases hd
      | some d0 =>
        rw [hd0] at hd
        cases hd
        obtain ⟨w, ew, hw⟩ := ha'.get hd0
        refine ⟨⟨vs', w, hs', ew⟩, fun y H3 hy => ?_⟩
        obtain ⟨T, w', rfl, hT, rfl, hy⟩ := hy
        have := hy vs' hs'
        rw [ew] at this
        cases this
        have hi0 : ((0 + i : Nat) : Int) = (i : Nat) := by omega
        rw [hi0]
        exact pair_new g2 hT (.int _) hw⟩
end
end DL
namespace DL
open PySem PySem.Spec L2 PyProof.Rows
section
variable {u u1 u2 u3 u4 : Nat} {X : Cx} {W : WC} {a b c d : Expr} {pos : Pos} {ma mb mc md : ME}
end
end DL
namespace DL
open PySem PySem.Spec L2
theorem Falls.by {l : SRow} (I : Inc l) {rt : Bool} {s lo hi j : Nat} (h : Falls l rt s lo hi) (h1 : lo ≤ j) (h2 : j ≤ hi) : j = s ∨ ∃ k, lo ≤ k ∧ k ≤ hi ∧ Hit l rt k j := by
  have hb := h.bd
  unfold Falls at h
  cases rt with
  | true =>
    obtain ⟨rfl, h⟩ := h
    rcases Nat.eq_or_lt_of_le h1 with q | q
    · exact .inl q.symm
    · obtain ⟨k, a, b, c⟩ := h.ch j q h2
      exact .inr ⟨k, a, by omega, I.inc _ _ b (by omega), c⟩
  | false =>
    obtain ⟨rfl, h⟩ := h
    rcases Nat.eq_or_lt_of_le h2 with q | q
    · exact .inl q
    · obtain ⟨k, a, b, c⟩ := h.ch j h1 q
      exact .inr ⟨k, by omega, b, c, I.inc _ _ a (by omega)⟩
def onInt (f : Int → Option PyData) : PyData → Option PyData
  | .int i => f i
  | _ => none
theorem eqv_lr : PyData.eqv (.str "left") (.str "right") = false := by decide +kernel
theorem eqv_rl : PyData.eqv (.str "right") (.str "left") = false := by decide +kernel
theorem eqv_ll : PyData.eqv (.str "left") (.str "left") = true := by decide +kernel
theorem eqv_rr : PyData.eqv (.str "right") (.str "right") = true := by decide +kernel
mutual
theorem eqv_rfl : ∀ d : PyData, d.canLay0 = true → PyData.eqv d d = true
  | .none, _ => by simp [PyData.eqv]
  | .bool b, _ => by cases b <;> simp [PyData.eqv]
  | .int i, _ => by simp [PyData.eqv]
  | .str x, _ => by simp [PyData.eqv]
  | .list xs, h => by
    simp only [PyData.eqv]
    exact eqvAll_rfl xs (by simpa [PyData.canLay0] using h)
  | .tuple xs, h => by
    simp only [PyData.eqv]
    exact eqvAll_rfl xs (by simpa [PyData.canLay0] using h)
  | .dict _, h => by simp [PyData.canLay0] at h
theorem eqvAll_rfl : ∀ xs : List PyData, PyData.canLayAll0 xs = true → PyData.eqvAll xs xs = true
  | [], _ => by simp [PyData.eqvAll]
  | x :: xs, h => by
    simp only [PyData.canLayAll0, Bool.and_eq_true] at h
    simp only [PyData.eqvAll, eqv_rfl x h.1, eqvAll_rfl xs h.2, Bool.and_self]
end
theorem sz_nat {n : Nat} (h : n ≤ 1000000) : Sz (.int (n : Nat)) 0 1922 := Sz.int' ⟨by omega, by omega⟩
theorem row_mem {l : SRow} {p : Int × Int} (hp : p ∈ l) : ∃ i, i < l.length ∧ pl l i = p.1 ∧ ht l i = p.2 := by
  obtain ⟨i, hi, e⟩ := List.mem_iff_getElem.mp hp
  refine ⟨i, hi, ?_, ?_⟩
  · unfold pl
    rw [List.getD_eq_getElem?_getD, List.getElem?_eq_getElem hi, e]
    rfl
  · unfold ht
    rw [List.getD_eq_getElem?_getD, List.getElem?_eq_getElem hi, e]
    rfl
theorem row_get {l : SRow} {i : Nat} (hi : i < l.length) : l[i]? = some (pl l i, ht l i) := by
  unfold pl ht
  rw [List.getD_eq_getElem?_getD, List.getElem?_eq_getElem hi]
  rfl
end DL
namespace PySem
open PySem.AutoSeq1 (wpAny_loadPart')
end PySem
namespace DL
open PySem PySem.Spec L2
end DL
namespace DL
open PySem PySem.Spec L2
section
variable {X : Cx} {W : WC} {u1 u2 : Nat} {c e : Expr} {es : List Expr} {pos : Pos} {mt : MT} {m : MS} {mas : MA}
variable {x : Str} {p1 ap cp : Pos}
end
end DL
namespace DL
open PySem PySem.Spec L2
theorem key_reads {h : Heap} {k : Key} {u : Value} (e : keyIs k u = true) : Reads h u (keyD k) [] := by
  rcases keyIs_shape e with ⟨i, t, rfl, rfl⟩ | ⟨x, t, rfl, rfl⟩
  · exact Reads.int i t
  · exact Reads.str x t
section
open PySem.P3
variable {P : Program} {w : World} {h : Heap}
def Sh (P : Program) (w : World) (h : Heap) (u : Value) (d : PyData) : Prop := ∃ as bs, Reads h u d as ∧ ReadAtMost h d.depth bs ∧ ReprK P w bs h d.depth u d.shown
def ShA (P : Program) (w : World) (h : Heap) (us : List Value) (ds : List PyData) : Prop := ∃ as bs, ReadsAll h us ds as ∧ ReadAtMost h (PyData.depthAll ds) bs ∧ ReprAllK P w bs h (PyData.depthAll ds) us (PyData.shownAll ds)
theorem rk_key {k : Key} {u : Value} (e : keyIs k u = true) (hs : (keyD k).showable = true) (hz : (keyD k).shown.length ≤ sizeLine) : Sh P w h u (keyD k) := by
  refine ⟨[], [], key_reads e, fun _ z => (nomatch z), ?_⟩
  rcases keyIs_shape e with ⟨i, t, rfl, rfl⟩ | ⟨x, t, rfl, rfl⟩
  · have q : ReprK P w [] h 0 (.int i t) (PyData.shown (.int i)) := by
      simp only [PyData.shown]
      exact .of_is (ReprIs.int t (by simpa [keyD, PyData.showable] using hs)) _ _ _
    exact q
  · have q : ReprK P w [] h 0 (.str x t) (PyData.shown (.str x)) := by
      simp only [PyData.shown]
      exact .of_is (ReprIs.str x t (by simpa only [keyD, PyData.shown] using hz)) _ _ _
    exact q
theorem sha_cons {u : Value} {us : List Value} {d : PyData} {ds : List PyData} (h1 : Sh P w h u d) (h2 : ShA P w h us ds) : ShA P w h (u :: us) (d :: ds) := by
  obtain ⟨as, bs, r1, m1, k1⟩ := h1
  obtain ⟨cs, es, r2, m2, k2⟩ := h2
  refine ⟨_, bs ++ es, ReadsAll.cons r1 r2, ?_, ?_⟩
  · rw [PyData.depthAll]
    exact (m1.mono (Nat.le_max_left _ _)).append (m2.mono (Nat.le_max_right _ _))
  · rw [PyData.depthAll, PyData.shownAll]
    have q1 := (k1.more fun b hb => (List.mem_append_left es hb : b ∈ bs ++ es)).level_le (Nat.le_max_left d.depth (PyData.depthAll ds))
    have q2 := k2.more_le (fun b hb => (List.mem_append_right bs hb : b ∈ bs ++ es)) (Nat.le_max_right d.depth (PyData.depthAll ds))
    exact ReprAllK.cons q1 q2
theorem sha_nil : ShA P w h [] [] := ⟨[], [], ReadsAll.nil, fun _ z => (nomatch z), by rw [PyData.shownAll]; exact ReprAllK.nil⟩
theorem sh_list {a : Addr} {o : Obj} {n : Nat} {us : List Value} {ds : List PyData} (ho : h.get? a = some o) (hc : o.cls = .type "list") (hd : o.data = .seq us.toArray n) (q : ShA P w h us ds) : Sh P w h (.ref a) (.list ds) := by
  obtain ⟨as, bs, r, m, k⟩ := q
  have rr : Reads h (.ref a) (.list ds) _ := Reads.list ho hc hd r
  have dp : (PyData.list ds).depth = PyData.depthAll ds + 1 := by simp only [PyData.depth]
  have na : a ∉ bs := not_mem_of_deeper rr (by omega) m
  refine ⟨_, a :: bs, rr, ReadAtMost.cons rr (Nat.le_refl _) (m.mono (by omega)), ?_⟩
  rw [dp]
  simp only [PyData.shown]
  cases us with
  | nil =>
    cases r
    simp only [PyData.shownAll, listText_nil]
    exact ReprK.listEmpty ho hc hd
  | cons x l => exact ReprK.list ho hc hd na (by simpa using k.length_eq) fun i y e => k.item i y (by simpa using e)
theorem sh_tuple {a : Addr} {o : Obj} {n : Nat} {us : List Value} {ds : List PyData} (ho : h.get? a = some o) (hc : o.cls = .type "tuple") (hd : o.data = .seq us.toArray n) (q : ShA P w h us ds) : Sh P w h (.ref a) (.tuple ds) := by
  obtain ⟨as, bs, r, m, k⟩ := q
  have rr : Reads h (.ref a) (.tuple ds) _ := Reads.tuple ho hc hd r
  have dp : (PyData.tuple ds).depth = PyData.depthAll ds + 1 := by simp only [PyData.depth]
  have na : a ∉ bs := not_mem_of_deeper rr (by omega) m
  refine ⟨_, a :: bs, rr, ReadAtMost.cons rr (Nat.le_refl _) (m.mono (by omega)), ?_⟩
  rw [dp]
  simp only [PyData.shown]
  exact ReprK.tuple ho hc hd na k
theorem sh_dict {a : Addr} {o : Obj} {n : Nat} {es : Array DictEntry} {ds : List (PyData × PyData)} (ho : h.get? a = some o) (hc : o.cls = .type "dict") (hd : o.data = .dict es n) (hsm : (a == sysModules) = false)
    (q1 : ShA P w h (es.toList.map (·.key)) (ds.map (·.1))) (q2 : ShA P w h (es.toList.map (·.val)) (ds.map (·.2))) : Sh P w h (.ref a) (.dict ds) := by
  obtain ⟨as, b1, r1, m1, k1⟩ := q1
  obtain ⟨cs, b2, r2, m2, k2⟩ := q2
  have rr : Reads h (.ref a) (.dict ds) _ := Reads.dict ho hc hd r1 r2
  have dp : (PyData.dict ds).depth = PyData.depthKv ds + 1 := by simp only [PyData.depth]
  have m : ReadAtMost h (PyData.depthKv ds) (b1 ++ b2) := (m1.mono (PyData.depthAll_keys_le ds)).append (m2.mono (PyData.depthAll_vals_le ds))
  have na : a ∉ b1 ++ b2 := not_mem_of_deeper rr (by omega) m
  refine ⟨_, a :: (b1 ++ b2), rr, ReadAtMost.cons rr (Nat.le_refl _) (m.mono (by omega)), ?_⟩
  rw [dp]
  simp only [PyData.shown, PyData.shownKv_eq]
  have z1 := k1.more_le (fun b hb => (List.mem_append_left b2 hb : b ∈ b1 ++ b2)) (PyData.depthAll_keys_le ds)
  have z2 := k2.more_le (fun b hb => (List.mem_append_right b1 hb : b ∈ b1 ++ b2)) (PyData.depthAll_vals_le ds)
  exact ReprK.dict ho hc hd hsm na (ReprEntriesK.of_two es.toList _ _ z1 z2)
variable {A : Around} {E : Value → Shared → Prop} {s : Shared} {Q : Value → Shared → Prop}
theorem top_list {a : Addr} {o : Obj} {n : Nat} {us : List Value} {ds : List PyData} (ho : s.heap.get? a = some o) (hc : o.cls = .type "list") (hd : o.data = .seq us.toArray n) (q : ShA P w s.heap us ds) (hg : A.guards = some []) (hu : A.units + ((PyData.list ds).depth + 1) < cLine)
    (hz : (PyData.list ds).shown.length ≤ sizeLine) (hQ : ∀ h' u tk, (∀ b o, s.heap.get? b = some o → h'.get? b = some o) → Q (.str (PyData.list ds).shown u) { s with heap := h', toks := tk }) : wpAny (model P w) A (call (.builtin "repr") [.ref a]) Q E s := by
  obtain ⟨as, bs, r, m, k⟩ := q
  have rr : Reads s.heap (.ref a) (.list ds) _ := Reads.list ho hc hd r
  have dp : (PyData.list ds).depth = PyData.depthAll ds + 1 := by simp only [PyData.depth]
  have na : a ∉ bs := not_mem_of_deeper rr (by omega) m
  have un : A.in1.units + (PyData.depthAll ds + 1) < cLine := by
    show A.units + 1 + (PyData.depthAll ds + 1) < cLine
    omega
  simp only [PyData.shown] at hQ hz
  refine call_repr_slot (by omega) ⟨o, ho, hc⟩ F.slot_list_repr.toG ?_
  cases us with
  | nil =>
    cases r
    simp only [PyData.shownAll, listText_nil] at hQ
    exact call_list_repr_empty ⟨o, ho, hc⟩ ho hd ⟨_, _, rfl, hQ s.heap _ _ fun _ _ e => e⟩
  | cons x l =>
    exact call_list_reprK ho hc hd na (by simpa using k.length_eq) (fun i y e => k.item i y (by simpa using e)) hg (fun b _ => Clear.nil b) un (fun _ _ e => e) (fun h' u tk hk => ⟨_, _, rfl, hQ h' u tk hk⟩) hz
theorem top_tuple {a : Addr} {o : Obj} {n : Nat} {us : List Value} {ds : List PyData} (ho : s.heap.get? a = some o) (hc : o.cls = .type "tuple") (hd : o.data = .seq us.toArray n) (q : ShA P w s.heap us ds) (hg : A.guards = some []) (hu : A.units + ((PyData.tuple ds).depth + 1) < cLine)
    (hz : (PyData.tuple ds).shown.length ≤ sizeLine) (hQ : ∀ h' u tk, (∀ b o, s.heap.get? b = some o → h'.get? b = some o) → Q (.str (PyData.tuple ds).shown u) { s with heap := h', toks := tk }) : wpAny (model P w) A (call (.builtin "repr") [.ref a]) Q E s := by
  obtain ⟨as, bs, r, m, k⟩ := q
  have rr : Reads s.heap (.ref a) (.tuple ds) _ := Reads.tuple ho hc hd r
  have dp : (PyData.tuple ds).depth = PyData.depthAll ds + 1 := by simp only [PyData.depth]
  have na : a ∉ bs := not_mem_of_deeper rr (by omega) m
  have un : A.in1.units + (PyData.depthAll ds + 1) < cLine := by
    show A.units + 1 + (PyData.depthAll ds + 1) < cLine
    omega
  simp only [PyData.shown] at hQ hz
  refine call_repr_slot (by omega) ⟨o, ho, hc⟩ F.slot_tuple_repr ?_
  exact call_tuple_reprK ho hc hd na k hg (fun b _ => Clear.nil b) un (fun _ _ e => e) (fun h' u tk hk => ⟨_, _, rfl, hQ h' u tk hk⟩) hz
theorem top_dict {a : Addr} {o : Obj} {n : Nat} {es : Array DictEntry} {ds : List (PyData × PyData)} (ho : s.heap.get? a = some o) (hc : o.cls = .type "dict") (hd : o.data = .dict es n) (hsm : (a == sysModules) = false)
    (q1 : ShA P w s.heap (es.toList.map (·.key)) (ds.map (·.1))) (q2 : ShA P w s.heap (es.toList.map (·.val)) (ds.map (·.2))) (hg : A.guards = some []) (hu : A.units + ((PyData.dict ds).depth + 1) < cLine)
    (hz : (PyData.dict ds).shown.length ≤ sizeLine) (hQ : ∀ h' u tk, (∀ b o, s.heap.get? b = some o → h'.get? b = some o) → Q (.str (PyData.dict ds).shown u) { s with heap := h', toks := tk }) : wpAny (model P w) A (call (.builtin "repr") [.ref a]) Q E s := by
  obtain ⟨as, b1, r1, m1, k1⟩ := q1
  obtain ⟨cs, b2, r2, m2, k2⟩ := q2
  have rr : Reads s.heap (.ref a) (.dict ds) _ := Reads.dict ho hc hd r1 r2
  have dp : (PyData.dict ds).depth = PyData.depthKv ds + 1 := by simp only [PyData.depth]
  have m : ReadAtMost s.heap (PyData.depthKv ds) (b1 ++ b2) := (m1.mono (PyData.depthAll_keys_le ds)).append (m2.mono (PyData.depthAll_vals_le ds))
  have na : a ∉ b1 ++ b2 := not_mem_of_deeper rr (by omega) m
  have un : A.in1.units + (PyData.depthKv ds + 1) < cLine := by
    show A.units + 1 + (PyData.depthKv ds + 1) < cLine
    omega
  simp only [PyData.shown, PyData.shownKv_eq] at hQ
  simp only [PyData.shown] at hz
  have z1 := k1.more_le (fun b hb => (List.mem_append_left b2 hb : b ∈ b1 ++ b2)) (PyData.depthAll_keys_le ds)
  have z2 := k2.more_le (fun b hb => (List.mem_append_right b1 hb : b ∈ b1 ++ b2)) (PyData.depthAll_vals_le ds)
  refine call_repr_slot (by omega) ⟨o, ho, hc⟩ F.slot_dict_repr ?_
  exact call_dict_reprK ho hc hd hsm na (ReprEntriesK.of_two es.toList _ _ z1 z2) hg (fun b _ => Clear.nil b) un (fun _ _ e => e) (fun h' u tk hk => ⟨_, _, rfl, hQ h' u tk hk⟩) (by rw [← PyData.shownKv_eq]; exact hz)
end
theorem obj_hid {x : PyData} {ks : List (PyData × PyData)} : PyData.showable (.dict ((objK, x) :: ks)) = false := by
  have h : decide (bigI.natAbs.log2 < 1920) = false := by decide +kernel
  simp only [PyData.showable, PyData.showableKv, PyData.showableAll, h, Bool.false_and]
mutual
theorem At.sh {X : Cx} {pins : List (Addr × Obj)} {σ : L2.St} {H F : Hp} {s : Shared} (I : Inv X pins σ H s) (hf : Same F H) : ∀ (d : PyData) (v : V) (u : Value), At X.K F v d → RelV v u → d.showable = true → d.shown.length ≤ sizeLine → Sh X.prog X.w s.heap u d
  | .none, _, _, h, r, _, _ => by
    cases h; cases r
    exact ⟨[], [], Reads.none, fun _ z => (nomatch z), by simp only [PyData.shown]; exact .of_is ReprIs.none _ _ _⟩
  | .bool b, _, _, h, r, _, _ => by
    cases h; cases r
    exact ⟨[], [], Reads.bool b, fun _ z => (nomatch z), by simp only [PyData.shown]; exact .of_is (ReprIs.bool b) _ _ _⟩
  | .int i, _, _, h, r, hs, hz => by
    cases h
    obtain ⟨t, rfl⟩ := r
    exact rk_key (k := .inl i) (show keyIs (.inl i) (.int i t) = true by simp [keyIs, Value.isInt]) hs hz
  | .str x, _, _, h, r, hs, hz => by
    cases h
    obtain ⟨t, rfl⟩ := r
    exact rk_key (k := .inr x) (show keyIs (.inr x) (.str x t) = true by simp [keyIs, Value.isStr, Value.isStrOf]) hs hz
  | .list ds, _, _, h, r, hs, hz => by
    cases h with
    | lst hl ha =>
      cases r
      obtain ⟨its, rv, ⟨o, n, ho, hc, _, hdat⟩, _⟩ := I.list (SqL.of (hf _ _ hl))
      simp only [PyData.showable] at hs
      simp only [PyData.shown] at hz
      exact sh_list ho hc hdat (AtL.sh I hf ds _ its ha rv hs fun t ht => Nat.le_trans (listText_mem_le ht) hz)
  | .tuple ds, _, _, h, r, hs, hz => by
    cases h with
    | tup hl ha =>
      cases r
      obtain ⟨its, rv, ⟨o, ho, hc, n, hdat⟩, _⟩ := I.tuple (SqT.of (hf _ _ hl))
      simp only [PyData.showable] at hs
      simp only [PyData.shown] at hz
      exact sh_tuple ho hc hdat (AtL.sh I hf ds _ its ha rv hs fun t ht => Nat.le_trans (tupleText_mem_le ht) hz)
  | .dict ds, _, _, h, r, hs, hz => by
    cases h with
    | obj _ _ _ _ => exact absurd hs (by rw [obj_hid]; decide)
    | dct hl ha =>
      cases r
      obtain ⟨_, hd, vs, rel, o, es, ep, eo, exd, hdat, _, hp, _⟩ := dk_rd I.hok (rd_mono hf hl)
      simp only [PyData.showable] at hs
      simp only [PyData.shown] at hz
      obtain ⟨s1, s2⟩ := PyData.showableKv_split ds hs
      obtain ⟨q1, q2⟩ := AtKv.sh I hf ds _ vs es.toList ha rel hp s1 s2 (fun t ht => by
        obtain ⟨p, hp, hl⟩ := PyData.shownKv_key_le ds t ht
        exact Nat.le_trans hl (Nat.le_trans (dictText_mem_le hp) hz)) fun t ht => by
        obtain ⟨p, hp, hl⟩ := PyData.shownKv_val_le ds t ht
        exact Nat.le_trans hl (Nat.le_trans (dictText_mem_le hp) hz)
      exact sh_dict eo exd.1 hdat hd q1 q2
theorem AtL.sh {X : Cx} {pins : List (Addr × Obj)} {σ : L2.St} {H F : Hp} {s : Shared} (I : Inv X pins σ H s) (hf : Same F H) : ∀ (ds : List PyData) (vs : List V) (us : List Value), AtL X.K F vs ds → Vals vs us → PyData.showableAll ds = true → (∀ t ∈ PyData.shownAll ds, t.length ≤ sizeLine) → ShA X.prog X.w s.heap us ds
  | [], _, _, h, r, _, _ => by cases h; cases r; exact sha_nil
  | d :: ds, _, _, h, r, hs, hz => by
    cases h with
    | cons h1 h2 =>
      cases r with
      | cons r1 r2 =>
        simp only [PyData.showableAll, Bool.and_eq_true] at hs
        rw [PyData.shownAll] at hz
        exact sha_cons (At.sh I hf d _ _ h1 r1 hs.1 (hz _ (List.mem_cons_self ..))) (AtL.sh I hf ds _ _ h2 r2 hs.2 fun t ht => hz t (List.mem_cons_of_mem _ ht))
theorem AtKv.sh {X : Cx} {pins : List (Addr × Obj)} {σ : L2.St} {H F : Hp} {s : Shared} (I : Inv X pins σ H s) (hf : Same F H) : ∀ (ds : List (PyData × PyData)) (kvs : List (Key × V)) (vs : List (Key × Value)) (es : List DictEntry), AtKv X.K F kvs ds → KV kvs vs → Pairs (mixKind X.prog X.w) es vs →
    PyData.showableAll (ds.map (·.1)) = true → PyData.showableAll (ds.map (·.2)) = true → (∀ t ∈ PyData.shownAll (ds.map (·.1)), t.length ≤ sizeLine) → (∀ t ∈ PyData.shownAll (ds.map (·.2)), t.length ≤ sizeLine) →
    ShA X.prog X.w s.heap (es.map (·.key)) (ds.map (·.1)) ∧ ShA X.prog X.w s.heap (es.map (·.val)) (ds.map (·.2))
  | [], _, _, _, h, r, p, _, _, _, _ => by cases h; cases r; cases p; exact ⟨sha_nil, sha_nil⟩
  | (_, d) :: ds, _, _, _, h, r, p, s1, s2, z1, z2 => by
    cases h with
    | cons h1 h2 =>
      cases r with
      | cons r1 r2 =>
        cases p with
        | cons p1 p2 p3 =>
          obtain ⟨e1, e2⟩ := r1
          dsimp only at e1 e2
          rw [← e1] at p1
          rw [← p2] at e2
          simp only [List.map_cons, PyData.showableAll, Bool.and_eq_true] at s1 s2
          rw [List.map_cons, PyData.shownAll] at z1 z2
          obtain ⟨q1, q2⟩ := AtKv.sh I hf ds _ _ _ h2 r2 p3 s1.2 s2.2 (fun t ht => z1 t (List.mem_cons_of_mem _ ht)) fun t ht => z2 t (List.mem_cons_of_mem _ ht)
          exact ⟨sha_cons (rk_key p1 s1.1 (z1 _ (List.mem_cons_self ..))) q1, sha_cons (At.sh I hf d _ _ h1 e2 s2.1 (z2 _ (List.mem_cons_self ..))) q2⟩
end
def ShowsD (d : PyData) : Prop := d.showable = true ∧ d.shown.length ≤ sizeLine ∧ d.depth ≤ 30
theorem Shows.d {d : PyData} (h : Shows d) : ShowsD d := h.2
def rReprD (K : PySem.W.Frag) : List V → Hp → VK → Prop := fun xs H Q => ∃ x d, xs = [x] ∧ Da K H x d ∧ ShowsD d ∧ Q (.str d.shown) H
section
variable {X : Cx} {W : WC} {u : Nat} {e : Expr} {mas : MA} {pos p : Pos}
theorem cr_reprD (hg : X.A.guards = some []) (hu : X.A.units + 64 < cLine) : CallR X (.builtin "repr") (rReprD X.K) := by
  intro pins s σ H xs us Q I r ⟨x, d, e, ⟨F, hF, hd⟩, ⟨hs, hz, hdp⟩, q⟩
  subst e
  obtain ⟨u, rfl, ru⟩ := vals1 r
  have fin : ∀ h' v tk, (∀ b o, s.heap.get? b = some o → h'.get? b = some o) → EP X pins σ Q (.str d.shown v) { s with heap := h', toks := tk } := fun h' v tk hk => ⟨.str _, H, I.kept hk, ⟨_, rfl⟩, q⟩
  match d, hd, hs, hz, q, hdp, fin with
  | .none, hd, hs, hz, q, _, _ =>
    cases hd; cases ru
    simp only [PyData.shown] at q
    exact PySem.P.repr_of_none ⟨.str "None", H, I.tok _, ⟨_, rfl⟩, q⟩
  | .bool b, hd, hs, hz, q, _, _ =>
    cases hd; cases ru
    simp only [PyData.shown] at q
    exact PySem.P.repr_of_bool ⟨.str _, H, I.tok _, ⟨_, rfl⟩, q⟩
  | .int i, hd, hs, hz, q, _, _ =>
    cases hd
    obtain ⟨t, rfl⟩ := ru
    simp only [PyData.shown] at q
    exact PySem.P.repr_of_int (by simpa [PyData.showable] using hs) ⟨.str _, H, I.tok _, ⟨_, rfl⟩, q⟩
  | .str z, hd, hs, hz, q, _, _ =>
    cases hd
    obtain ⟨t, rfl⟩ := ru
    simp only [PyData.shown] at q hz
    exact PySem.P.repr_of_str ⟨.str _, H, I.tok _, ⟨_, rfl⟩, q⟩ hz
  | .list ds, hd, hs, hz, q, hdp, fin =>
    cases hd with
    | lst hl ha =>
      cases ru
      obtain ⟨its, rv, ⟨o, n, ho, hc, _, hdat⟩, _⟩ := I.list (SqL.of (hF _ _ hl))
      refine top_list ho hc hdat (AtL.sh I hF ds _ its ha rv (by simpa only [PyData.showable] using hs) fun t ht => Nat.le_trans (listText_mem_le ht) (by simpa only [PyData.shown] using hz)) hg (by omega) hz fin
  | .tuple ds, hd, hs, hz, q, hdp, fin =>
    cases hd with
    | tup hl ha =>
      cases ru
      obtain ⟨its, rv, ⟨o, ho, hc, n, hdat⟩, _⟩ := I.tuple (SqT.of (hF _ _ hl))
      refine top_tuple ho hc hdat (AtL.sh I hF ds _ its ha rv (by simpa only [PyData.showable] using hs) fun t ht => Nat.le_trans (tupleText_mem_le ht) (by simpa only [PyData.shown] using hz)) hg (by omega) hz fin
  | .dict ds, hd, hs, hz, q, hdp, fin =>
    cases hd with
    | obj _ _ _ _ => exact absurd hs (by rw [obj_hid]; decide)
    | dct hl ha =>
      cases ru
      obtain ⟨_, hsm, vs, rel, o, es, ep, eo, exd, hdat, _, hp, _⟩ := dk_rd I.hok (rd_mono hF hl)
      have hz' : (dictText (PyData.shownKv ds)).length ≤ sizeLine := by simpa only [PyData.shown] using hz
      obtain ⟨s1, s2⟩ := PyData.showableKv_split ds (by simpa only [PyData.showable] using hs)
      obtain ⟨q1, q2⟩ := AtKv.sh I hF ds _ vs es.toList ha rel hp s1 s2 (fun t ht => by
        obtain ⟨p, hp, hl⟩ := PyData.shownKv_key_le ds t ht
        exact Nat.le_trans hl (Nat.le_trans (dictText_mem_le hp) hz')) fun t ht => by
        obtain ⟨p, hp, hl⟩ := PyData.shownKv_val_le ds t ht
        exact Nat.le_trans hl (Nat.le_trans (dictText_mem_le hp) hz')
      refine top_dict eo exd.1 hdat hsm q1 q2 hg (by omega) hz fin
def oReprD : D1 := fun x R => match x.pd with
  | some d => ShowsD d ∧ R (.d (.str d.shown))
  | none => False
theorem on_reprD : OpN X (rReprD X.K) (o1 oReprD) := on_1 fun G F δ σ H v x R Q hK g hx h k => by
  unfold oReprD at h
  split at h
  · rename_i d e
    have hd := pd_da hx g.fh e
    rw [hK] at hd
    exact ⟨v, d, rfl, hd, h.1, k _ h.2 _ F H (g.pushD (.str _))⟩
  · exact h.elim
theorem de_reprD (cx : CtxU X) (hg : Gl X "repr") (hm : X.mg "repr" = none) (ha : DA X W [e] mas u) (he : starEach [e] X.env = (false, eval e X.env) :: starEach [] X.env := by rfl) (hpl : (backTo pos (starEach [] X.env)).any (·.1) = false := by rfl) :
    DE X W (.Call (.Name "repr" p) [e] [] pos) (mCB (o1 oReprD) mas) u := de_callB (cr_reprD cx.gd cx.u64) on_reprD hg hm (by decide +kernel) ha (by decide) (by decide) he hpl
end
def rIdxD (K : PySem.W.Frag) : V → List V → Hp → VK → Prop := fun x xs H Q => ∃ y d ds j z, xs = [y] ∧ Da K H x (.list ds) ∧ Da K H y d ∧ SeqAt.shaped (.list ds) = true ∧ SeqAt.shaped d = true ∧ ds[j]? = some z ∧ PyData.eqv z d = true ∧ (∀ (m : Nat) (z' : PyData), m < j → ds[m]? = some z' → PyData.eqv z' d = false) ∧ Q (.int (j : Nat)) H
section
variable {X : Cx} {W : WC} {u1 u2 : Nat} {e : Expr} {es : List Expr} {mas : MA} {me : ME} {pos p ap cp : Pos}
theorem mt_idxD (hu : X.A.units + 65 < cLine) : MtR X "list.index" (rIdxD X.K) := by
  intro pins s σ H x xs v us Q I rx rxs h
  obtain ⟨y, d, ds, j, z, rfl, ⟨F, hF, hl⟩, ⟨F2, hF2, hy⟩, sl, sd, hz, hzj, hno, q⟩ := h
  cases hl with
  | lst hs ha =>
    cases rx
    obtain ⟨uy, rfl, ry⟩ := rxs.one
    obtain ⟨bs, r1⟩ := At.reads I hF2 d y uy (shaped_nd sd) hy ry
    have hxs : PyData.canLayAll0 ds = true := SeqAt.canLay_of_shaped sl
    obtain ⟨its, rv, ⟨⟨cls, dd, dat, sls⟩, n, ho, hc, hdn, hdt⟩, hlen⟩ := I.list (SqL.of (hF _ _ hs))
    simp only at hc hdt
    subst hc hdt
    obtain ⟨as, h4⟩ := AtL.reads I hF ds _ its (by have := shaped_nd sl; simpa only [PyData.hasDict] using this) ha rv
    have hmap : its.map (SeqAt.readOf s.heap) = ds := SeqAt.readsAll_map ds its as hxs h4
    have hit : ∀ (m : Nat) (hm : m < its.toArray.size) (z' : PyData), ds[m]? = some z' → SeqAt.readOf s.heap its.toArray[m] = z' := fun m hm z' hz' => by
      rw [← hmap, List.getElem?_map] at hz'
      rw [List.getElem?_eq_getElem (by simpa using hm)] at hz'
      exact Option.some.inj hz'
    have hjd := (List.getElem?_eq_some_iff.mp hz).1
    have hj : j < its.toArray.size := by
      have : ds.length = its.length := by rw [← hmap, List.length_map]
      simpa [this] using hjd
    have hv := rv.length
    refine call_meets PySem.F.slot_list_index ⟨_, ho, rfl⟩ PySem.F.entry_list_index (PySem.F.args_list_index_2 _ _)
      (SeqAt.list_indexAt _ its.toArray n dd sls uy (fun u => PyData.eqv (SeqAt.readOf s.heap u) d) j hj (by have := sizeLine_eq; simp only [List.size_toArray] at hj; omega) (by
        show PyData.eqv (SeqAt.readOf s.heap its.toArray[j]) d = true
        rw [hit j hj z hz]
        exact hzj) fun m hm hmj => by
        have hmd : m < ds.length := Nat.lt_trans hmj hjd
        show PyData.eqv (SeqAt.readOf s.heap its.toArray[m]) d = false
        rw [hit m hm _ (List.getElem?_eq_getElem hmd)]
        exact hno m _ hmj (List.getElem?_eq_getElem hmd)) ⟨ho, SeqAt.items_eqAt (vs := its.toArray) (show ReadsAll s.heap its.toArray.toList ds as from h4) r1 hxs (SeqAt.canLay_of_shaped sd) (PyProof.Rows.room_in_shaped sd hu), ?_⟩
    exact ⟨.int _, H, I.tok _, ⟨_, rfl⟩, q⟩
def mMeth (o : D2) (me : ME) (t : MA) : ME := fun ex δ R => me ex δ fun x => x.lst.isSome = true ∧ t ex δ fun ys => match ys with
  | [y] => o x y R
  | _ => False
theorem de_meth {name : Str} {id : String} {r : V → List V → Hp → VK → Prop} {o : D2} {rc : Expr} (slot : Slot "list" name id) (hty : typeOf (.builtin id) = pure (.type "method_descriptor")) (hm : MtR X id r)
    (ho : OpN X (fun vs H Q => match vs with | v :: us => r v us H Q | [] => False) (fun xs R => match xs with | [x, y] => o x y R | _ => False)) (hr : DE X W rc me u1) (ha : DA X W [e] mas u2)
    (hbase : attributeBase rc name X.env (eval rc X.env) = eval rc X.env := by rfl)
    (hfew : ((backTo cp (starEach [e] X.env)).all (fun x => !x.1) && (backToKw cp (keywordEach [] X.env)).all (fun x => x.1.isSome)
      && decide ([e].length + ([] : List Keyword).length + (if ([] : List Keyword).isEmpty then 0 else 1) < 30)) = true := by rfl)
    (hline : (ap.endLine == cp.line) = true := by rfl) (hs : starEach [e] X.env = (false, eval e X.env) :: starEach [] X.env := by rfl) (hplain : (backTo cp (starEach [] X.env)).any (·.1) = false := by rfl) :
    DE X W (.Call (.Attribute rc name ap) [e] [] cp) (mMeth o me mas) (u1 + u2) :=
  ⟨PE.imp (pe_bm PySem.F.plainAttrs_list slot hty hm hr.pe ha.pa hbase hfew hline hs hplain) fun σ H Q q => by
    obtain ⟨ex, G, F, δ, τ, ts, τ1, ts1, R, n, m, k⟩ := q
    refine ⟨ex, G, F, δ, τ, ts, τ1, ts1, _, n.fst, m, fun x hx v F1 H1 g1 => ?_⟩
    obtain ⟨hlst, hx⟩ := hx
    refine ⟨?_, ex, G.up u1, F1, δ, τ, ts, _, _, _, n.after g1, hx, fun ys hys vs F2 H2 hl g2 => ?_⟩
    · obtain ⟨xs, exs⟩ := Option.isSome_iff_exists.mp hlst
      obtain ⟨v', vs, e1, h1, h2⟩ := lst_of g1.top g1.fh exs
      subst e1
      exact .inl ⟨rfl, vs, SqL.of h1⟩
    · match ys, hys, vs, hl with
      | [y], hys, [w], _ =>
        exact ho ((G.up u1).up u2) F2 (δ ++ τ ++ τ1) (σ ++ ts ++ ts1) H2 [v, w] [x, y] R Q n.k rfl (by simpa [List.append_assoc] using g2) hys fun z hz w' F' H' g' => k z hz w' F' H' (by rw [← up_up]; exact g')⟩
def oIdx : D2 := fun x y R => match x.pd, y.pd with
  | some (.list ds), some d => SeqAt.shaped (.list ds) = true ∧ SeqAt.shaped d = true ∧ ∃ j z, ds[j]? = some z ∧ PyData.eqv z d = true ∧ (∀ (m : Nat) (z' : PyData), m < j → ds[m]? = some z' → PyData.eqv z' d = false) ∧ R (.d (.int (j : Nat)))
  | _, _ => False
theorem on_idx : OpN X (fun vs H Q => match vs with | v :: us => rIdxD X.K v us H Q | [] => False) (fun xs R => match xs with | [x, y] => oIdx x y R | _ => False) := on_2 fun G F δ σ H v u x y R Q hK g hx hy h k => by
  unfold oIdx at h
  split at h
  · rename_i ds d e1 e2
    have h1 := pd_da hx g.fh e1
    have h2 := pd_da hy g.fh e2
    rw [hK] at h1 h2
    obtain ⟨a, b, j, z, c1, c2, c3, c4⟩ := h
    exact ⟨u, d, ds, j, z, rfl, h1, h2, a, b, c1, c2, c3, k _ c4 _ F H (g.pushD (.int _))⟩
  · exact h.elim
theorem de_index (cx : CtxU X) {rc : Expr} (hr : DE X W rc me u1) (ha : DA X W [e] mas u2)
    (hbase : attributeBase rc "index" X.env (eval rc X.env) = eval rc X.env := by rfl)
    (hfew : ((backTo cp (starEach [e] X.env)).all (fun x => !x.1) && (backToKw cp (keywordEach [] X.env)).all (fun x => x.1.isSome)
      && decide ([e].length + ([] : List Keyword).length + (if ([] : List Keyword).isEmpty then 0 else 1) < 30)) = true := by rfl)
    (hline : (ap.endLine == cp.line) = true := by rfl) (hs : starEach [e] X.env = (false, eval e X.env) :: starEach [] X.env := by rfl) (hplain : (backTo cp (starEach [] X.env)).any (·.1) = false := by rfl) :
    DE X W (.Call (.Attribute rc "index" ap) [e] [] cp) (mMeth oIdx me mas) (u1 + u2) := de_meth PySem.F.slot_list_index PySem.F.type_list_index (mt_idxD cx.u65) on_idx hr ha hbase hfew hline hs hplain
end
structure SzD (d : PyData) (dp wd : Nat) : Prop where
  sh : d.showable = true
  de : d.depth ≤ dp
  ln : d.shown.length ≤ wd
theorem Sz.d {d : PyData} {dp wd : Nat} (h : Sz d dp wd) : SzD d dp wd := ⟨h.sh, h.de, Nat.le_trans (shown_le d h.nd h.sh) h.wi⟩
theorem SzD.mono {d : PyData} {a b a' b' : Nat} (h : SzD d a b) (ha : a ≤ a') (hb : b ≤ b') : SzD d a' b' := ⟨h.sh, Nat.le_trans h.de ha, Nat.le_trans h.ln hb⟩
theorem SzD.shows {d : PyData} {dp wd : Nat} (h : SzD d dp wd) (h1 : dp ≤ 30) (h2 : wd ≤ sizeLine) : ShowsD d := ⟨h.sh, Nat.le_trans h.ln h2, Nat.le_trans h.de h1⟩
theorem szDA {dp wd : Nat} : ∀ {xs : List PyData}, (∀ x ∈ xs, SzD x dp wd) → PyData.showableAll xs = true ∧ PyData.depthAll xs ≤ dp ∧ piled (PyData.shownAll xs) ≤ xs.length * (wd + 2)
  | [], _ => ⟨rfl, Nat.zero_le _, by simp [PyData.shownAll, piled_nil]⟩
  | x :: xs, h => by
    have a := h x (by simp)
    obtain ⟨b1, b2, b3⟩ := szDA (xs := xs) fun y hy => h y (by simp [hy])
    refine ⟨by simp [PyData.showableAll, a.sh, b1], ?_, ?_⟩
    · simp only [PyData.depthAll]
      have := a.de
      omega
    · have := a.ln
      simp only [PyData.shownAll, piled_cons, List.length_cons, Nat.succ_mul]
      omega
theorem SzD.lst {xs : List PyData} {dp wd n : Nat} (h : ∀ x ∈ xs, SzD x dp wd) (hn : xs.length ≤ n) : SzD (.list xs) (dp + 1) (4 + n * (wd + 2)) := by
  obtain ⟨b1, b2, b3⟩ := szDA h
  have hm : xs.length * (wd + 2) ≤ n * (wd + 2) := Nat.mul_le_mul_right _ hn
  refine ⟨by simp [PyData.showable, b1], by simp only [PyData.depth]; omega, ?_⟩
  have := listText_le (PyData.shownAll xs)
  simp only [PyData.shown]
  omega
theorem SzD.tup {xs : List PyData} {dp wd n : Nat} (h : ∀ x ∈ xs, SzD x dp wd) (hn : xs.length ≤ n) : SzD (.tuple xs) (dp + 1) (4 + n * (wd + 2)) := by
  obtain ⟨b1, b2, b3⟩ := szDA h
  have hm : xs.length * (wd + 2) ≤ n * (wd + 2) := Nat.mul_le_mul_right _ hn
  refine ⟨by simp [PyData.showable, b1], by simp only [PyData.depth]; omega, ?_⟩
  have := tupleText_le (PyData.shownAll xs)
  simp only [PyData.shown]
  omega
theorem SzD.two {x y : PyData} {dp wd : Nat} (hx : SzD x dp wd) (hy : SzD y dp wd) : SzD (.list [x, y]) (dp + 1) (4 + 2 * (wd + 2)) := SzD.lst (fun z hz => by
  rcases List.mem_cons.mp hz with rfl | hz
  · exact hx
  · cases List.mem_singleton.mp hz
    exact hy) (by simp)
theorem val_odk (xs : List (PyData × PyData)) : (DV.odk xs).val = some (.dict xs) := rfl
end DL
namespace DL
open PySem PySem.Spec L2
section
variable {X : Cx} {W : WC} {u : Nat} {e : Expr} {es : List Expr} {m m' : ME} {pos : Pos}
end
end DL
namespace L2
open PySem PySem.Spec PyProof.Rows
section
variable {P : Program} {w : World} {A : Around} {E : Value → Shared → Prop} {s : Shared}
theorem nodup_sub {α : Type} [DecidableEq α] : ∀ {xs L : List α}, xs.Nodup → (∀ x ∈ xs, x ∈ L) → xs.length ≤ L.length
  | [], L, _, _ => Nat.zero_le _
  | x :: xs, L, hn, hs => by
    have h1 := List.nodup_cons.mp hn
    have hx := hs x (by simp)
    have := nodup_sub (L := L.erase x) h1.2 fun y hy => (List.mem_erase_of_ne (fun e : y = x => h1.1 (e ▸ hy))).mpr (hs y (by simp [hy]))
    rw [List.length_erase_of_mem hx] at this
    have := List.length_pos_of_mem hx
    simp only [List.length_cons]
    omega
end
end L2
namespace DL
open PySem PySem.Spec L2
section
variable {X : Cx} {W : WC} {u1 : Nat} {e : Expr} {pos : Pos} {mas : MA}
end
end DL
namespace DL
open PySem PySem.Spec L2
theorem six_pos {n d : Nat} {j : Int} (h : 0 ≤ j) : HT.sIx n d (some j) = min j.toNat n := by
  show (if j < 0 then _ else _) = _
  rw [if_neg (by omega)]
theorem six_none {n d : Nat} : HT.sIx n d none = d := rfl
theorem cut_pre {xs : List PyData} {j : Int} (h : 0 ≤ j) : cutD xs none (some j) = xs.take j.toNat := by
  unfold cutD
  rw [six_none, six_pos h, List.drop_zero, Nat.sub_zero]
  rcases Nat.le_total j.toNat xs.length with q | q
  · rw [Nat.min_eq_left q]
  · rw [Nat.min_eq_right q, List.take_of_length_le (Nat.le_refl _), List.take_of_length_le q]
end DL
namespace DL
open PySem PySem.Spec L2
section
variable {X : Cx} {W : WC} {u1 u2 : Nat} {a b : Expr} {pos : Pos} {ma mb : ME}
def rEqE (K : PySem.W.Frag) (neg : Bool) : R2 := fun x y H Q => (∃ l m vs ws, x = .ref l ∧ y = .ref m ∧ SqL K H l vs ∧ SqL K H m ws ∧ vs.length ≠ ws.length ∧ Q (.bl neg) H) ∨ (∃ l m vs, x = .ref l ∧ y = .ref m ∧ SqT K H l vs ∧ SqT K H m [] ∧ Q (.bl (if neg then !vs.isEmpty else vs.isEmpty)) H) ∨ rEqB K neg x y H Q
theorem op_neE (hu : X.A.units + 64 < cLine) : OpR X (compareOp .NotEq) (rEqE X.K true) := by
  intro pins s σ H x y v u Q I rx ry h
  rcases h with ⟨l, m, vs, ws, rfl, rfl, h1, h2, hne, q⟩ | ⟨l, m, vs, rfl, rfl, h1, h2, q⟩ | h
  · obtain ⟨its, rv, pl, hz⟩ := I.list h1
    obtain ⟨jts, rw', pm, hy⟩ := I.list h2
    cases rx
    cases ry
    have e1 := rv.length
    have e2 := rw'.length
    exact SeqAt.RcNeAt.lists_lengths pl.isList pm.isList (by simp; omega) (by omega) _ _ _ _ ⟨.bl _, H, I, rfl, q⟩
  · obtain ⟨its, rv, pl, hz⟩ := I.tuple h1
    obtain ⟨jts, rw', pm, hy⟩ := I.tuple h2
    cases rx
    cases ry
    have e1 := rv.length
    have e2 : jts = [] := by
      have := rw'.length
      exact List.eq_nil_of_length_eq_zero (by simpa using this.symm)
    subst e2
    refine SeqAt.RcNeAt.tuples (e := fun _ => true) pl pm (by omega) (fun j h1 h2 => absurd h2 (by simp)) _ _ _ _ ⟨.bl _, H, I, ?_, q⟩
    cases vs with
    | nil =>
      have : its = [] := List.eq_nil_of_length_eq_zero (by simpa using e1.symm)
      subst this
      rfl
    | cons a r =>
      cases its with
      | nil => simp at e1
      | cons b t => simp; rfl
  · exact op_neB hu pins s σ H x y v u Q I rx ry h
def oEqE (neg : Bool) : D2 := fun x y R => match x.lst, y.lst with
  | some xs, some [] => R (.d (.bool (if neg then !xs.isEmpty else xs.isEmpty)))
  | _, _ => match x, y with
    | .d (.tuple xs), .d (.tuple []) => R (.d (.bool (if neg then !xs.isEmpty else xs.isEmpty)))
    | _, _ => oEq neg x y R
theorem lst_pd {x : DV} {xs : List PyData} (h : x.lst = some xs) : x.pd = some (.list xs) := by
  cases x with
  | d y =>
    cases y with
    | list ys => cases h; rfl
    | _ => cases h
  | own ys => cases h; rfl
  | bor ys => cases h; rfl
  | _ => cases h
theorem o2_eqE {neg : Bool} : Op2 X (rEqE X.K neg) (oEqE neg) := by
  intro G F δ σ H v u x y R Q hK g hx hy h k
  unfold oEqE at h
  split at h
  · rename_i xs e1 e2
    obtain ⟨l, vs, rfl, h1, h2⟩ := lst_of hx g.fh e1
    obtain ⟨m, ws, rfl, h3, h4⟩ := lst_of hy g.fh e2
    cases xs with
    | cons z zs =>
      refine .inl ⟨l, m, vs, ws, rfl, rfl, SqL.of h1, SqL.of h3, ?_, ?_⟩
      · rw [h2.length, h4.length]
        simp
      · have e : (if neg then !(z :: zs).isEmpty else (z :: zs).isEmpty) = neg := by cases neg <;> rfl
        rw [e] at h
        exact k _ h (.bl neg) F H (g.pushD (.bl _))
    | nil =>
      refine .inr (.inr (o2_eq G F δ σ H _ _ x y R Q hK g hx hy ?_ k))
      unfold oEq
      rw [lst_pd e1, lst_pd e2]
      have e : PyData.eqv (.list []) (.list []) = true := by simp [PyData.eqv, PyData.eqvAll]
      refine ⟨by decide +kernel, by decide +kernel, ?_⟩
      rw [e]
      cases neg <;> exact h
  · split at h
    · rename_i xs _
      obtain ⟨l, vs, rfl, h1, h2⟩ := tup_of hx g.fh
      obtain ⟨m, ws, rfl, h3, h4⟩ := tup_of hy g.fh
      cases h4
      rw [hK] at h1 h3
      refine .inr (.inl ⟨l, m, vs, rfl, rfl, h1, h3, ?_⟩)
      have e : vs.isEmpty = xs.isEmpty := by cases h2 <;> rfl
      rw [e]
      exact k _ h (.bl _) F H (g.pushD (.bl _))
    · exact .inr (.inr (o2_eq G F δ σ H v u x y R Q hK g hx hy h k))
theorem dt_neE (cx : CtxU X) (ha : DE X W a ma u1) (hb : DE X W b mb u2) : DT X W (.Compare a [.NotEq] [b] pos) (mB (mBin (oEqE true) ma mb)) (u1 + u2) := dt_cmp (op_neE cx.u64) o2_eqE ha hb (nomark _)
end
section
variable {xs : List PyData} {neg : Bool} {R : DV → Prop}
theorem oEqE_l : oEqE false (.d (.list xs)) (.own []) R = R (.d (.bool xs.isEmpty)) := rfl
theorem oEqE_o : oEqE false (.own xs) (.own []) R = R (.d (.bool xs.isEmpty)) := rfl
theorem oEqE_b : oEqE false (.bor xs) (.own []) R = R (.d (.bool xs.isEmpty)) := rfl
theorem oNeE_l : oEqE true (.d (.list xs)) (.own []) R = R (.d (.bool (!xs.isEmpty))) := rfl
theorem oNeE_o : oEqE true (.own xs) (.own []) R = R (.d (.bool (!xs.isEmpty))) := rfl
theorem oNeE_b : oEqE true (.bor xs) (.own []) R = R (.d (.bool (!xs.isEmpty))) := rfl
theorem oEqE_t : oEqE false (.d (.tuple xs)) (.d (.tuple [])) R = R (.d (.bool xs.isEmpty)) := rfl
theorem oNeE_t : oEqE true (.d (.tuple xs)) (.d (.tuple [])) R = R (.d (.bool (!xs.isEmpty))) := rfl
end
end DL
namespace DL
open PySem PySem.Spec L2
theorem at3 {a b c d : PyData} {l : List PyData} : atI (a :: b :: c :: d :: l) 3 = some d := atI_nat (j := 3) rfl
theorem at4 {a b c d e : PyData} {l : List PyData} : atI (a :: b :: c :: d :: e :: l) 4 = some e := atI_nat (j := 4) rfl
theorem at5 {a b c d e f : PyData} {l : List PyData} : atI (a :: b :: c :: d :: e :: f :: l) 5 = some f := atI_nat (j := 5) rfl
theorem oBools_map {f : List Bool → Bool} {bs : List Bool} {R : DV → Prop} : oBools f (.own (bs.map PyData.bool)) R = R (.d (.bool (f bs))) := by
  unfold oBools
  simp only [DV.lst, boolsOf_map]
theorem eqv_same (a : Str) : PyData.eqv (.str a) (.str a) = true := by simp [PyData.eqv]
theorem natD_ints (ks : List Nat) : ks.map natD = (ks.map fun k : Nat => (k : Int)).map PyData.int := by rw [List.map_map]; rfl
theorem shaped_nats (ks : List Nat) : SeqAt.shaped (.list (ks.map natD)) = true := by rw [natD_ints]; exact shaped_ints _
theorem inD {ks : List Nat} {k : Nat} : ((ks.map natD).any fun z => PyData.eqv z (.int (k : Nat))) = decide (k ∈ ks) := by
  rw [natD_ints, any_ints]
  have e2 : ((k : Nat) : Int) ∈ (ks.map fun k : Nat => (k : Int)) ↔ k ∈ ks := by
    rw [List.mem_map]
    constructor
    · rintro ⟨a, ha, hk⟩
      have : a = k := by omega
      exact this ▸ ha
    · exact fun h => ⟨k, h, rfl⟩
  exact decide_eq_decide.mpr e2
theorem seq_gen {m1 m2 : MS} {ex : XD} {E : DEnds} {δ : Env} (I : Env → Prop) (h2 : ∀ δ', I δ' → m2 ex E δ') (h1 : ∀ K : Env → Prop, (∀ δ', I δ' → K δ') → m1 ex { E with nx := K } δ) : mSeq m1 m2 ex E δ := h1 _ h2
def AllP (P : PyData → Prop) (xs : List PyData) : Prop := ∀ x ∈ xs, P x
section
variable {P : PyData → Prop} {xs ys : List PyData} {x : PyData}
theorem AllP.nil : AllP P [] := fun x h => by cases h
theorem AllP.one (h : P x) : AllP P [x] := fun y hy => by cases List.mem_singleton.mp hy; exact h
theorem AllP.cons (h : P x) (t : AllP P xs) : AllP P (x :: xs) := fun y hy => by
  rcases List.mem_cons.mp hy with rfl | q
  · exact h
  · exact t y q
theorem AllP.take (h : AllP P xs) (n : Nat) : AllP P (xs.take n) := fun y hy => h y (List.mem_of_mem_take hy)
theorem AllP.drop (h : AllP P xs) (n : Nat) : AllP P (xs.drop n) := fun y hy => h y (List.mem_of_mem_drop hy)
theorem AllP.imp {Q : PyData → Prop} (h : AllP P xs) (f : ∀ x, P x → Q x) : AllP Q xs := fun y hy => f y (h y hy)
end
end DL
namespace DL
open PySem PySem.Spec L2 StX
structure BindSK (K : PySem.W.Frag) (fd : FuncData) (pk pv : Str) (D : Addr) : Prop where
  without : ∀ (du : Value) (rest : List Value), PySem.W.nsIn K D pk = some (some du) → ∃ (β γ : Type) (k1 : Option Value → Sem β) (k2 : β → Sem γ) (k3 : γ → Sem (List (Str × Value))) (a : β), bindArgs fd ⟨rest, []⟩ = ((nsGet D pk >>= k1) >>= k2) >>= k3 ∧ k1 (some du) = pure a ∧ (k2 a >>= k3) = (newTuple rest >>= fun t => pure [(pk, du), (pv, t)])
  with_ : ∀ (u : Value) (rest : List Value), bindArgs fd ⟨rest, [(pk, u)]⟩ = (newTuple rest >>= fun t => pure [(pk, u), (pv, t)])
structure FunSK (K : PySem.W.Frag) (x qual : Str) (st : Stmt) (f : Addr) (pk pv : Str) (dv : V) : Prop where
  ex : ∃ (oc : Value) (od : Option Addr) (D : Addr) (doc pm : Value) (an : Option Addr) (cdv ct du : Value) (osl : Array (Option Value)),
    K.lookup f = some ⟨oc, od, .func (PySem.W.fnOf x qual (L2.defArgs st) (L2.defBody st) (L2.defScope st) .none (.ref D) doc pm an cdv ct), osl⟩ ∧ PySem.W.codeIn K cdv qual = true ∧ PySem.W.nsIn K D pk = some (some du) ∧ RelV dv du ∧
    BindSK K (PySem.W.fnOf x qual (L2.defArgs st) (L2.defBody st) (L2.defScope st) .none (.ref D) doc pm an cdv ct) pk pv D
  kp : PySem.W.keepIn K (.ref f) = true
structure FnSK (P : Program) (w : World) (K : PySem.W.Frag) (mg : Str → Option Value) (base : Heap) (k : Nat) (f : Addr) (pk : Str) (dv : V) (sp : Sp) : Prop where
  run : ∀ (A : Around) (outer : List PySem.Env) (s : Shared) (H : Hp) (us : List Value) (vs : List V) (kw : List (Str × Value)) (gv : V) (Q : VK) (E : XK), A.guards = some [] → Room k A → Env0 P w K mg base A outer s H → Vals vs us → ((kw = [] ∧ gv = dv) ∨ ∃ u, kw = [(pk, u)] ∧ RelV gv u) → sp (gv :: vs) H Q E →
    codeAny (model P w) A (.call (.ref f) ⟨us, kw⟩) (CR (L2.CX P w) outer P w H s Q E) s
section
variable {P : Program} {w : World} {K : PySem.W.Frag} {mg : Str → Option Value} {base : Heap}
structure DFnSK (P : Program) (w : World) (K : PySem.W.Frag) (mg : Str → Option Value) (base : Heap) (CK : CKT) (x pk : Str) (dd : PyData) (k u : Nat) (mf : MF) : Prop where
  ex : ∃ f dv, mg x = some (.ref f) ∧ PySem.W.keepIn K (.ref f) = true ∧ (∀ F, At K F dv dd) ∧ FnSK P w K mg base k f pk dv (spS K mg CK u mf)
theorem DFnSK.le {x pk : Str} {dd : PyData} {k u u' : Nat} {mf : MF} {CK : CKT} (h : DFnSK P w K mg base CK x pk dd k u mf) (hu : u ≤ u') : DFnSK P w K mg base CK x pk dd k u' mf := by
  obtain ⟨f, dv, h1, h2, h3, h5⟩ := h
  refine ⟨f, dv, h1, h2, h3, ⟨fun A outer s H us vs kw gv Q E hg hr e0 r hk q => h5.run A outer s H us vs kw gv Q E hg hr e0 r hk ?_⟩⟩
  obtain ⟨G, F, as, R, ex, q2, q3, q4, q5, q6, q7, q8, q9⟩ := q
  exact ⟨G, F, as, R, ex, q2, ⟨q3.1, Nat.le_trans (Nat.add_le_add_left hu _) q3.2⟩, q4, q5, q6, q7, fun r hr ha v F' H' g => q8 r hr ha v F' H' (g.mono hu), fun e he b cls d F' H' hb g => q9 e he b cls d F' H' (Nat.le_trans hb hu) g⟩
end
section
variable {X : Cx} {W : WC} {e e0 : Expr} {es : List Expr} {pos p kp : Pos} {mas : MA} {me : ME} {x pk : Str} {dd : PyData} {k j u1 u2 u3 : Nat} {mf : MF}
end
end DL
namespace DL
open PySem PySem.Spec L2 PySem.W
section
variable {X : Cx} {W : WC} {u1 u2 k : Nat} {pos : Pos} {K' : Frag} {mg' : Str → Option Value} {L : List Str} {sub : Str → Str → Bool}
end
end DL
namespace DL
open PySem PySem.Spec L2
theorem end_of {l : SRow} (I : Inc l) {s m : Nat} (h : IsEnd l s m) : endOf l s = m := (endOf_ok I (by have := h.le; have := h.lt; omega)).uniq h
theorem IsStart.uniq {l : SRow} {s m k : Nat} (h1 : IsStart l s m) (h2 : IsStart l s k) : m = k := by
  rcases Nat.lt_trichotomy m k with h | h | h
  · obtain ⟨j, a, b, c⟩ := h1.ch (k - 1) (by omega) (by have := h2.le; omega)
    have := h2.st (by omega) j (by omega) b
    omega
  · exact h
  · obtain ⟨j, a, b, c⟩ := h2.ch (m - 1) (by omega) (by have := h1.le; omega)
    have := h1.st (by omega) j (by omega) b
    omega
theorem start_of {l : SRow} (I : Inc l) {s m : Nat} (h : IsStart l s m) : startOf l s = m := (startOf_ok I h.lt).uniq h
def behL (b : Int) (l m : SRow) : SRow := l ++ m.map fun p => (p.1 + b, p.2)
structure Beh (b : Int) (l m : SRow) : Prop where
  il : Inc l
  im : Inc m
  n : l.length + m.length ≤ 1000
  lt : pl l (l.length - 1) < pl m 0 + b
section
variable {b : Int} {l m : SRow}
theorem beh_len : (behL b l m).length = l.length + m.length := by unfold behL; simp
theorem beh_l {i : Nat} (h : i < l.length) : pl (behL b l m) i = pl l i ∧ ht (behL b l m) i = ht l i := by
  unfold pl ht behL
  simp only [List.getD_eq_getElem?_getD, List.getElem?_append_left h]
  exact ⟨trivial, trivial⟩
theorem beh_r {i : Nat} (h : i < m.length) : pl (behL b l m) (l.length + i) = pl m i + b ∧ ht (behL b l m) (l.length + i) = ht m i := by
  unfold pl ht behL
  simp only [List.getD_eq_getElem?_getD, List.getElem?_append_right (Nat.le_add_right _ _), Nat.add_sub_cancel_left, List.getElem?_map, List.getElem?_eq_getElem h]
  exact ⟨rfl, rfl⟩
theorem Inc.le_end {l : SRow} (I : Inc l) {i : Nat} (h : i < l.length) : pl l i ≤ pl l (l.length - 1) := by
  rcases Nat.lt_or_ge i (l.length - 1) with q | q
  · have := I.inc i (l.length - 1) q (by omega); omega
  · have : i = l.length - 1 := by omega
    rw [this]; omega
theorem Inc.ge0 {l : SRow} (I : Inc l) {i : Nat} (h : i < l.length) : pl l 0 ≤ pl l i := by
  rcases Nat.eq_zero_or_pos i with rfl | q
  · omega
  · have := I.inc 0 i q h; omega
theorem Beh.inc (B : Beh b l m) : Inc (behL b l m) := by
  have hl := B.il.n0
  have hm := B.im.n0
  refine ⟨by rw [beh_len]; omega, by rw [beh_len]; exact B.n, fun i j hij hj => ?_, fun i hi => ?_⟩
  · rw [beh_len] at hj
    rcases Nat.lt_or_ge j l.length with q | q
    · rw [(beh_l (show i < l.length by omega)).1, (beh_l q).1]
      exact B.il.inc i j hij q
    · obtain ⟨j', rfl⟩ : ∃ j', j = l.length + j' := ⟨j - l.length, by omega⟩
      rw [(beh_r (show j' < m.length by omega)).1]
      have h0 := B.im.ge0 (show j' < m.length by omega)
      rcases Nat.lt_or_ge i l.length with q2 | q2
      · rw [(beh_l q2).1]
        have := B.il.le_end q2
        have := B.lt
        omega
      · obtain ⟨i', rfl⟩ : ∃ i', i = l.length + i' := ⟨i - l.length, by omega⟩
        rw [(beh_r (show i' < m.length by omega)).1]
        have := B.im.inc i' j' (by omega) (by omega)
        omega
  · rw [beh_len] at hi
    rcases Nat.lt_or_ge i l.length with q | q
    · rw [(beh_l q).2]; exact B.il.hp i q
    · obtain ⟨i', rfl⟩ : ∃ i', i = l.length + i' := ⟨i - l.length, by omega⟩
      rw [(beh_r (show i' < m.length by omega)).2]
      exact B.im.hp i' (by omega)
end
structure Shp (d : PyData) (n : Nat) : Prop where
  ly : d.canLay0 = true
  de : d.depth ≤ n
theorem shp_int (i : Int) (n : Nat) : Shp (.int i) n := ⟨by simp [PyData.canLay0], by simp [PyData.depth]⟩
theorem shp_all {xs : List PyData} {n : Nat} (h : ∀ x ∈ xs, Shp x n) : PyData.canLayAll0 xs = true ∧ PyData.depthAll xs ≤ n := by
  induction xs with
  | nil => exact ⟨by simp [PyData.canLayAll0], by simp [PyData.depthAll]⟩
  | cons x xs ih =>
    have h1 := h x (by simp)
    have h2 := ih fun y hy => h y (by simp [hy])
    refine ⟨by simp [PyData.canLayAll0, h1.ly, h2.1], ?_⟩
    have h3 := h1.de
    have h4 := h2.2
    simp only [PyData.depthAll]
    omega
theorem shp_tup {xs : List PyData} {n : Nat} (h : ∀ x ∈ xs, Shp x n) : Shp (.tuple xs) (n + 1) := by
  have := shp_all h
  exact ⟨by simp [PyData.canLay0, this.1], by simp only [PyData.depth]; omega⟩
theorem shp_lst {xs : List PyData} {n : Nat} (h : ∀ x ∈ xs, Shp x n) : Shp (.list xs) (n + 1) := by
  have := shp_all h
  exact ⟨by simp [PyData.canLay0, this.1], by simp only [PyData.depth]; omega⟩
theorem Shp.shaped {d : PyData} {n : Nat} (h : Shp d n) (hn : n ≤ 64 := by decide) : SeqAt.shaped d = true := by
  unfold SeqAt.shaped
  rw [h.ly, Bool.true_and]
  exact decide_eq_true (Nat.le_trans h.de hn)
end DL
namespace DL
open PySem PySem.Spec L2
end DL
namespace DL
open PySem PySem.Spec L2 PySem.W
theorem Inv.xe {X : Cx} {pins : List (Addr × Obj)} {σ : L2.St} {H : Hp} {s : Shared} {e e' : Value → Shared → Prop} (I : Inv { X with xe := e } pins σ H s) : Inv { X with xe := e' } pins σ H s := by
  obtain ⟨k, i2, i3, i4, i5, i6, i7, i8, i9, i10, i11⟩ := I
  obtain ⟨j1, j2, j3, j4, j5, j6, j7, j8, j9, j10, j11, j12, j13, j14, j15, j16, j17, j18⟩ := k
  exact ⟨⟨j1, j2, j3, j4, j5, j6, j7, j8, j9, j10, j11, j12, j13, j14, j15, j16, j17, j18⟩, i2, i3, i4, i5, i6, i7, i8, i9, i10, i11⟩
section
variable {P : Program} {w : World} {K : PySem.W.Frag} {mg : Str → Option Value} {base : Heap}
structure DFnE (P : Program) (w : World) (K : PySem.W.Frag) (mg : Str → Option Value) (base : Heap) (L : List Str) (x : Str) (mf : DExc → (DV → Prop) → Prop) : Prop where
  ex : ∃ f, mg x = some (.ref f) ∧ PySem.W.keepIn K (.ref f) = true ∧ ∀ (A : Around) (outer : List PySem.Env) (s : Shared) (H F : Hp) (Q : VK) (a C : Addr) (d : Option Addr) (oe : Obj) (er : DExc) (G : Gm) (R : DV → Prop), A.guards = some [] → L2H.RoomH 1 A → A.handled = some (.ref a) → L2H.PinOk outer H s (a, oe) → Env0 P w K mg base A outer s H →
    Zc (.ref C) d oe → (∃ vs, oe.data = .fields vs) → C = clsA mg er.cls → er.cls ∈ L → G.K = K → G.n ≤ G.lim → Good G F [some (.exc a C d er)] [some (.ref a)] H → mf er R → (∀ r, R r → r.arg = true → ∀ v F' H', Good G F' [some r] [some v] H' → Q v H') →
    codeAny (model P w) A (.call (.ref f) ⟨[.ref a], []⟩) (CR L2.CX0 outer P w H s Q L2.E0) s
end
section
variable {u : Nat} {X : Cx} {W : WC} {a C : Addr} {oe : Obj} {d : Option Addr} {pn : List (Addr × Obj)} {e : Expr} {me : ME} {pos p : Pos} {k : Nat} {L : List Str} {x : Str} {mf : DExc → (DV → Prop) → Prop} {mg' : Str → Option Value}
end
end DL
namespace DL
open PySem PySem.Spec L2
section
variable {u : Nat} {X : Cx} {W : WC} {e : Expr} {pos p : Pos} {mas : MA}
end
end DL
namespace DL
open PySem PySem.Spec L2 PySem.W
abbrev veB : List Value := [.type "ValueError", .type "Exception", .type "BaseException", .type "object"]
structure XMk0 (K : Frag) (mg : Str → Option Value) (x : Str) : Prop where
  ex : ∃ C, mg x = some (.ref C) ∧ excIn K C veB "ValueError.__new__" = true ∧ keepIn K (.ref C) = true ∧ subIn K (.ref C) (.type "BaseException") = some true ∧ typeIn K (.ref C) = some (.type "type")
section
variable {X : Cx} {W : WC} {x : Str} {p p2 pos : Pos} {k : Nat}
end
end DL
namespace DL
open PySem PySem.Spec L2 PySem.W
section
variable {u : Nat} {X : Cx} {W : WC} {e : Expr} {pos p : Pos} {mas : MA}
end
end DL
namespace DL
open PySem PySem.Spec L2 PySem.W
theorem vals_nth : ∀ {xs : List V} {us : List Value} {i : Nat} {u : Value}, Vals xs us → us[i]? = some u → ∃ x, xs[i]? = some x ∧ RelV x u
  | _, _, i, u, .nil, e => by simp at e
  | _, _, 0, u, .cons r _, e => by
    simp at e
    subst e
    exact ⟨_, rfl, r⟩
  | _, _, i + 1, u, .cons _ t, e => by
    obtain ⟨x, h1, h2⟩ := vals_nth (i := i) t (by simpa using e)
    exact ⟨x, by simpa using h1, h2⟩
section
variable {u : Nat} {X : Cx} {W : WC} {e : Expr} {pos p : Pos} {mas : MA}
end
section
variable {ps : List (Int × Int)} {xs : List PyData} {R : DV → Prop}
end
end DL
namespace DL
open PySem PySem.Spec L2 PySem.W
section
variable {G : Gm} {F F' H H' : Hp} {δ : Env} {σ : L2.St} {v : V} {dv : DV} {p : Addr} {o : HO}
theorem Good.outer (g : Good G F δ σ H) (hk : ∀ q, ¬ G.C q → ∀ o, H q = some o → H' q = some o) (hj : G.J G.n H') : Good G F δ σ H' := by
  refine ⟨g.g, g.len, g.f0, fun b u e => hk b (fun c => by rw [g.cf b c] at e; cases e) _ (g.fh _ _ e), g.fr, fun b u c e => hk b c _ (g.bh _ _ c e), g.cf, hj, fun i z e => ?_, g.di⟩
  obtain ⟨w, e1, h⟩ := g.sl i z e
  refine ⟨w, e1, h.keep (Same.refl F) (fun l u ho hv hl => hk l ?_ _ hl) fun _ _ _ q => q⟩
  obtain ⟨l', _, r1, _, r3⟩ := bor_at h ho
  rw [hv] at r1
  cases r1
  exact own_nc g r3
def dropO (δ : Env) : Env := δ.map fun x => match x with
  | some (.d y) => some (.d y)
  | some .cask => some .cask
  | some (.raw v) => some (.raw v)
  | some (.scr xs) => some (.scr xs)
  | some (.fvs t xs) => some (.fvs t xs)
  | _ => none
theorem drop_get {i : Nat} {x : DV} (h : (dropO δ)[i]? = some (some x)) : δ[i]? = some (some x) ∧ x.arg = true := by
  unfold dropO at h
  rw [List.getElem?_map] at h
  cases q : δ[i]? with
  | none => rw [q] at h; cases h
  | some y =>
    rw [q] at h
    cases y with
    | none => cases h
    | some z =>
      cases z with
      | d _ => cases h; exact ⟨rfl, rfl⟩
      | cask => cases h; exact ⟨rfl, rfl⟩
      | raw _ => cases h; exact ⟨rfl, rfl⟩
      | scr _ => cases h; exact ⟨rfl, rfl⟩
      | fvs _ _ => cases h; exact ⟨rfl, rfl⟩
      | _ => cases h
theorem drop_len : (dropO δ).length = δ.length := by unfold dropO; simp
theorem Good.drop (hl : δ.length = σ.length) {A : Env} {A' : L2.St} (g : Good G F (δ ++ A) (σ ++ A') H) : Good (G.into F H) F (dropO δ) σ H := by
  refine ⟨⟨g.g.js, g.g.jm, g.g.jn, fun q c => g.g.jn _ H g.jh q c, g.g.jt⟩, by rw [drop_len]; exact hl, Same.refl F, g.fh, fun q a b => absurd b a, fun q u _ e => e, g.cf, g.jh, fun i z e => ?_, fun i j a b l ha _ e1 _ _ _ => ?_⟩
  · obtain ⟨e1, e2⟩ := drop_get e
    have hi : i < δ.length := (List.getElem?_eq_some_iff.mp e1).1
    obtain ⟨w, e3, h⟩ := g.sl i z (by rw [List.getElem?_append_left hi]; exact e1)
    rw [List.getElem?_append_left (by omega)] at e3
    refine ⟨w, e3, ?_⟩
    cases z with
    | d _ => exact h
    | cask => exact h
    | raw _ => exact h
    | scr _ => exact h
    | fvs _ _ => exact h
    | _ => cases e2
  · obtain ⟨_, e2⟩ := drop_get e1
    cases a with
    | own _ => cases e2
    | odk _ => cases e2
    | olk _ _ => cases e2
    | odt _ _ => cases e2
    | ins _ _ _ => cases e2
    | _ => cases ha
end
open LamX
section
variable {X : Cx} {pinsO : List (Addr × Obj)} {σo : L2.St} {Ho : Hp} {so : Shared}
def GivesD (Pr : Program) (wo : World) (K : Frag) (mg : Str → Option Value) (base : Heap) (A : Around) (stack : List PySem.Env) (Ng : List Str) (x : Str) (sg : Scope) (g : Addr) (cdg : Value) (bg : List Stmt) (a q : Str) (TT : (XK → Hp → VK → Prop) → Hp → VK → Prop) : Prop :=
  ∀ (f c' : Addr) (s : Shared) (H : Hp) (Q : VK) (tl : XK → Hp → VK → Prop),
    (∀ (W : WX) (pn : List (Addr × Obj)) (xe : Value → Shared → Prop) (p1 p2 : Pos), Takes ((cxOf C8.CX0 Pr wo K mg base Ng x sg g cdg A stack s H C8.E0).tr pn xe) W →
      PE ((cxOf C8.CX0 Pr wo K mg base Ng x sg g cdg A stack s H C8.E0).tr pn xe) (.Call (.Name a p1) [] [] p2) (fun σz Hz R => σz[0]? = some (some (.ref f)) ∧ Hz c' = some (CodeO c' q) ∧ tl (WE W σz) Hz R)) →
    H c' = some (CodeO c' q) → TT tl H Q →
    ∃ t, PSs (cxOf C8.CX0 Pr wo K mg base Ng x sg g cdg A stack s H C8.E0).nox bg t ∧ t { nx := fun _ H' => Q .non H', rt := Q } (L2.start Ng [.ref f]) H
end
def E1 (K : Frag) (mg : Str → Option Value) (L : List Str) (tE : DExc → (DV → Prop) → Prop) (p : Addr) (Q : VK) : XK := fun cls d H' => ∃ (G : Gm) (F : Hp) (er : DExc) (R : DV → Prop), ExcAt K mg F H' er cls d ∧ er.cls ∈ L ∧ G.K = K ∧ G.n ≤ G.lim ∧ Good G F [some (.own [])] [some (.ref p)] H' ∧ tE er R ∧
  ∀ r, R r → r.arg = true → ∀ v F' H', Good G F' [some r] [some v] H' → Q v H'
def TTd (K : Frag) (mg : Str → Option Value) (L : List Str) (tE : DExc → (DV → Prop) → Prop) : (XK → Hp → VK → Prop) → Hp → VK → Prop := fun tl H Q => ∀ p, H p = none → ∀ (E' : XK) (Q' : VK), (∀ cls d H', E1 K mg L tE p Q cls d H' → E' cls d H') →
  (∀ v H3, (∀ p2, H3 p2 = none → Q (.ref p2) (upd H3 p2 (.tup [.str "result", v]))) → Q' v H3) → tl E' (upd H p (.lst [])) Q'
section
variable {K : Frag} {mg : Str → Option Value} {L : List Str} {sub : Str → Str → Bool} {xn : Str} {tE : DExc → (DV → Prop) → Prop} {ms : Addr → Addr → Option Addr → MS} {ml : MS}
end
open LamX
structure DTold (P : Program) (w : World) (K : Frag) (mg : Str → Option Value) (base : Heap) (L : List Str) (x : Str) (tE : DExc → (DV → Prop) → Prop) : Prop where
  ex : ∃ (g : Addr) (oc : Value) (od an : Option Addr) (pg : Arguments) (bg : List Stmt) (sg : Scope) (dV kV doc pm cdv ct : Value) (osl : Array (Option Value)) (Ng : List Str) (a : Str),
    mg x = some (.ref g) ∧ keepIn K (.ref g) = true ∧ K.lookup g = some ⟨oc, od, .func (fnOf x x pg bg sg dV kV doc pm an cdv ct), osl⟩ ∧ codeIn K cdv x = true ∧ L2.Binds K (fnOf x x pg bg sg dV kV doc pm an cdv ct) [a] [] ∧
    FnScope Ng [a] sg ∧ Ng[0]? = some a ∧ Vis sg a ∧ (a == ("__debug__" : Str)) = false ∧ (a == ("__classdict__" : Str)) = false ∧
    ∀ (A : Around) (stack : List PySem.Env) (q : Str), A.guards = some [] → Room 2 A → GivesD P w K mg base A stack Ng x sg g cdv bg a q (TTd K mg L tE)
structure CkTab (ck : CKT) (P : Addr) (T : List (Addr × Str)) : Prop where
  tabs : ∀ C cv J lim n H, ck C cv J lim → J n H → Tabs T H
  mv : ∀ C cv J lim n H H1, ck C cv J lim → J n H → (∀ b o, H b = some o → b ≠ P → H1 b = some o) → Tabs T H1 → J n H1
  inC : ∀ C cv J lim, ck C cv J lim → C P
section
variable {X : Cx} {W : WC} {L : List Str} {x : Str} {tE : DExc → (DV → Prop) → Prop} {P c : Addr} {T : List (Addr × Str)} {params : Arguments} {body : Expr} {scope : Scope} {p lpos pos : Pos} {me : ME} {j k u : Nat}
end
section
variable {δ : Env} {x : PyData} {xs : List PyData} {v : V}
theorem dr_nil : dropO [] = [] := rfl
theorem dr_n : dropO (none :: δ) = none :: dropO δ := rfl
theorem dr_d : dropO (some (.d x) :: δ) = some (.d x) :: dropO δ := rfl
theorem dr_c : dropO (some .cask :: δ) = some .cask :: dropO δ := rfl
theorem dr_o : dropO (some (.own xs) :: δ) = none :: dropO δ := rfl
theorem dr_b : dropO (some (.bor xs) :: δ) = none :: dropO δ := rfl
theorem dr_r : dropO (some (.raw v) :: δ) = some (.raw v) :: dropO δ := rfl
end
end DL
namespace DL
open PySem PySem.Spec L2 PySem.W LamX
section
variable {P : Program} {w : World} {K : Frag} {mg : Str → Option Value} {base : Heap}
end
section
variable {P : Program} {w : World} {K : Frag} {mg mb : Str → Option Value} {k : Nat} {fa a c T : Addr} {fd : FuncData} {x : Str} {sp : Sp} {s₁ : Shared} {vs : List Value} {ns : List Int}
end
end DL
namespace DL
open PySem PySem.Spec L2 PySem.W
section
open AutoSeq1 (wpAny_loadPart')
open MeetsSeq SeqAt
variable {A : Around} {s : Shared}
end
section
variable {X : Cx} {W : WC} {u1 u2 : Nat} {a b : Expr} {ma mb : ME} {pos : Pos}
end
theorem dr_s {δ : Env} {x : Option DV} {n : Nat} : (dropO (x :: δ))[n + 1]? = (dropO δ)[n]? := rfl
end DL
namespace DL
open PySem PySem.Spec L2
structure Tr (F F' : Hp) : Prop where
  o : ∀ b u, F b = some u → (∀ kvs, ¬ Rd F b (.dK kvs)) → F' b = some u
  d : ∀ b kvs, Rd F b (.dK kvs) → Rd F' b (.dK kvs)
section
variable {K : PySem.W.Frag} {F F' : Hp}
theorem Tr.lst (e : Tr F F') {a : Addr} {vs : List V} (h : F a = some (.lst vs)) : F' a = some (.lst vs) := e.o _ _ h fun kvs q => by
  rcases q with q | ⟨o, q⟩ <;> (rw [h] at q; cases q)
theorem Tr.ne (e : Tr F F') {a : Addr} {u : HO} (h : F a = some u) (h1 : ∀ kvs, u ≠ .dK kvs) (h2 : ∀ o kvs, u ≠ .frz o (.dK kvs)) : F' a = some u := e.o _ _ h fun kvs q => by
  rcases q with q | ⟨o, q⟩
  · rw [h] at q; cases q; exact h1 _ rfl
  · rw [h] at q; cases q; exact h2 _ _ rfl
theorem Tr.sqL (e : Tr F F') {a : Addr} {vs : List V} (h : SqL K F a vs) : SqL K F' a vs := by
  rcases h with (h | ⟨o, h⟩) | h
  · exact .inl (.inl (e.ne h (fun _ z => by cases z) (fun _ _ z => by cases z)))
  · exact .inl (.inr ⟨o, e.ne h (fun _ z => by cases z) (fun _ _ z => by cases z)⟩)
  · exact .inr h
mutual
theorem At.tr (e : Tr F F') : ∀ (d : PyData) (v : V), At K F v d → At K F' v d
  | .none, _, h => by cases h; exact .non
  | .bool b, _, h => by cases h; exact .bl b
  | .int i, _, h => by cases h; exact .int i
  | .str x, _, h => by cases h; exact .str x
  | .list ds, _, h => by
    cases h with
    | lst hs ha => exact .lst (e.lst hs) (AtL.tr e ds _ ha)
  | .tuple ds, _, h => by
    cases h with
    | tup hs ha => exact .tup (e.ne hs (fun _ z => by cases z) (fun _ _ z => by cases z)) (AtL.tr e ds _ ha)
  | .dict ds, _, h => by
    cases h with
    | dct hs ha => exact .dct (e.d _ _ hs) (AtKv.tr e ds _ ha)
    | obj hs ho hn ha => exact .obj (e.ne hs (fun _ z => by cases z) (fun _ _ z => by cases z)) ho hn (AtKv.tr e _ _ ha)
theorem AtL.tr (e : Tr F F') : ∀ (ds : List PyData) (vs : List V), AtL K F vs ds → AtL K F' vs ds
  | [], _, h => by cases h; exact .nil
  | d :: ds, _, h => by
    cases h with
    | cons h1 h2 => exact .cons (At.tr e d _ h1) (AtL.tr e ds _ h2)
theorem AtKv.tr (e : Tr F F') : ∀ (ds : List (PyData × PyData)) (kvs : List (Key × V)), AtKv K F kvs ds → AtKv K F' kvs ds
  | [], _, h => by cases h; exact .nil
  | (k, d) :: ds, _, h => by
    cases h with
    | cons h1 h2 => exact .cons (At.tr e d _ h1) (AtKv.tr e ds _ h2)
end
end
theorem AtF.tr {K : PySem.W.Frag} {F F' : Hp} (e : Tr F F') {v : V} {x : FV} (h : AtF K F v x) : AtF K F' v x := by
  cases h with
  | d h => exact .d (At.tr e _ _ h)
  | r a => exact .r a
theorem AtFs.tr {K : PySem.W.Frag} {F F' : Hp} (e : Tr F F') : ∀ {vs : List (Str × V)} {fs : List (Str × FV)}, AtFs K F vs fs → AtFs K F' vs fs
  | _, _, .nil => .nil
  | _, _, .cons h r => .cons (h.tr e) (AtFs.tr e r)
theorem AtFl.tr {K : PySem.W.Frag} {F F' : Hp} (e : Tr F F') : ∀ {vs : List V} {fs : List FV}, AtFl K F vs fs → AtFl K F' vs fs
  | _, _, .nil => .nil
  | _, _, .cons h r => .cons (h.tr e) (AtFl.tr e r)
theorem Tr.sqO {F F' : Hp} (e : Tr F F') {a : Addr} {tup : Bool} {vs : List V} (h : F a = some (DL.sqO tup vs)) : F' a = some (DL.sqO tup vs) := by
  cases tup with
  | true => exact e.ne h (fun _ z => by cases z) (fun _ _ z => by cases z)
  | false => exact e.ne h (fun _ z => by cases z) (fun _ _ z => by cases z)
theorem tr_lock {F : Hp} {l : Addr} {kvs : List (Key × V)} {o : Obj} (h : F l = some (.dK kvs)) : Tr F (upd F l (.frz o (.dK kvs))) := by
  refine ⟨fun b u e n => ?_, fun b ks q => ?_⟩
  · rw [upd_ne (fun z => n kvs (by rw [z]; exact .inl h))]; exact e
  · by_cases z : b = l
    · subst z
      rcases q with q | ⟨o', q⟩
      · rw [h] at q; cases q; exact .inr ⟨o, upd_same⟩
      · rw [h] at q; cases q
    · rcases q with q | ⟨o', q⟩
      · exact .inl (by rw [upd_ne z]; exact q)
      · exact .inr ⟨o', by rw [upd_ne z]; exact q⟩
theorem tr_unlock {F : Hp} {l : Addr} {kvs : List (Key × V)} {o : Obj} (h : F l = some (.frz o (.dK kvs))) : Tr F (upd F l (.dK kvs)) := by
  refine ⟨fun b u e n => ?_, fun b ks q => ?_⟩
  · rw [upd_ne (fun z => n kvs (by rw [z]; exact .inr ⟨o, h⟩))]; exact e
  · by_cases z : b = l
    · subst z
      rcases q with q | ⟨o', q⟩
      · rw [h] at q; cases q
      · rw [h] at q; cases q; exact .inl upd_same
    · rcases q with q | ⟨o', q⟩
      · exact .inl (by rw [upd_ne z]; exact q)
      · exact .inr ⟨o', by rw [upd_ne z]; exact q⟩
theorem AtKt.tr {K : PySem.W.Frag} {F F' : Hp} (e : Tr F F') : ∀ (ds : List (List Key × PyData)) (kvs : List (List Key × V)), AtKt K F kvs ds → AtKt K F' kvs ds
  | [], _, h => by cases h; exact .nil
  | (k, d) :: ds, _, h => by
    cases h with
    | cons h1 h2 => exact .cons (At.tr e d _ h1) (AtKt.tr e ds _ h2)
def lkP (l : Addr) (o : Obj) (kvs : List (Key × V)) : Unit → LkP := fun _ => ⟨l, o, kvs⟩
def DV.isLk : DV → Bool
  | .olk _ _ => true
  | .blk _ _ => true
  | .ldk _ _ => true
  | _ => false
section
variable {G : Gm} {F F2 H H2 : Hp} {δ : Env} {σ : L2.St} {i : Nat} {x y : DV} {v : V} {l : Addr} {kvs : List (Key × V)} {ks : List (PyData × PyData)} {o : Obj}
theorem Good.reslot (g : Good G F δ σ H) (e : δ[i]? = some (some x)) (ev : σ[i]? = some (some v)) (h : VOk G F H v y) (ho : y.isOwn = true → x.isOwn = true) : Good G F (δ.set i (some y)) σ H := by
  have back : ∀ {j : Nat} {z : DV}, (δ.set i (some y))[j]? = some (some z) → (j = i ∧ z = y) ∨ (j ≠ i ∧ δ[j]? = some (some z)) := fun {j z} q => by
    rcases get_set q with ⟨rfl, q', _⟩ | ⟨hj, q'⟩
    · cases q'; exact .inl ⟨rfl, rfl⟩
    · exact .inr ⟨hj, q'⟩
  have own : ∀ {j : Nat} {z : DV}, z.isOwn = true → (δ.set i (some y))[j]? = some (some z) → ∃ z', z'.isOwn = true ∧ δ[j]? = some (some z') := fun {j z} hz q => by
    rcases back q with ⟨rfl, rfl⟩ | ⟨_, q⟩
    · exact ⟨x, ho hz, e⟩
    · exact ⟨z, hz, q⟩
  refine ⟨g.g, by simpa using g.len, g.f0, g.fh, g.fr, g.bh, g.cf, g.jh, fun j z q => ?_, fun a b p q l' hp hq e1 e2 e3 e4 => ?_⟩
  · rcases back q with ⟨rfl, rfl⟩ | ⟨_, q⟩
    · exact ⟨v, ev, h⟩
    · exact g.sl j z q
  · obtain ⟨p', hp', f1⟩ := own hp e1
    obtain ⟨q', hq', f2⟩ := own hq e2
    exact g.di a b p' q' l' hp' hq' f1 f2 e3 e4
theorem Good.lockO (g : Good G F δ σ H) (e : δ[i]? = some (some (.odk ks))) (ev : σ[i]? = some (some (.ref l))) (hl : H l = some (.dK kvs)) (o : Obj) : Good G F (δ.set i (some (.olk (lkP l o kvs) ks))) σ (upd H l (.frz o (.dK kvs))) := by
  obtain ⟨v, ev', hv⟩ := g.sl i _ e
  obtain ⟨l', kvs', rfl, h1, h2, h3, h4⟩ := hv
  rw [ev] at ev'
  cases ev'
  rw [hl] at h1
  cases h1
  have cl := own_nc g h4
  have back : ∀ {j : Nat} {z : DV}, (δ.set i (some (.olk (lkP l o kvs) ks)))[j]? = some (some z) → (j = i ∧ z = (.olk (lkP l o kvs) ks)) ∨ (j ≠ i ∧ δ[j]? = some (some z)) := fun {j z} q => by
    rcases get_set q with ⟨rfl, q', _⟩ | ⟨hj, q'⟩
    · cases q'; exact .inl ⟨rfl, rfl⟩
    · exact .inr ⟨hj, q'⟩
  have own : ∀ {j : Nat} {z : DV}, z.isOwn = true → (δ.set i (some (.olk (lkP l o kvs) ks)))[j]? = some (some z) → ∃ z', z'.isOwn = true ∧ δ[j]? = some (some z') := fun {j z} hz q => by
    rcases back q with ⟨rfl, rfl⟩ | ⟨_, q⟩
    · exact ⟨.odk ks, rfl, e⟩
    · exact ⟨z, hz, q⟩
  refine ⟨g.g, by simpa using g.len, g.f0, fun b u q => ?_, g.fr, fun b u c q => ?_, g.cf, g.g.js _ _ _ g.jh (fun b c => upd_ne (fun z : b = l => cl (z ▸ c))) (fun b φ q => (upd_ne (fun z => by rw [z, hl] at q; cases q)).trans q), fun j z q => ?_, fun a b p q l' hp hq e1 e2 e3 e4 => ?_⟩
  · rw [upd_ne (ne_of_none q h3)]; exact g.fh _ _ q
  · rw [upd_ne (ne_of_none q h4)]; exact g.bh _ _ c q
  · rcases back q with ⟨rfl, rfl⟩ | ⟨hj, q2⟩
    · exact ⟨_, ev, _, rfl, rfl, upd_same, h2, h3, h4⟩
    · obtain ⟨w, ew, hw⟩ := g.sl j z q2
      refine ⟨w, ew, ?_⟩
      by_cases hb : ∃ ks', z = .bdk ks'
      · obtain ⟨ks', rfl⟩ := hb
        obtain ⟨p, kv', rfl, r1, r2, r3⟩ := hw
        refine ⟨p, kv', rfl, ?_, r2, r3⟩
        by_cases hp : p = l
        · subst hp
          rcases r1 with r1 | ⟨o', r1⟩
          · rw [hl] at r1; cases r1; exact .inr ⟨o, upd_same⟩
          · rw [hl] at r1; cases r1
        · rcases r1 with r1 | ⟨o', r1⟩
          · exact .inl (by rw [upd_ne hp]; exact r1)
          · exact .inr ⟨o', by rw [upd_ne hp]; exact r1⟩
      · refine hw.keep (Same.refl F) (fun p ob ho hv hp => ?_) fun _ _ _ q => q
        have hne : p ≠ l := fun hpl => by
          subst hpl
          subst hv
          cases hz : z.isOwn with
          | true => exact hj (g.di j i z (.odk ks) _ hz rfl q2 e ew ev)
          | false =>
            cases z with
            | bor xs =>
              obtain ⟨p', vs, r0, r1, _⟩ := hw
              cases r0
              rw [hl] at r1; cases r1
            | blk p' xs =>
              obtain ⟨_, _, r0, r1, _⟩ := hw
              cases r0
              rw [hl] at r1; cases r1
            | bdk xs => exact hb ⟨xs, rfl⟩
            | bdt a xs =>
              obtain ⟨r0, _, r1, _⟩ := hw
              cases r0
              rcases r1 with r1 | ⟨_, r1⟩ <;> (rw [hl] at r1; cases r1)
            | odt _ xs => cases hz
            | own xs => cases hz
            | odk xs => cases hz
            | olk _ xs => cases hz
            | ins _ _ _ => cases hz
            | _ => cases ho
        rw [upd_ne hne]; exact hp
  · obtain ⟨p', hp', f1⟩ := own hp e1
    obtain ⟨q', hq', f2⟩ := own hq e2
    exact g.di a b p' q' l' hp' hq' f1 f2 e3 e4
theorem Good.unlockO (g : Good G F δ σ H) (e : δ[i]? = some (some (.olk (lkP l o kvs) ks))) (ev : σ[i]? = some (some (.ref l))) (hl : H l = some (.frz o (.dK kvs))) (nl : ∀ (j : Nat) (z : DV), j ≠ i → δ[j]? = some (some z) → z.isLk = true → σ[j]? ≠ some (some (.ref l))) : Good G F (δ.set i (some (.odk ks))) σ (upd H l (.dK kvs)) := by
  obtain ⟨v, ev', hv⟩ := g.sl i _ e
  obtain ⟨_, _, rfl, h1, h2, h3, h4⟩ := hv
  replace h1 : H l = some (.frz o (.dK kvs)) := h1
  replace h2 : AtKv G.K F kvs ks := h2
  replace h3 : F l = none := h3
  replace h4 : G.B l = none := h4
  have cl := own_nc g h4
  have back : ∀ {j : Nat} {z : DV}, (δ.set i (some (.odk ks)))[j]? = some (some z) → (j = i ∧ z = .odk ks) ∨ (j ≠ i ∧ δ[j]? = some (some z)) := fun {j z} q => by
    rcases get_set q with ⟨rfl, q', _⟩ | ⟨hj, q'⟩
    · cases q'; exact .inl ⟨rfl, rfl⟩
    · exact .inr ⟨hj, q'⟩
  have own : ∀ {j : Nat} {z : DV}, z.isOwn = true → (δ.set i (some (.odk ks)))[j]? = some (some z) → ∃ z', z'.isOwn = true ∧ δ[j]? = some (some z') := fun {j z} hz q => by
    rcases back q with ⟨rfl, rfl⟩ | ⟨_, q⟩
    · exact ⟨.olk (lkP l o kvs) ks, rfl, e⟩
    · exact ⟨z, hz, q⟩
  refine ⟨g.g, by simpa using g.len, g.f0, fun b u q => ?_, g.fr, fun b u c q => ?_, g.cf, g.g.js _ _ _ g.jh (fun b c => upd_ne (fun z : b = l => cl (z ▸ c))) (fun b φ q => (upd_ne (fun z => by rw [z, hl] at q; cases q)).trans q), fun j z q => ?_, fun a b p q l' hp hq e1 e2 e3 e4 => ?_⟩
  · rw [upd_ne (ne_of_none q h3)]; exact g.fh _ _ q
  · rw [upd_ne (ne_of_none q h4)]; exact g.bh _ _ c q
  · rcases back q with ⟨rfl, rfl⟩ | ⟨hj, q2⟩
    · exact ⟨_, ev, l, kvs, rfl, upd_same, h2, h3, h4⟩
    · obtain ⟨w, ew, hw⟩ := g.sl j z q2
      refine ⟨w, ew, ?_⟩
      by_cases hb : ∃ ks', z = .bdk ks'
      · obtain ⟨ks', rfl⟩ := hb
        obtain ⟨p, kv', rfl, r1, r2, r3⟩ := hw
        refine ⟨p, kv', rfl, ?_, r2, r3⟩
        by_cases hp : p = l
        · subst hp
          rcases r1 with r1 | ⟨o', r1⟩
          · rw [hl] at r1; cases r1
          · rw [hl] at r1; cases r1; exact .inl upd_same
        · rcases r1 with r1 | ⟨o', r1⟩
          · exact .inl (by rw [upd_ne hp]; exact r1)
          · exact .inr ⟨o', by rw [upd_ne hp]; exact r1⟩
      · refine hw.keep (Same.refl F) (fun p ob ho hv hp => ?_) fun _ _ _ q => q
        have hne : p ≠ l := fun hpl => by
          subst hpl
          subst hv
          cases hz : z.isOwn with
          | true => exact hj (g.di j i z _ _ hz (show DV.isOwn (.olk (lkP p o kvs) ks) = true from rfl) q2 e ew ev)
          | false =>
            cases z with
            | bor xs =>
              obtain ⟨p', vs, r0, r1, _⟩ := hw
              cases r0
              rw [hl] at r1; cases r1
            | blk _ xs => exact nl j _ hj q2 rfl ew
            | bdk xs => exact hb ⟨xs, rfl⟩
            | bdt a xs =>
              obtain ⟨r0, _, r1, _⟩ := hw
              cases r0
              rcases r1 with r1 | ⟨_, r1⟩ <;> (rw [hl] at r1; cases r1)
            | odt _ xs => cases hz
            | own xs => cases hz
            | odk xs => cases hz
            | olk _ xs => cases hz
            | ins _ _ _ => cases hz
            | _ => cases ho
        rw [upd_ne hne]; exact hp
  · obtain ⟨p', hp', f1⟩ := own hp e1
    obtain ⟨q', hq', f2⟩ := own hq e2
    exact g.di a b p' q' l' hp' hq' f1 f2 e3 e4
def lkH (M : Hp) (l : Addr) (x : HO) : Hp := fun p => if p = l then (M l).map fun _ => x else M p
theorem lkH_same {M : Hp} {l : Addr} {x : HO} : lkH M l x l = (M l).map fun _ => x := if_pos rfl
theorem lkH_ne {M : Hp} {l p : Addr} {x : HO} (h : p ≠ l) : lkH M l x p = M p := if_neg h
@[reducible] def Gm.lk (G : Gm) (l : Addr) (x : HO) : Gm := { G with F0 := lkH G.F0 l x, B := lkH G.B l x }
theorem Good.lockF (g : Good G F δ σ H) (hl : F l = some (.dK kvs)) (o : Obj) : Good (G.lk l (.frz o (.dK kvs))) (upd F l (.frz o (.dK kvs))) δ σ (upd H l (.frz o (.dK kvs))) := by
  have hH := g.fh _ _ hl
  have cl : ¬ G.C l := fun c => by have := g.cf l c; rw [hl] at this; cases this
  have tr : Tr F (upd F l (.frz o (.dK kvs))) := tr_lock hl
  refine ⟨⟨g.g.js, g.g.jm, g.g.jn, fun p c => ?_, g.g.jt⟩, g.len, fun b u q => ?_, fun b u q => ?_, fun b q1 q2 => ?_, fun b u c q => ?_, fun b c => ?_, g.g.js _ _ _ g.jh (fun b c => upd_ne (fun z : b = l => cl (z ▸ c))) (fun b φ q => (upd_ne (fun z => by rw [z, hH] at q; cases q)).trans q), fun j z q => ?_, g.di⟩
  · show lkH G.B l _ p ≠ none
    rw [lkH_ne (fun z : p = l => cl (z ▸ c))]; exact g.g.cb p c
  · have q : lkH G.F0 l (.frz o (.dK kvs)) b = some u := q
    by_cases z : b = l
    · subst z
      rw [lkH_same] at q
      cases h0 : G.F0 b with
      | none => rw [h0] at q; cases q
      | some w => rw [h0] at q; cases q; exact upd_same
    · rw [lkH_ne z] at q
      rw [upd_ne z]; exact g.f0 _ _ q
  · by_cases z : b = l
    · subst z
      rw [upd_same] at q ⊢; exact q
    · rw [upd_ne z] at q ⊢; exact g.fh _ _ q
  · show lkH G.B l _ b = none ∨ ∃ vs, upd F l _ b = some (.tup vs)
    have q2 : lkH G.F0 l (.frz o (.dK kvs)) b = none := q2
    by_cases z : b = l
    · subst z
      rw [lkH_same] at q2 ⊢
      have h0 : G.F0 b = none := by cases h : G.F0 b with | none => rfl | some w => rw [h] at q2; cases q2
      rcases g.fr b (by rw [hl]; simp) h0 with h | ⟨vs, h⟩
      · left; rw [h]; rfl
      · rw [hl] at h; cases h
    · rw [upd_ne z] at q1 ⊢
      rw [lkH_ne z] at q2 ⊢
      exact g.fr b q1 q2
  · have q : lkH G.B l (.frz o (.dK kvs)) b = some u := q
    by_cases z : b = l
    · subst z
      rw [lkH_same] at q
      cases h0 : G.B b with
      | none => rw [h0] at q; cases q
      | some w => rw [h0] at q; cases q; exact upd_same
    · rw [lkH_ne z] at q
      rw [upd_ne z]; exact g.bh _ _ c q
  · rw [upd_ne (fun z : b = l => cl (z ▸ c))]; exact g.cf b c
  · obtain ⟨w, ew, hw⟩ := g.sl j z q
    refine ⟨w, ew, ?_⟩
    have nF : ∀ {p : Addr}, F p = none → p ≠ l := fun {p} h z => by rw [z, hl] at h; cases h
    have fN : ∀ {p : Addr}, F p = none → upd F l (.frz o (.dK kvs)) p = none := fun {p} h => by rw [upd_ne (nF h)]; exact h
    have bN : ∀ {p : Addr}, G.B p = none → lkH G.B l (.frz o (.dK kvs)) p = none := fun {p} h => by
      by_cases z : p = l
      · subst z; rw [lkH_same, h]; rfl
      · rw [lkH_ne z]; exact h
    have hN : ∀ {p : Addr} {u : HO}, H p = some u → (∀ kvs, u ≠ .dK kvs) → upd H l (.frz o (.dK kvs)) p = some u := fun {p u} h n => by
      rw [upd_ne (fun z => by rw [z, hH] at h; cases h; exact n _ rfl)]; exact h
    cases z with
    | d x => exact At.tr tr _ _ hw
    | own xs =>
      obtain ⟨p, vs, rfl, h1, h2, h3, h4⟩ := hw
      exact ⟨p, vs, rfl, hN h1 (fun _ z => by cases z), AtL.tr tr _ _ h2, fN h3, bN h4⟩
    | bor xs =>
      obtain ⟨p, vs, rfl, h1, h2, h4⟩ := hw
      exact ⟨p, vs, rfl, hN h1 (fun _ z => by cases z), AtL.tr tr _ _ h2, bN h4⟩
    | cask => exact hw
    | raw u => exact hw
    | scr xs =>
      obtain ⟨a, h1, h2⟩ := hw
      exact ⟨a, h1, tr.sqL h2⟩
    | fvs tup xs =>
      obtain ⟨a, vs, h1, h2, h3⟩ := hw
      exact ⟨a, vs, h1, tr.sqO h2, AtFl.tr tr h3⟩
    | odk xs =>
      obtain ⟨p, vs, rfl, h1, h2, h3, h4⟩ := hw
      exact ⟨p, vs, rfl, by rw [upd_ne (nF h3)]; exact h1, AtKv.tr tr _ _ h2, fN h3, bN h4⟩
    | bdk xs =>
      obtain ⟨p, vs, rfl, h1, h2, h4⟩ := hw
      exact ⟨p, vs, rfl, (tr_lock hH).d _ _ h1, AtKv.tr tr _ _ h2, bN h4⟩
    | olk p xs =>
      obtain ⟨_, _, rfl, h1, h2, h3, h4⟩ := hw
      exact ⟨_, rfl, rfl, by rw [upd_ne (nF h3)]; exact h1, AtKv.tr tr _ _ h2, fN h3, bN h4⟩
    | blk p xs =>
      obtain ⟨_, _, rfl, h1, h2, h4⟩ := hw
      exact ⟨_, rfl, rfl, hN h1 (fun _ z => by cases z), AtKv.tr tr _ _ h2, bN h4⟩
    | ins a nm fs =>
      obtain ⟨rfl, C, dx, vs, h1, h2, h3, h4, h5, h6⟩ := hw
      exact ⟨rfl, C, dx, vs, by rw [upd_ne (nF h5)]; exact h1, h2, h3, AtFs.tr tr h4, fN h5, bN h6⟩
    | odt a xs =>
      obtain ⟨rfl, vs, h1, h2, h3, h4⟩ := hw
      exact ⟨rfl, vs, by rw [upd_ne (nF h3)]; exact h1, AtKt.tr tr _ _ h2, fN h3, bN h4⟩
    | bdt a xs =>
      obtain ⟨rfl, vs, h1, h2, h4⟩ := hw
      refine ⟨rfl, vs, ?_, AtKt.tr tr _ _ h2, bN h4⟩
      rcases h1 with h1 | ⟨o, h1⟩
      · exact .inl (hN h1 (fun _ z => by cases z))
      · exact .inr ⟨o, hN h1 (fun _ z => by cases z)⟩
    | ldt p xs =>
      obtain ⟨_, _, rfl, h1, h2⟩ := hw
      exact ⟨_, rfl, rfl, by rw [upd_ne (fun z => by rw [z, hl] at h1; cases h1)]; exact h1, AtKt.tr tr _ _ h2⟩
    | ldk p xs =>
      obtain ⟨_, _, rfl, h1, h2⟩ := hw
      exact ⟨_, rfl, rfl, by rw [upd_ne (fun z => by rw [z, hl] at h1; cases h1)]; exact h1, AtKv.tr tr _ _ h2⟩
    | exc a C d er =>
      obtain ⟨cn, arg⟩ := er
      cases arg with
      | none => exact hw
      | some p =>
        obtain ⟨f, x⟩ := p
        obtain ⟨e, dd, w, h1, h2, h3⟩ := hw
        exact ⟨e, dd, w, h1, by rw [upd_ne (fun z => by rw [z, hl] at h2; cases h2)]; exact h2, At.tr tr _ _ h3⟩
theorem Good.unlockF (g : Good (G.lk l (.frz o (.dK kvs))) F δ σ H) (hg : ∀ p, G.C p → G.B p ≠ none) (hl : F l = some (.frz o (.dK kvs))) (h0 : ∀ u, G.F0 l = some u → u = .dK kvs) (hB : ∀ u, G.B l = some u → u = .dK kvs) (nl : ∀ (j : Nat) (z : DV), δ[j]? = some (some z) → z.isLk = true → σ[j]? ≠ some (some (.ref l))) :
    Good G (upd F l (.dK kvs)) δ σ (upd H l (.dK kvs)) := by
  have hH := g.fh _ _ hl
  have cl : ¬ G.C l := fun c => by have := g.cf l c; rw [hl] at this; cases this
  have tr : Tr F (upd F l (.dK kvs)) := tr_unlock hl
  refine ⟨⟨g.g.js, g.g.jm, g.g.jn, hg, g.g.jt⟩, g.len, fun b u q => ?_, fun b u q => ?_, fun b q1 q2 => ?_, fun b u c q => ?_, fun b c => ?_, g.g.js _ _ _ g.jh (fun b c => upd_ne (fun z : b = l => cl (z ▸ c))) (fun b φ q => (upd_ne (fun z => by rw [z, hH] at q; cases q)).trans q), fun j z q => ?_, g.di⟩
  · by_cases z : b = l
    · subst z
      rw [upd_same, h0 u q]
    · have := g.f0 b u (by show lkH G.F0 l _ b = some u; rw [lkH_ne z]; exact q)
      rw [upd_ne z]; exact this
  · by_cases z : b = l
    · subst z
      rw [upd_same] at q ⊢; exact q
    · rw [upd_ne z] at q ⊢; exact g.fh _ _ q
  · have q3 := g.fr b (by
      by_cases z : b = l
      · subst z; rw [hl]; simp
      · rw [upd_ne z] at q1; exact q1) (by
      show lkH G.F0 l _ b = none
      by_cases z : b = l
      · subst z; rw [lkH_same, q2]; rfl
      · rw [lkH_ne z]; exact q2)
    have q3 : lkH G.B l (.frz o (.dK kvs)) b = none ∨ ∃ vs, F b = some (.tup vs) := q3
    rcases q3 with q3 | ⟨vs, q3⟩
    · left
      by_cases z : b = l
      · subst z
        rw [lkH_same] at q3
        cases h : G.B b with
        | none => rfl
        | some w => rw [h] at q3; cases q3
      · rw [lkH_ne z] at q3; exact q3
    · right
      have z : b ≠ l := fun z => by rw [z, hl] at q3; cases q3
      exact ⟨vs, by rw [upd_ne z]; exact q3⟩
  · by_cases z : b = l
    · subst z
      rw [upd_same, hB u q]
    · have := g.bh b u c (by show lkH G.B l _ b = some u; rw [lkH_ne z]; exact q)
      rw [upd_ne z]; exact this
  · rw [upd_ne (fun z : b = l => cl (z ▸ c))]; exact g.cf b c
  · obtain ⟨w, ew, hw⟩ := g.sl j z q
    refine ⟨w, ew, ?_⟩
    have nF : ∀ {p : Addr}, F p = none → p ≠ l := fun {p} h z => by rw [z, hl] at h; cases h
    have fN : ∀ {p : Addr}, F p = none → upd F l (.dK kvs) p = none := fun {p} h => by rw [upd_ne (nF h)]; exact h
    have bN : ∀ {p : Addr}, lkH G.B l (.frz o (.dK kvs)) p = none → G.B p = none := fun {p} h => by
      by_cases z : p = l
      · subst z
        rw [lkH_same] at h
        cases h' : G.B p with
        | none => rfl
        | some w => rw [h'] at h; cases h
      · rw [lkH_ne z] at h; exact h
    have hN : ∀ {p : Addr} {u : HO}, H p = some u → (∀ o kvs, u ≠ .frz o (.dK kvs)) → upd H l (.dK kvs) p = some u := fun {p u} h n => by
      rw [upd_ne (fun z => by rw [z, hH] at h; cases h; exact n _ _ rfl)]; exact h
    cases z with
    | d x => exact At.tr tr _ _ hw
    | own xs =>
      obtain ⟨p, vs, rfl, h1, h2, h3, h4⟩ := hw
      exact ⟨p, vs, rfl, hN h1 (fun _ _ z => by cases z), AtL.tr tr _ _ h2, fN h3, bN h4⟩
    | bor xs =>
      obtain ⟨p, vs, rfl, h1, h2, h4⟩ := hw
      exact ⟨p, vs, rfl, hN h1 (fun _ _ z => by cases z), AtL.tr tr _ _ h2, bN h4⟩
    | cask => exact hw
    | raw u => exact hw
    | scr xs =>
      obtain ⟨a, h1, h2⟩ := hw
      exact ⟨a, h1, tr.sqL h2⟩
    | fvs tup xs =>
      obtain ⟨a, vs, h1, h2, h3⟩ := hw
      exact ⟨a, vs, h1, tr.sqO h2, AtFl.tr tr h3⟩
    | odk xs =>
      obtain ⟨p, vs, rfl, h1, h2, h3, h4⟩ := hw
      exact ⟨p, vs, rfl, by rw [upd_ne (nF h3)]; exact h1, AtKv.tr tr _ _ h2, fN h3, bN h4⟩
    | bdk xs =>
      obtain ⟨p, vs, rfl, h1, h2, h4⟩ := hw
      exact ⟨p, vs, rfl, (tr_unlock hH).d _ _ h1, AtKv.tr tr _ _ h2, bN h4⟩
    | olk p xs =>
      obtain ⟨_, _, rfl, h1, h2, h3, h4⟩ := hw
      exact ⟨_, rfl, rfl, by rw [upd_ne (nF h3)]; exact h1, AtKv.tr tr _ _ h2, fN h3, bN h4⟩
    | ins a nm fs =>
      obtain ⟨rfl, C, dx, vs, h1, h2, h3, h4, h5, h6⟩ := hw
      exact ⟨rfl, C, dx, vs, by rw [upd_ne (nF h5)]; exact h1, h2, h3, AtFs.tr tr h4, fN h5, bN h6⟩
    | odt a xs =>
      obtain ⟨rfl, vs, h1, h2, h3, h4⟩ := hw
      exact ⟨rfl, vs, by rw [upd_ne (nF h3)]; exact h1, AtKt.tr tr _ _ h2, fN h3, bN h4⟩
    | bdt a xs =>
      obtain ⟨rfl, vs, h1, h2, h4⟩ := hw
      refine ⟨rfl, vs, ?_, AtKt.tr tr _ _ h2, bN h4⟩
      rcases h1 with h1 | ⟨o, h1⟩
      · exact .inl (hN h1 (fun _ _ z => by cases z))
      · exact .inr ⟨o, hN h1 (fun _ _ z => by cases z)⟩
    | ldt p xs =>
      obtain ⟨_, _, rfl, h1, h2⟩ := hw
      exact ⟨_, rfl, rfl, by rw [upd_ne (fun z => by rw [z, hl] at h1; cases h1)]; exact h1, AtKt.tr tr _ _ h2⟩
    | blk p xs =>
      obtain ⟨_, _, rfl, h1, h2, h4⟩ := hw
      have hne : (p ()).a ≠ l := fun z => by subst z; exact nl j _ q rfl ew
      exact ⟨_, rfl, rfl, by rw [upd_ne hne]; exact h1, AtKv.tr tr _ _ h2, bN h4⟩
    | ldk p xs =>
      obtain ⟨_, _, rfl, h1, h2⟩ := hw
      have hne : (p ()).a ≠ l := fun z => by subst z; exact nl j _ q rfl ew
      exact ⟨_, rfl, rfl, by rw [upd_ne hne]; exact h1, AtKv.tr tr _ _ h2⟩
    | exc a C d er =>
      obtain ⟨cn, arg⟩ := er
      cases arg with
      | none => exact hw
      | some p =>
        obtain ⟨f, x⟩ := p
        obtain ⟨e, dd, w, h1, h2, h3⟩ := hw
        exact ⟨e, dd, w, h1, by rw [upd_ne (fun z => by rw [z, hl] at h2; cases h2)]; exact h2, At.tr tr _ _ h3⟩
end
end DL
namespace DL
open PySem PySem.Spec L2
def keyQ : Key → PyData → Bool
  | .inl i, .int j => decide (j = i)
  | .inr x, .str y => decide (y = x)
  | _, _ => false
def lkD : List (PyData × PyData) → Key → Option PyData
  | [], _ => none
  | (k', d) :: r, k => if keyQ k k' = true then some d else lkD r k
def putD (ks : List (PyData × PyData)) (k : Key) (d : PyData) : List (PyData × PyData) :=
  if (lkD ks k).isSome = true then ks.map (fun p => if keyQ k p.1 = true then (p.1, d) else p) else ks ++ [(keyD k, d)]
theorem keyQ_d (k k' : Key) : keyQ k (keyD k') = decide (k' = k) := by
  cases k <;> cases k' <;> simp [keyQ, keyD]
section
variable {K : PySem.W.Frag} {F : Hp}
theorem AtKv.lk : ∀ {kvs : List (Key × V)} {ks : List (PyData × PyData)} (k : Key), AtKv K F kvs ks → (lkD ks k = none ∧ valV kvs k = none) ∨ ∃ v d, lkD ks k = some d ∧ valV kvs k = some v ∧ At K F v d
  | _, _, k, .nil => .inl ⟨rfl, rfl⟩
  | _, _, k, .cons (k := k') (v := v) (d := d) h t => by
    unfold lkD
    by_cases e : k' = k
    · rw [keyQ_d, if_pos (decide_eq_true e), valV_pos (p := (k', v)) e]
      exact .inr ⟨v, d, rfl, rfl, h⟩
    · rw [keyQ_d, if_neg (by simp [e]), valV_neg (p := (k', v)) e]
      exact AtKv.lk k t
theorem AtKv.length : ∀ {kvs : List (Key × V)} {ks : List (PyData × PyData)}, AtKv K F kvs ks → kvs.length = ks.length
  | _, _, .nil => rfl
  | _, _, .cons _ t => by rw [List.length_cons, List.length_cons, AtKv.length t]
theorem AtKv.repl {v : V} {d : PyData} (h : At K F v d) (k : Key) : ∀ {kvs : List (Key × V)} {ks : List (PyData × PyData)}, AtKv K F kvs ks → AtKv K F (kvs.map fun kv => if kv.1 = k then (kv.1, v) else kv) (ks.map fun p => if keyQ k p.1 = true then (p.1, d) else p)
  | _, _, .nil => .nil
  | _, _, .cons (k := k') (v := v') (d := d') h' t => by
    rw [List.map_cons, List.map_cons]
    by_cases e : k' = k
    · rw [if_pos e, if_pos (by rw [keyQ_d]; exact decide_eq_true e)]
      exact .cons h (AtKv.repl h k t)
    · rw [if_neg e, if_neg (by rw [keyQ_d]; simp [e])]
      exact .cons h' (AtKv.repl h k t)
theorem AtKv.snoc {v : V} {d : PyData} (h : At K F v d) (k : Key) : ∀ {kvs : List (Key × V)} {ks : List (PyData × PyData)}, AtKv K F kvs ks → AtKv K F (kvs ++ [(k, v)]) (ks ++ [(keyD k, d)])
  | _, _, .nil => .cons h .nil
  | _, _, .cons h' t => .cons h' (AtKv.snoc h k t)
theorem AtKv.put {v : V} {d : PyData} (h : At K F v d) (k : Key) {kvs : List (Key × V)} {ks : List (PyData × PyData)} (a : AtKv K F kvs ks) : AtKv K F (putK kvs k v) (putD ks k d) := by
  unfold putK putD
  rw [valV_any]
  rcases AtKv.lk k a with ⟨e1, e2⟩ | ⟨v', d', e1, e2, _⟩
  · rw [e1, e2, if_neg (by simp), if_neg (by simp)]
    exact AtKv.snoc h k a
  · rw [e1, e2, if_pos (by simp), if_pos (by simp)]
    exact AtKv.repl h k a
theorem AtKv.get : ∀ {kvs : List (Key × V)} {ks : List (PyData × PyData)} {i : Nat} {p : PyData × PyData}, AtKv K F kvs ks → ks[i]? = some p → ∃ k v, kvs[i]? = some (k, v) ∧ p.1 = keyD k ∧ At K F v p.2
  | _, _, i, p, .nil, e => by simp at e
  | _, _, 0, p, .cons h _, e => by
    simp at e
    subst e
    exact ⟨_, _, rfl, rfl, h⟩
  | _, _, i + 1, p, .cons _ t, e => by
    obtain ⟨k, v, h1, h2⟩ := AtKv.get (i := i) t (by simpa using e)
    exact ⟨k, v, by simpa using h1, h2⟩
theorem at_key (k : Key) : At K F (kV k) (keyD k) := by
  cases k with
  | inl i => exact .int i
  | inr x => exact .str x
end
def DV.dic : DV → Option (List (PyData × PyData))
  | .d (.dict ks) => if isObj ks then none else some ks
  | .odk ks => some ks
  | .bdk ks => some ks
  | .olk _ ks => some ks
  | .blk _ ks => some ks
  | .ldk _ ks => some ks
  | _ => none
theorem dic_of {G : Gm} {F H : Hp} {v : V} {x : DV} {ks : List (PyData × PyData)} (h : VOk G F H v x) (hf : Same F H) (e : x.dic = some ks) : ∃ l kvs, v = .ref l ∧ Rd H l (.dK kvs) ∧ AtKv G.K F kvs ks := by
  match x, e, h with
  | .d (.dict ks'), e, h =>
    have e : (if isObj ks' then none else some ks') = some ks := e
    split at e
    · cases e
    · rename_i hno
      cases e
      cases (show At G.K F v (.dict _) from h) with
      | dct hs ha => exact ⟨_, _, rfl, rd_mono hf hs, ha⟩
      | obj _ _ _ _ => exact absurd rfl hno
  | .odk ks, e, h =>
    cases e
    obtain ⟨l, kvs, rfl, h1, h2, _⟩ := h
    exact ⟨l, kvs, rfl, .inl h1, h2⟩
  | .bdk ks, e, h =>
    cases e
    obtain ⟨l, kvs, rfl, h1, h2, _⟩ := h
    exact ⟨l, kvs, rfl, h1, h2⟩
  | .olk p ks, e, h =>
    cases e
    obtain ⟨_, _, rfl, h1, h2, _⟩ := h
    exact ⟨_, _, rfl, .inr ⟨_, h1⟩, h2⟩
  | .blk p ks, e, h =>
    cases e
    obtain ⟨_, _, rfl, h1, h2, _⟩ := h
    exact ⟨_, _, rfl, .inr ⟨_, h1⟩, h2⟩
  | .ldk p ks, e, h =>
    cases e
    obtain ⟨_, _, rfl, h1, h2⟩ := h
    exact ⟨_, _, rfl, .inr ⟨_, hf _ _ h1⟩, h2⟩
def DV.key : DV → Option Key
  | .d (.int i) => some (.inl i)
  | .d (.str x) => some (.inr x)
  | _ => none
theorem key_ofD {G : Gm} {F H : Hp} {v : V} {x : DV} {k : Key} (h : VOk G F H v x) (e : x.key = some k) : v = kV k := by
  match x, e, h with
  | .d (.int i), e, h => cases e; cases (show At G.K F v (.int i) from h); rfl
  | .d (.str i), e, h => cases e; cases (show At G.K F v (.str i) from h); rfl
section
variable {u u1 u2 u3 : Nat} {X : Cx} {W : WC} {a b c e : Expr} {es : List Expr} {pos p1 p2 : Pos} {ma mb me mi : ME} {mas : MA} {m : MS} {x : Str}
def isOdkAt (δ : Env) (i : Nat) : Prop := match δ[i]? with
  | some (some (.odk _)) => True
  | _ => False
def mDisp1 (mk mv : ME) : ME := fun ex δ R => mk ex δ fun z => mv ex δ fun y => match z.key, y.val with
  | some k, some d => R (.odk [(keyD k, d)])
  | _, _ => False
theorem de_disp1 {kx vx : Expr} {mk mv : ME} (hk : DE X W kx mk u1) (hv : DE X W vx mv u2) : DE X W (.Dict [some kx] [vx] pos) (mDisp1 mk mv) (u1 + u2) :=
  ⟨PE.imp (pe_disp (pps_cons hk.pe hv.pe pps_nil) (by rfl) (by rfl) (fun z => by cases z) (by show 1 ≤ 15; decide)) fun σ H Q q => by
    obtain ⟨ex, G, F, δ, τ, ts, τ1, ts1, R, n, m, k⟩ := q
    intro p hp
    have gp : Good G F (δ ++ τ ++ τ1 ++ [some (.odk [])]) (σ ++ ts ++ ts1 ++ [some (.ref p)]) (upd H p (.dK [])) := n.good.newK hp .nil
    have n1 : Now X.K X.mg W (u1 + u2) ex G F δ σ τ ts (τ1 ++ [some (.odk [])]) (ts1 ++ [some (.ref p)]) (upd H p (.dK [])) := ⟨n.k, n.l1, n.l2, by simpa only [List.append_assoc] using gp, n.link, n.ck⟩
    refine ⟨ex, G, F, δ, τ, ts, _, _, _, n1.fst, m, fun z hz zv F1 H1 g1 => ?_⟩
    refine ⟨ex, G.up u1, F1, δ, τ, ts, _, _, _, n1.after g1, hz, fun y hy yv F2 H2 g2 => ?_⟩
    have e1 : Good (G.up (u1 + u2)) F2 (δ ++ τ ++ τ1 ++ [some (.odk [])] ++ [some z] ++ [some y]) (σ ++ ts ++ ts1 ++ [some (.ref p)] ++ [some zv] ++ [some yv]) H2 := by
      rw [up_up] at g2
      simpa only [List.append_assoc] using g2
    have hy : (match z.key, y.val with | some k, some d => R (.odk [(keyD k, d)]) | _, _ => False) := hy
    split at hy
    · rename_i kk d ez ey
      have hkk := key_ofD e1.pop.top ez
      subst hkk
      obtain ⟨F3, s3, g3⟩ := fix_one (A := δ ++ τ ++ τ1 ++ [some (.odk [])] ++ [some z]) (A2 := []) (x := y) (ρ := σ ++ ts ++ ts1 ++ [some (.ref p)] ++ [some (kV kk)] ++ [some yv]) (by simpa using e1) ey
      have g3' : Good (G.up (u1 + u2)) F3 (δ ++ τ ++ τ1 ++ [some (.odk [])] ++ [some z] ++ [some (.d d)]) (σ ++ ts ++ ts1 ++ [some (.ref p)] ++ [some (kV kk)] ++ [some yv]) H2 := g3
      have hd : At G.K F3 yv d := g3'.top
      have g4 := g3'.pop.pop
      obtain ⟨l, kvs, e2, q1, q2, q3, q4⟩ := g4.top
      cases e2
      cases q2
      refine ⟨q1, [(kk, yv)], rfl, by show 1 ≤ 15; decide, ?_⟩
      have g5 := g4.writeG (n := (δ ++ τ ++ τ1).length) (x := .odk []) (y := .odk [(keyD kk, d)]) (l := p) (o := .dK [(kk, yv)]) rfl rfl (fun j w e b => ?_) (by simp) (by
        have hl : (δ ++ τ ++ τ1).length = (σ ++ ts ++ ts1).length := by have := g4.len; simp at this ⊢; omega
        rw [hl]; simp) (fun H' h1 h2 h3 => ⟨p, _, rfl, h1, .cons hd .nil, h2, h3⟩)
      · rw [show (δ ++ τ ++ τ1 ++ [some (DV.odk [])]).set (δ ++ τ ++ τ1).length (some (.odk [(keyD kk, d)])) = δ ++ τ ++ τ1 ++ [some (.odk [(keyD kk, d)])] by rw [List.set_append_right _ _ (Nat.le_refl _), Nat.sub_self]; rfl] at g5
        exact k _ hy _ F3 _ g5
      · -- nothing else stands for the new dict
        intro ew
        obtain ⟨w2, ew2, hw2⟩ := g4.sl j w e
        rw [ew] at ew2
        cases ew2
        have hj : j < (δ ++ τ ++ τ1).length ∨ j = (δ ++ τ ++ τ1).length := by
          have := (List.getElem?_eq_some_iff.mp e).1
          simp at this ⊢; omega
        rcases hj with hj | hj
        · have e0 : (δ ++ τ ++ τ1)[j]? = some (some w) := by rw [List.getElem?_append_left hj] at e; exact e
          obtain ⟨w3, ew3, hw3⟩ := n.good.sl j w e0
          have hl : (δ ++ τ ++ τ1).length = (σ ++ ts ++ ts1).length := by have := n.good.len; exact this
          rw [List.getElem?_append_left (by omega), ew3] at ew
          cases ew
          obtain ⟨l3, o3, e3, h3, _⟩ := bor_at hw3 (by rw [b]; simp)
          cases e3
          rw [hp] at h3; cases h3
        · subst hj
          simp at e
          subst e
          cases b
    · exact hy.elim⟩
def keysD (ks : List (PyData × PyData)) : List PyData := ks.map (·.1)
def DV.wlk : DV → Option ((Unit → LkP) × List (PyData × PyData))
  | .blk p ks => some (p, ks)
  | .ldk p ks => some (p, ks)
  | _ => none
theorem wlk_of {G : Gm} {F H : Hp} {v : V} {x : DV} {p : Unit → LkP} {ks : List (PyData × PyData)} (h : VOk G F H v x) (hf : Same F H) (e : x.wlk = some (p, ks)) : v = .ref (p ()).a ∧ H (p ()).a = some (.frz (p ()).o (.dK (p ()).k)) ∧ AtKv G.K F (p ()).k ks := by
  match x, e, h with
  | .blk p ks, e, h =>
    cases e
    obtain ⟨_, _, rfl, h1, h2, _⟩ := h
    exact ⟨rfl, h1, h2⟩
  | .ldk p ks, e, h =>
    cases e
    obtain ⟨_, _, rfl, h1, h2⟩ := h
    exact ⟨rfl, hf _ _ h1, h2⟩
def mIKeys (me : ME) : MI := fun ex δ R => me ex δ fun x => match x.wlk with
  | some (_, ks) => R ⟨[x], keysD ks⟩
  | none => False
theorem di_keys {tg : Expr} (h : DE X W e me u) : DI X W tg e (mIKeys me) u := ⟨PI.imp (pi_keys h.pe) fun σ H Q q => by
  obtain ⟨ex, G, F, δ, τ, ts, τ1, ts1, R, n, m, k⟩ := q
  refine ⟨ex, G, F, δ, τ, ts, τ1, ts1, _, n, m, fun x hx v F1 H1 g1 => ?_⟩
  split at hx
  · rename_i p ks e
    obtain ⟨rfl, hs, ha⟩ := wlk_of g1.top g1.fh e
    refine ⟨_, _, rfl, .inl ⟨_, hs, k _ hx [.ref (p ()).a] F1 H1 _ rfl (by simpa using g1) fun b i F2 A B A' B' H2 hA hB g2 => ?_⟩⟩
    have ht := sub1 (g2.cut hB)
    obtain ⟨_, hs', ha'⟩ := wlk_of ht g2.fh e
    have hl := ha'.length
    refine ⟨fun hi => ⟨hs', by rw [hl]; simpa [keysD] using hi⟩, fun d hd => ?_⟩
    unfold keysD at hd
    rw [List.getElem?_map] at hd
    cases hq : ks[i]? with
    | none => rw [hq] at hd; cases hd
    | some q =>
      rw [hq] at hd
      cases hd
      obtain ⟨kk, w, e1, e2, e3⟩ := ha'.get hq
      refine ⟨⟨hs', (List.getElem?_eq_some_iff.mp e1).1⟩, fun y H3 hy => ?_⟩
      obtain ⟨rfl, k', v', e4, rfl⟩ := hy
      rw [e1] at e4
      cases e4
      dsimp only
      rw [e2]
      exact ⟨F2, by simpa only [List.append_assoc] using g2.pushD (at_key kk)⟩
  · exact hx.elim⟩
def mLck (i : Nat) (m : ME) : ME := fun _ δ R => match δ[i]? with
  | some (some (.odk ks)) => ∀ p : Unit → LkP, m ex0 (δ.set i (some (.olk p ks))) fun r => r.isLk = false ∧ R r
  | some (some (.d (.dict ks))) => isObj ks = false ∧ ∀ p : Unit → LkP, m ex0 (δ.set i (some (.ldk p ks))) fun r => r.isLk = false ∧ R r
  | some (some (.blk _ _)) => m ex0 δ R
  | some (some (.ldk _ _)) => m ex0 δ R
  | _ => False
theorem PE.or {X : Cx} {e : Expr} {t t' : TE} (h : PE X e t) (h' : PE X e t') : PE X e fun σ H Q => t σ H Q ∨ t' σ H Q := ⟨fun pins s σ H Q I q => by
  rcases q with q | q
  · exact h.run pins s σ H Q I q
  · exact h'.run pins s σ H Q I q⟩
theorem set_back {A : Env} {i : Nat} {x : Option DV} (h : A[i]? = some x) : A.set i x = A := by
  refine List.ext_getElem? fun j => ?_
  by_cases q : j = i
  · subst q
    rw [List.getElem?_set_self (List.getElem?_eq_some_iff.mp h).1, h]
  · rw [List.getElem?_set_ne (fun z => q z.symm)]
theorem set3 {A B C : Env} {i : Nat} {x : Option DV} (hi : i < A.length) : (A ++ B ++ C).set i x = A.set i x ++ B ++ C := by
  rw [List.append_assoc, List.set_append_left _ _ hi, List.append_assoc]
theorem lck_lift (i : Nat) (σ : L2.St) (H : Hp) (Q : VK) (q : liftE X.K X.mg W u (mLck i me) σ H Q) : tLockE (liftE X.K X.mg W u me) σ H Q ∨ liftE X.K X.mg W u me σ H Q := by
  obtain ⟨ex, G, F, δ, τ, ts, τ1, ts1, R, n, m, k⟩ := q
  unfold mLck at m
  have lk0 : ∀ {G' : Gm}, Link X.K X.mg W u G' τ ts ex0 := fun _ _ _ _ _ _ _ _ _ _ _ _ _ _ z => z.elim
  have hT : ∀ {j : Nat}, (δ ++ τ ++ τ1 : Env)[j]? = (δ ++ τ ++ τ1)[j]? := rfl
  split at m
  · -- one's own
    rename_i ks e0
    have hi : i < δ.length := (List.getElem?_eq_some_iff.mp e0).1
    have e1 : (δ ++ τ ++ τ1)[i]? = some (some (.odk ks)) := by rw [List.append_assoc, List.getElem?_append_left hi]; exact e0
    obtain ⟨v, ev, hv⟩ := n.good.get e1
    obtain ⟨l, kvs, rfl, h1, h2, h3, h4⟩ := hv
    have hL : (δ ++ τ ++ τ1).length = (σ ++ ts ++ ts1).length := n.good.len
    refine .inl ⟨l, _, h1, True.intro, fun od => ?_⟩
    have g1 := n.good.lockO e1 ev h1 od
    rw [set3 hi] at g1
    refine ⟨ex0, G, F, δ.set i (some (.olk (lkP l od kvs) ks)), τ, ts, τ1, ts1, _, ⟨n.k, by simpa using n.l1, n.l2, g1, lk0, n.ck⟩, m (lkP l od kvs), fun r hr v F2 H2 g2 => ?_⟩
    obtain ⟨hr1, hr2⟩ := hr
    have e2 : (δ.set i (some (.olk (lkP l od kvs) ks)) ++ τ ++ τ1 ++ [some r])[i]? = some (some (.olk (lkP l od kvs) ks)) := by
      rw [List.append_assoc, List.append_assoc, List.getElem?_append_left (by simpa using hi), List.getElem?_set_self hi]
    obtain ⟨w, ew, hw⟩ := g2.get e2
    obtain ⟨_, _, rfl, q1, q2, q3, q4⟩ := hw
    refine ⟨q1, ?_⟩
    have g3 := g2.unlockO (o := od) (kvs := kvs) e2 ew q1 (fun j z hj ez hz => ?_)
    · rw [List.set_append_left _ _ (by simp; omega), set3 (by simpa using hi), List.set_set, set_back e0] at g3
      exact k r hr2 v F2 _ g3
    · intro es
      rcases Nat.lt_or_ge j (δ ++ τ ++ τ1).length with hj2 | hj2
      · have ez2 : (δ ++ τ ++ τ1)[j]? = some (some z) := by
          rw [List.getElem?_append_left (by simpa using hj2), ← set3 hi, List.getElem?_set_ne (fun q => hj q.symm)] at ez
          exact ez
        obtain ⟨w2, ew2, hw2⟩ := n.good.sl j z ez2
        rw [List.getElem?_append_left (by rw [← hL]; exact hj2), ew2] at es
        cases es
        cases z with
        | olk p xs =>
          obtain ⟨_, _, r0, r1, _⟩ := hw2
          have r0 := V.ref.inj r0
          have r0 : l = (p ()).a := r0
          rw [← r0, h1] at r1; cases r1
        | blk p xs =>
          obtain ⟨_, _, r0, r1, _⟩ := hw2
          have r0 := V.ref.inj r0
          have r0 : l = (p ()).a := r0
          rw [← r0, h1] at r1; cases r1
        | ldk p xs =>
          obtain ⟨_, _, r0, r1, _⟩ := hw2
          have r0 := V.ref.inj r0
          have r0 : l = (p ()).a := r0
          rw [← r0, h3] at r1; cases r1
        | _ => cases hz
      · have hj3 : j = (δ ++ τ ++ τ1).length := by
          have := (List.getElem?_eq_some_iff.mp ez).1
          simp at this hj2 ⊢; omega
        rw [List.getElem?_append_right (by simp; simp at hj2; omega)] at ez
        have hj4 : j - (δ.set i (some (DV.olk (lkP l od kvs) ks)) ++ τ ++ τ1).length = 0 := by simp at hj3 ⊢; omega
        rw [hj4] at ez
        cases ez
        rw [hr1] at hz; cases hz
  · -- fixed data
    rename_i ks e0
    obtain ⟨hno, m⟩ := m
    have hi : i < δ.length := (List.getElem?_eq_some_iff.mp e0).1
    have e1 : (δ ++ τ ++ τ1)[i]? = some (some (.d (.dict ks))) := by rw [List.append_assoc, List.getElem?_append_left hi]; exact e0
    obtain ⟨v, ev, hv⟩ := n.good.get e1
    have hL : (δ ++ τ ++ τ1).length = (σ ++ ts ++ ts1).length := n.good.len
    obtain ⟨l, kvs, rfl, hs, ha⟩ : ∃ l kvs, v = .ref l ∧ Rd F l (.dK kvs) ∧ AtKv G.K F kvs ks := by
      cases (show At G.K F v (.dict ks) from hv) with
      | dct hs ha => exact ⟨_, _, rfl, hs, ha⟩
      | obj _ _ _ _ => cases hno
    rcases hs with hs | ⟨od, hs⟩
    · have hH := n.good.fh _ _ hs
      refine .inl ⟨l, _, hH, True.intro, fun od => ?_⟩
      have g1 := n.good.lockF hs od
      have g1 := g1.reslot (y := .ldk (lkP l od kvs) ks) e1 ev ⟨_, rfl, rfl, upd_same, AtKv.tr (tr_lock hs) _ _ ha⟩ (fun z => by cases z)
      rw [set3 hi] at g1
      refine ⟨ex0, G.lk l (.frz od (.dK kvs)), _, δ.set i (some (.ldk (lkP l od kvs) ks)), τ, ts, τ1, ts1, _, ⟨n.k, by simpa using n.l1, n.l2, g1, lk0, n.ck⟩, m (lkP l od kvs), fun r hr v F2 H2 g2 => ?_⟩
      obtain ⟨hr1, hr2⟩ := hr
      have e2 : (δ.set i (some (.ldk (lkP l od kvs) ks)) ++ τ ++ τ1 ++ [some r])[i]? = some (some (.ldk (lkP l od kvs) ks)) := by
        rw [List.append_assoc, List.append_assoc, List.getElem?_append_left (by simpa using hi), List.getElem?_set_self hi]
      obtain ⟨w, ew, hw⟩ := g2.get e2
      obtain ⟨_, _, rfl, q1, q2⟩ := hw
      replace q1 : F2 l = some (.frz od (.dK kvs)) := q1
      refine ⟨g2.fh _ _ q1, ?_⟩
      have g3 := g2.reslot (y := .d (.dict ks)) e2 ew (.dct (.inr ⟨_, q1⟩) q2) (fun z => by cases z)
      rw [List.set_append_left _ _ (by simp; omega), set3 (by simpa using hi), List.set_set, set_back e0] at g3
      have g4 := Good.unlockF (G := G.up u) (l := l) (o := od) (kvs := kvs) g3 n.good.g.cb q1 (fun z hz => ?_) (fun z hz => ?_) (fun j z ez hz => ?_)
      · exact k r hr2 v _ _ g4
      · have := n.good.f0 _ _ hz
        rw [hs] at this; exact (Option.some.inj this).symm
      · have cl : ¬ G.C l := fun c => by have := n.good.cf l c; rw [hs] at this; cases this
        have := n.good.bh _ _ cl hz
        rw [hH] at this; exact (Option.some.inj this).symm
      · intro es
        rcases Nat.lt_or_ge j (δ ++ τ ++ τ1).length with hj2 | hj2
        · rw [List.getElem?_append_left hj2] at ez
          obtain ⟨w2, ew2, hw2⟩ := n.good.sl j z ez
          rw [List.getElem?_append_left (by rw [← hL]; exact hj2), ew2] at es
          cases es
          cases z with
          | olk p xs =>
            obtain ⟨_, _, r0, r1, _⟩ := hw2
            have r0 : l = (p ()).a := V.ref.inj r0
            rw [← r0, hH] at r1; cases r1
          | blk p xs =>
            obtain ⟨_, _, r0, r1, _⟩ := hw2
            have r0 : l = (p ()).a := V.ref.inj r0
            rw [← r0, hH] at r1; cases r1
          | ldk p xs =>
            obtain ⟨_, _, r0, r1, _⟩ := hw2
            have r0 : l = (p ()).a := V.ref.inj r0
            rw [← r0, hs] at r1; cases r1
          | _ => cases hz
        · have hj3 : j = (δ ++ τ ++ τ1).length := by
            have := (List.getElem?_eq_some_iff.mp ez).1
            simp at this hj2 ⊢; omega
          rw [List.getElem?_append_right hj2, hj3, Nat.sub_self] at ez
          cases ez
          rw [hr1] at hz; cases hz
    · -- it is locked already
      have g1 := n.good.reslot (y := .ldk (lkP l od kvs) ks) e1 ev ⟨_, rfl, rfl, hs, ha⟩ (fun z => by cases z)
      rw [set3 hi] at g1
      refine .inr ⟨ex0, G, F, δ.set i (some (.ldk (lkP l od kvs) ks)), τ, ts, τ1, ts1, _, ⟨n.k, by simpa using n.l1, n.l2, g1, lk0, n.ck⟩, m (lkP l od kvs), fun r hr v F2 H2 g2 => ?_⟩
      obtain ⟨hr1, hr2⟩ := hr
      have e2 : (δ.set i (some (.ldk (lkP l od kvs) ks)) ++ τ ++ τ1 ++ [some r])[i]? = some (some (.ldk (lkP l od kvs) ks)) := by
        rw [List.append_assoc, List.append_assoc, List.getElem?_append_left (by simpa using hi), List.getElem?_set_self hi]
      obtain ⟨w, ew, hw⟩ := g2.get e2
      obtain ⟨_, _, rfl, q1, q2⟩ := hw
      have g3 := g2.reslot (y := .d (.dict ks)) e2 ew (.dct (.inr ⟨_, q1⟩) q2) (fun z => by cases z)
      rw [List.set_append_left _ _ (by simp; omega), set3 (by simpa using hi), List.set_set, set_back e0] at g3
      exact k r hr2 v _ _ g3
  · exact .inr ⟨ex0, G, F, δ, τ, ts, τ1, ts1, R, ⟨n.k, n.l1, n.l2, n.good, lk0, n.ck⟩, m, k⟩
  · exact .inr ⟨ex0, G, F, δ, τ, ts, τ1, ts1, R, ⟨n.k, n.l1, n.l2, n.good, lk0, n.ck⟩, m, k⟩
  · exact m.elim
theorem de_lck (i : Nat) (h : DE X W e me u) : DE X W e (mLck i me) u := ⟨PE.imp (PE.or (pe_lock h.pe) h.pe) fun σ H Q q => lck_lift i σ H Q q⟩
theorem PS.or {X : Cx} {e : Stmt} {t t' : TS} (h : PS X e t) (h' : PS X e t') : PS X e fun D σ H => t D σ H ∨ t' D σ H := ⟨fun pins s σ H D I q => by
  rcases q with q | q
  · exact h.run pins s σ H D I q
  · exact h'.run pins s σ H D I q⟩
variable {tg iter elt : Expr} {ifs : List Expr} {scope : Scope} {own : List (Str × Nat)} {tt : MT} {te : ME} {ut ue : Nat} {dom : List Nat} {mi : MI}
end
section
variable {ks : List (PyData × PyData)} {p : Unit → LkP} {i : Int} {x : Str}
theorem seen_k : DV.seen (.odk ks) = .bdk ks := rfl
theorem seen_bk : DV.seen (.bdk ks) = .bdk ks := rfl
theorem seen_lk : DV.seen (.olk p ks) = .blk p ks := rfl
theorem seen_bl : DV.seen (.blk p ks) = .blk p ks := rfl
theorem seen_ld : DV.seen (.ldk p ks) = .ldk p ks := rfl
theorem fix_k : DV.fix (.odk ks) = .d (.dict ks) := rfl
theorem fix_bk : DV.fix (.bdk ks) = .d (.dict ks) := rfl
theorem isBor_k : DV.isBor (.odk ks) = false := rfl
theorem isBor_bk : DV.isBor (.bdk ks) = true := rfl
theorem isBor_ld : DV.isBor (.ldk p ks) = false := rfl
theorem dic_d (h : isObj ks = false) : DV.dic (.d (.dict ks)) = some ks := by
  show (if isObj ks then none else some ks) = some ks
  rw [h]; rfl
theorem isObj_0 : isObj [] = false := rfl
theorem isObj_s : isObj ((.str x, y) :: ks) = false := rfl
theorem isObj_i {x : Int} : isObj ((.int x, y) :: ks) = false := rfl
theorem dic_k : DV.dic (.odk ks) = some ks := rfl
theorem dic_bk : DV.dic (.bdk ks) = some ks := rfl
theorem dic_bl : DV.dic (.blk p ks) = some ks := rfl
theorem dic_ld : DV.dic (.ldk p ks) = some ks := rfl
theorem key_i : DV.key (.d (.int i)) = some (.inl i) := rfl
theorem key_s : DV.key (.d (.str x)) = some (.inr x) := rfl
theorem wlk_b : DV.wlk (.blk p ks) = some (p, ks) := rfl
theorem wlk_l : DV.wlk (.ldk p ks) = some (p, ks) := rfl
theorem isLk_d {d : PyData} : DV.isLk (.d d) = false := rfl
theorem isLk_o {xs : List PyData} : DV.isLk (.own xs) = false := rfl
theorem isOdk_0 {δ : Env} : isOdkAt (some (.odk ks) :: δ) 0 = True := rfl
theorem isOdk_s {y : Option DV} {n : Nat} {δ : Env} : isOdkAt (y :: δ) (n + 1) = isOdkAt δ n := by unfold isOdkAt; rw [List.getElem?_cons_succ]
end
end DL
namespace DL
open PySem PySem.Spec L2
theorem DFn.void {P : Program} {w : World} {K : PySem.W.Frag} {mg : Str → Option Value} {base : Heap} {x qual : Str} {st : Stmt} {f : Addr} {fd : FuncData} {ps : List Str} {k u : Nat} {mf : MF} {CK : CKT} (hm : mg x = some (.ref f)) (T : L2.Fun K x qual st f fd) (hb : Binds K fd ps [])
    (z : ∀ as R ex, ¬ mf as R ex) : DFn P w K mg base CK x k u ps.length mf := by
  refine ⟨f, fd, ps, hm, T.kp, hb, rfl, ⟨fun vs H Q E q => q.1, fun A outer s H args us vs Q E hg hr he hb' hv q => ?_⟩⟩
  obtain ⟨_, _, _, _, _, _, _, _, _, _, _, h, _⟩ := q
  exact absurd h (z _ _ _)
end DL
namespace DL
open PySem PySem.Spec L2 PySem.W
section
variable {u : Nat} {X : Cx} {W : WC} {e : Expr} {pos p : Pos} {mas : MA}
end
end DL
namespace DL
open PySem PySem.Spec L2 PySem.W
abbrev HP := Int × Int × Str
def hpD (p : HP) : PyData := .tuple [.int p.1, .tuple [.int p.2.1, .str p.2.2]]
def rMaxH (K : Frag) : List V → Hp → VK → Prop := fun vs H Q => ∃ (a : Addr) (xs : List V) (p : HP) (ps : List HP) (F : Hp), vs = [.ref a] ∧ SqL K H a xs ∧ Same F H ∧ AtL K F xs ((p :: ps).map hpD) ∧ ∀ v, At K F v (maxD (hpD p) (ps.map hpD)) → Q v H
theorem reads_hs {K : Frag} {F : Hp} {h : Heap} : ∀ {xs : List V} {us : List Value} {ps : List HP}, Vals xs us → AtL K F xs (ps.map hpD) → (∀ (x : V) (u : Value) (p : HP), RelV x u → At K F x (hpD p) → ∃ as, Reads h u (hpD p) as) → ∃ as, ReadsAll h us (ps.map hpD) as
  | [], _, ps, r, q, _ => by
    cases r
    cases ps with
    | nil => exact ⟨_, .nil⟩
    | cons _ _ => cases q
  | x :: xs, _, ps, r, q, f => by
    cases r with
    | cons r1 r2 =>
      cases ps with
      | nil => cases q
      | cons p ps =>
        cases q with
        | cons h1 h2 =>
          obtain ⟨as, a1⟩ := f _ _ p r1 h1
          obtain ⟨bs, a2⟩ := reads_hs r2 h2 f
          exact ⟨_, .cons a1 a2⟩
theorem depth_hs : ∀ ps : List HP, PyData.depthAll (ps.map hpD) ≤ 2
  | [] => by simp [PyData.depthAll]
  | p :: ps => by
    have := depth_hs ps
    simp only [List.map_cons, PyData.depthAll]
    have hd : (hpD p).depth ≤ 2 := by simp [hpD, PyData.depth, PyData.depthAll]
    omega
theorem cr_maxH {X : Cx} (hc : X.calm = true) (hu : X.A.units + 64 < cLine) : CallR X (.builtin "max") (rMaxH X.K) := by
  intro pins s σ H vs us Q I r h
  obtain ⟨a, xs, p, ps, F, rfl, hs, hF, hat, q⟩ := h
  obtain ⟨its, rv, hl, hz⟩ := I.list hs
  rw [Vals.ref1 r]
  have er : ∀ (x : V) (u : Value) (p : HP), RelV x u → At X.K F x (hpD p) → ∃ as, Reads s.heap u (hpD p) as := fun x u p r1 h1 => At.reads I hF (hpD p) x u (by simp [hpD, PyData.hasDict, PyData.hasDictAll]) h1 r1
  obtain ⟨as, hr⟩ := reads_hs rv hat er
  have hd := depth_hs (p :: ps)
  simp only [List.map_cons] at hd
  refine max_list_data (I.ok.hd hc) hl.isList hr ⟨fun x hx y hy => ?_, fun x hx => ?_⟩ (by omega) fun i v h' tk bs hv rd hk => ?_
  · obtain ⟨b, _, rfl⟩ := List.mem_map.mp (show x ∈ (p :: ps).map hpD from hx)
    obtain ⟨c, _, rfl⟩ := List.mem_map.mp (show y ∈ (p :: ps).map hpD from hy)
    simp [hpD, alike, alikeAll]
  · obtain ⟨b, _, rfl⟩ := List.mem_map.mp (show x ∈ (p :: ps).map hpD from hx)
    intro z; cases z
  · obtain ⟨x, hx, rx⟩ := vals_nth rv (by simpa using hv)
    obtain ⟨d, hdd, hA⟩ := hat.get' hx
    rw [List.getElem?_map] at hdd
    obtain ⟨b, hb, rfl⟩ : ∃ b, (p :: ps)[i]? = some b ∧ hpD b = d := by
      cases e : (p :: ps)[i]? with
      | none => rw [e] at hdd; cases hdd
      | some b => rw [e] at hdd; exact ⟨b, rfl, Option.some.inj hdd⟩
    obtain ⟨cs, hR⟩ := er x v b rx hA
    have e := (PyProof.Rows.reads_det (fun b o e _ => hk b o e) hR rd).1
    refine ⟨x, H, I.kept hk, rx, q x ?_⟩
    rw [e]
    exact hA
theorem lt_hp (p q : HP) : (dataLt (hpD p) (hpD q) = true → p.1 ≤ q.1) ∧ (dataLt (hpD p) (hpD q) = false → q.1 ≤ p.1) := by
  unfold hpD
  rw [dataLt_pair (by simp [alike]) (by simp [alike, alikeAll]), dataLt_int]
  by_cases c : PyData.eqv (.int p.1) (.int q.1) = true
  · have e : p.1 = q.1 := by
      have c : (p.1 == q.1) = true := c
      simpa using c
    rw [e]
    exact ⟨fun _ => Int.le_refl _, fun _ => Int.le_refl _⟩
  · rw [if_neg c]
    simp only [decide_eq_true_eq, decide_eq_false_iff_not]
    omega
theorem maxD_hs : ∀ (ps : List HP) (p : HP), ∃ m, m ∈ p :: ps ∧ (∀ q ∈ p :: ps, q.1 ≤ m.1) ∧ maxD (hpD p) (ps.map hpD) = hpD m
  | [], p => ⟨p, by simp, fun q hq => by
    rw [List.mem_singleton.mp hq]
    exact Int.le_refl _, rfl⟩
  | b :: ps, p => by
    have e : maxD (hpD p) ((b :: ps).map hpD) = maxD (if dataLt (hpD p) (hpD b) then hpD b else hpD p) (ps.map hpD) := rfl
    rw [e]
    have hlt := lt_hp p b
    by_cases c : dataLt (hpD p) (hpD b) = true
    · rw [if_pos c]
      have := hlt.1 c
      obtain ⟨m, h1, h2, h3⟩ := maxD_hs ps b
      refine ⟨m, List.mem_cons_of_mem _ h1, fun q hq => ?_, h3⟩
      rcases List.mem_cons.mp hq with rfl | hq
      · have := h2 b (by simp)
        omega
      · exact h2 q hq
    · rw [if_neg c]
      have := hlt.2 (by simpa using c)
      obtain ⟨m, h1, h2, h3⟩ := maxD_hs ps p
      refine ⟨m, (List.mem_cons.mp h1).elim (fun z => by rw [z]; exact List.mem_cons_self) fun z => List.mem_cons_of_mem _ (List.mem_cons_of_mem _ z), fun q hq => ?_, h3⟩
      rcases List.mem_cons.mp hq with rfl | hq
      · exact h2 q (by simp)
      · rcases List.mem_cons.mp hq with rfl | hq
        · have := h2 p (by simp)
          omega
        · exact h2 q (by simp [hq])
def hpOf : PyData → Option HP
  | .tuple [.int a, .tuple [.int b, .str c]] => some (a, b, c)
  | _ => none
def hpsL : List PyData → Option (List HP)
  | [] => some []
  | d :: ds => match hpOf d, hpsL ds with
    | some p, some ps => some (p :: ps)
    | _, _ => none
theorem hpOf_eq {d : PyData} {p : HP} (h : hpOf d = some p) : d = hpD p := by
  unfold hpOf at h
  split at h
  · cases h; rfl
  · cases h
theorem hpsL_eq : ∀ {ds : List PyData} {ps : List HP}, hpsL ds = some ps → ds = ps.map hpD
  | [], _, h => by cases h; rfl
  | d :: ds, ps, h => by
    unfold hpsL at h
    split at h
    · rename_i p ps' h1 h2
      cases h
      rw [hpOf_eq h1, hpsL_eq h2]
      rfl
    · cases h
theorem hpsL_map : ∀ ps : List HP, hpsL (ps.map hpD) = some ps
  | [] => rfl
  | p :: ps => by
    show (match hpOf (hpD p), hpsL (ps.map hpD) with
      | some p, some ps => some (p :: ps)
      | _, _ => none) = _
    rw [hpsL_map ps]
    rfl
section
variable {u : Nat} {X : Cx} {W : WC} {e : Expr} {pos p : Pos} {mas : MA}
end
section
variable {xs : List PyData} {R : DV → Prop}
end
end DL
namespace DL
open PySem PySem.Spec L2
section
variable {u1 : Nat} {X : Cx} {W : WC} {a b c d : Expr} {pos : Pos} {mas : MA} {x y z w : Str}
end
end DL
namespace DL
open PySem PySem.Spec L2 PySem.W
section
variable {u : Nat} {X : Cx} {W : WC} {e : Expr} {pos p : Pos} {mas : MA}
end
end DL
namespace DL
open PySem PySem.Spec L2
theorem Good.fill {G : Gm} {F0 F : Hp} {D : Env} {S : L2.St} {H0 H : Hp} {p : Addr} {ks : List (PyData × PyData)} {kvs : List (Key × V)} (n : Good G F0 D S H0) (hp : H0 p = none) (g : Good G F (D ++ [some (.odk [])]) (S ++ [some (.ref p)]) H) (h : AtKv G.K F kvs ks) :
    Good G F (D ++ [some (.odk ks)]) (S ++ [some (.ref p)]) (upd H p (.dK kvs)) := by
  have hl : D.length = S.length := n.len
  have g5 := g.writeG (n := D.length) (x := .odk []) (y := .odk ks) (l := p) (o := .dK kvs) rfl rfl (fun j w e b => ?_) (by simp) (by rw [hl]; simp) (fun H' h1 h2 h3 => ⟨p, _, rfl, h1, h, h2, h3⟩)
  · rw [show (D ++ [some (DV.odk [])]).set D.length (some (.odk ks)) = D ++ [some (.odk ks)] by rw [List.set_append_right _ _ (Nat.le_refl _), Nat.sub_self]; rfl] at g5
    exact g5
  · intro ew
    have hj : j < D.length ∨ j = D.length := by
      have := (List.getElem?_eq_some_iff.mp e).1
      simp at this ⊢; omega
    rcases hj with hj | hj
    · have e0 : D[j]? = some (some w) := by rw [List.getElem?_append_left hj] at e; exact e
      obtain ⟨w3, ew3, hw3⟩ := n.sl j w e0
      rw [List.getElem?_append_left (by omega), ew3] at ew
      cases ew
      obtain ⟨l3, o3, e3, h3, _⟩ := bor_at hw3 (by rw [b]; simp)
      cases e3
      rw [hp] at h3; cases h3
    · subst hj
      simp at e
      subst e
      cases b
def DV.num : DV → Option Int
  | .d (.int i) => some i
  | _ => none
theorem num_i {i : Int} : DV.num (.d (.int i)) = some i := rfl
section
variable {X : Cx} {W : WC} {u1 u2 u3 : Nat} {e1 e2 e3 : Expr} {m1 m2 m3 : ME} {x1 x2 x3 : Str} {j1 j2 j3 : Nat} {p1 p2 p3 pos : Pos}
end
end DL
namespace DL
open PySem PySem.Spec L2
def mIsi2 (T1 T2 : String) (me : ME) : ME := fun ex δ R => me ex δ fun x => match x.pd with
  | some d => R (.d (.bool (isTy d T1 || isTy d T2)))
  | none => False
section
variable {X : Cx} {W : WC} {u : Nat} {e : Expr} {me : ME} {p pos tpos p1 p2 : Pos} {kx : Nat} {T1 T2 : String} {x1 x2 : Str}
theorem de_isi2 (h1 : T1 ∈ tys) (h2 : T2 ∈ tys) (hg : Gl X "isinstance") (hm : X.mg "isinstance" = none) (he : DE X W e me u) (g1 : Gl X x1) (m1 : X.mg x1 = none) (b1 : bootBuiltins x1 = some (.type T1)) (g2 : Gl X x2) (m2 : X.mg x2 = none) (b2 : bootBuiltins x2 = some (.type T2))
    (n1 : x1 ≠ "__name__" := by decide) (d1 : (x1 == ("__debug__" : Str)) = false := by decide) (n2 : x2 ≠ "__name__" := by decide) (d2 : (x2 == ("__debug__" : Str)) = false := by decide)
    (hs : starEach [e, .Tuple [.Name x1 p1, .Name x2 p2] kx tpos] X.env = (false, eval e X.env) :: starEach [.Tuple [.Name x1 p1, .Name x2 p2] kx tpos] X.env := by rfl) (hpl : (backTo pos (starEach [.Tuple [.Name x1 p1, .Name x2 p2] kx tpos] X.env)).any (·.1) = false := by rfl)
    (hs2 : starEach [.Tuple [.Name x1 p1, .Name x2 p2] kx tpos] X.env = (false, eval (.Tuple [.Name x1 p1, .Name x2 p2] kx tpos) X.env) :: starEach [] X.env := by rfl) :
    DE X W (.Call (.Name "isinstance" p) [e, .Tuple [.Name x1 p1, .Name x2 p2] kx tpos] [] pos) (mIsi2 T1 T2 me) u := by
  refine ⟨PE.imp (pe_callB call_isiT hg hm (by decide +kernel) (pa_cons he.pe (pa_cons (pe_tup (pa_cons (pe_bltn (v := .ty T1) g1 m1 b1 rfl n1 d1) (pa_cons (pe_bltn (v := .ty T2) g2 m2 b2 rfl n2 d2) pa_nil))) pa_nil hs2) hs) (by decide) (by decide) hs hpl) ?_⟩
  rintro σ H Q ⟨ex, G, F, δ, τ, ts, τ1, ts1, R, n, m, kk⟩
  refine ⟨ex, G, F, δ, τ, ts, τ1, ts1, _, n, m, fun x hx v F1 H1 g1 => ?_⟩
  have hx : (match x.pd with | some d => R (.d (.bool (isTy d T1 || isTy d T2))) | none => False) := hx
  split at hx
  · rename_i d ed
    refine ⟨by show 2 ≤ sizeLine; decide, fun tp htp => ?_⟩
    have g2 := g1.grow (o := .tup [V.ty T1, V.ty T2]) htp
    have hd := pd_da g2.top g2.fh ed
    rw [show (G.up u).K = X.K from n.k] at hd
    obtain ⟨t, ht, hk⟩ := kit_at hd
    refine ⟨v, tp, _, _, _, isTy d T1 || isTy d T2, rfl, upd_same, .cons (.ty T1) (.cons (.ty T2) .nil), ht, ?_, kk _ hx _ _ _ (g2.pop.pushD (.bl _))⟩
    refine kitAny_cons (hk T1 h1) (fun e1 => kitAny_cons (hk T2 h2) (fun e2 => ?_) (fun e2 => ?_)) (fun e1 => ?_)
    · rw [e1, e2]; exact kitAny_nil
    · rw [e1, e2]; rfl
    · rw [e1]; rfl
  · exact hx.elim
variable {a b : Expr} {ma mb : ME} {u1 u2 : Nat}
abbrev oBor : D2 := oI (fun _ _ => True) fun i j => Builtin.bitOr i j
theorem de_bor (ha : DE X W a ma u1) (hb : DE X W b mb u2) : DE X W (.BinOp a .BitOr b pos) (mBin oBor ma mb) (u1 + u2) := by
  have h : OpR X (binaryOp .BitOr) (rI (fun _ _ => True) fun i j => .int (Builtin.bitOr i j)) := by
    intro pins s σ H x y v u Q I rx ry ⟨i, j, e1, e2, _, q⟩
    exact op_or pins s σ H x y v u Q I rx ry ⟨i, j, e1, e2, q⟩
  exact de_op h o2_I ha hb
end
end DL
namespace DL
open PySem PySem.Spec L2 PySem.W
abbrev QP := Int × Str
def qpD (p : QP) : PyData := .tuple [.int p.1, .str p.2]
def rSortedH (K : Frag) : List V → Hp → VK → Prop := fun vs H Q => ∃ (a : Addr) (xs : List V) (ps : List QP) (F : Hp), vs = [.ref a] ∧ SqL K H a xs ∧ Same F H ∧ AtL K F xs (ps.map qpD) ∧
  ∀ ys l, AtL K F ys ((ps.mergeSort (dataLe false qpD)).map qpD) → H l = none → Q (.ref l) (upd H l (.lst ys))
theorem each_inH {K : Frag} {F : Hp} : ∀ {xs : List V} {us : List Value} {ps : List QP}, Vals xs us → AtL K F xs (ps.map qpD) → EachIs (fun v b => ∃ x, RelV x v ∧ At K F x (qpD b)) us ps
  | [], _, ps, r, h => by
    cases r
    cases ps with
    | nil => exact .nil
    | cons _ _ => cases h
  | x :: xs, _, ps, r, h => by
    cases r with
    | cons r1 r2 =>
      cases ps with
      | nil => cases h
      | cons p ps =>
        cases h with
        | cons h1 h2 => exact .cons ⟨x, r1, h1⟩ (each_inH r2 h2)
theorem each_outH {K : Frag} {F : Hp} : ∀ {us : List Value} {ps : List QP}, EachIs (fun v b => ∃ x, RelV x v ∧ At K F x (qpD b)) us ps → ∃ ys, Vals ys us ∧ AtL K F ys (ps.map qpD)
  | _, _, .nil => ⟨[], .nil, .nil⟩
  | _, _, .cons ⟨x, r, h⟩ t => by
    obtain ⟨ys, r2, h2⟩ := each_outH t
    exact ⟨x :: ys, .cons r r2, .cons h h2⟩
theorem qp_noDict (p : QP) : (qpD p).hasDict = false := by simp [qpD, PyData.hasDict, PyData.hasDictAll]
theorem qp_alike (p q : QP) : alike (qpD p) (qpD q) = true := by
  simp [qpD, alike, alikeAll]
theorem qp_depth (p : QP) : (qpD p).depth ≤ 2 := by simp [qpD, PyData.depth, PyData.depthAll]
theorem cr_sortedH {X : Cx} (hu : X.A.units + 64 < cLine) : CallR X (.builtin "sorted") (rSortedH X.K) := by
  intro pins s σ H vs us Q I r h
  obtain ⟨a, xs, ps, F, rfl, hs, hF, hat, q⟩ := h
  obtain ⟨its, rv, hl, hz⟩ := I.list hs
  rw [Vals.ref1 r]
  have e := each_inH rv hat
  have er : EachIs (fun v b => ∃ as, Reads s.heap v (qpD b) as) its ps := e.mono fun v b ⟨x, r1, h1⟩ => At.reads I hF (qpD b) x v (qp_noDict b) h1 r1
  refine sorted_data (enc := qpD) hl.isList e er (AllAlike.of fun _ _ => qp_alike _ _) (Sortable.tuples fun _ => ⟨_, _, rfl⟩) (by have h1 := hat.length; rw [List.length_map] at h1; omega) (fun b _ => by have := qp_depth b; omega) fun out h1 eo => ?_
  obtain ⟨ys, k1, k2⟩ := each_outH eo
  obtain ⟨ep, he'⟩ := PyProof.Rows.sortedAll_at s.heap its out.toArray
  have hlen : ys.length ≤ sizeLine := by
    have h2 := k2.length
    have h3 := hat.length
    rw [List.length_map] at h2 h3
    rw [h2, List.length_mergeSort]
    omega
  exact ⟨.ref _, upd H (s.heap.objs.size + 1) (.lst ys), I.laid (t' := s.toks) (fun _ _ => PyProof.Rows.sortedAll_old) (Nat.le_succ _) ⟨hlen, out, ep, k1, he'⟩, rfl, q _ _ k2 (I.hok.fresh (Nat.le_succ _))⟩
def qpOf : PyData → Option QP
  | .tuple [.int a, .str x] => some (a, x)
  | _ => none
def qpsL : List PyData → Option (List QP)
  | [] => some []
  | d :: ds => match qpOf d, qpsL ds with
    | some p, some ps => some (p :: ps)
    | _, _ => none
theorem qpOf_eq {d : PyData} {p : QP} (h : qpOf d = some p) : d = qpD p := by
  unfold qpOf at h
  split at h
  · cases h
    rfl
  · cases h
theorem qpsL_eq : ∀ {ds : List PyData} {ps : List QP}, qpsL ds = some ps → ds = ps.map qpD
  | [], _, h => by cases h; rfl
  | d :: ds, ps, h => by
    unfold qpsL at h
    split at h
    · rename_i p ps' h1 h2
      cases h
      rw [qpOf_eq h1, qpsL_eq h2]
      rfl
    · cases h
theorem qpOf_cp (p : QP) : qpOf (qpD p) = some p := rfl
theorem qpsL_map : ∀ ps : List QP, qpsL (ps.map qpD) = some ps
  | [] => rfl
  | p :: ps => by
    show (match qpOf (qpD p), qpsL (ps.map qpD) with
      | some p, some ps => some (p :: ps)
      | _, _ => none) = _
    rw [qpsL_map ps, qpOf_cp]
def sortH (ps : List QP) : List QP := ps.mergeSort (dataLe false qpD)
theorem le_trH (a b c : QP) (h1 : dataLe false qpD a b = true) (h2 : dataLe false qpD b c = true) : dataLe false qpD a c = true := by
  have h1 : (!dataLt (qpD b) (qpD a)) = true := h1
  have h2 : (!dataLt (qpD c) (qpD b)) = true := h2
  show (!dataLt (qpD c) (qpD a)) = true
  cases q : dataLt (qpD c) (qpD a) with
  | false => rfl
  | true =>
    rcases PyProof.Rows.lex_negTrans _ (keyToks (qpD b)) _ q with z | z
    · rw [show dataLt (qpD c) (qpD b) = true from z] at h2; cases h2
    · rw [show dataLt (qpD b) (qpD a) = true from z] at h1; cases h1
theorem le_toH (a b : QP) : (dataLe false qpD a b || dataLe false qpD b a) = true := by
  show ((!dataLt (qpD b) (qpD a)) || (!dataLt (qpD a) (qpD b))) = true
  cases q : dataLt (qpD b) (qpD a) with
  | false => rfl
  | true =>
    cases z : dataLt (qpD a) (qpD b) with
    | false => rfl
    | true =>
      unfold dataLt at q z
      have := PyProof.Rows.lex_trans _ _ _ q z
      rw [PyProof.Rows.lex_irrefl] at this
      cases this
theorem sortH_perm {ps : List QP} : (sortH ps).Perm ps := List.mergeSort_perm _ _
theorem sortH_asc {ps : List QP} : (sortH ps).Pairwise fun a b => dataLe false qpD a b = true := List.pairwise_mergeSort le_trH le_toH ps
def oSortH : D1 := fun x R => match x.lst with
  | some ds => match qpsL ds with
    | some ps => R (.own ((sortH ps).map qpD))
    | none => False
  | none => False
theorem on_sortH {X : Cx} : OpN X (rSortedH X.K) (o1 oSortH) := on_1 fun G F δ σ H v x R Q hK g hx h k => by
  unfold oSortH at h
  split at h
  · rename_i ds e
    split at h
    · rename_i ps e2
      obtain ⟨l, vs, rfl, h1, h2⟩ := lst_of hx g.fh e
      rw [qpsL_eq e2] at h2
      refine ⟨l, vs, ps, F, rfl, SqL.of h1, g.fh, by rw [← hK]; exact h2, fun ys p hys hp => ?_⟩
      exact k _ h _ _ _ (g.newO hp (by rw [hK]; exact hys))
    · exact h.elim
  · exact h.elim
theorem oSortH_o {xs : List PyData} {R : DV → Prop} : oSortH (.own xs) R = (match qpsL xs with | some ps => R (.own ((sortH ps).map qpD)) | none => False) := rfl
theorem oSortH_l {xs : List PyData} {R : DV → Prop} : oSortH (.d (.list xs)) R = (match qpsL xs with | some ps => R (.own ((sortH ps).map qpD)) | none => False) := rfl
theorem oSortH_b {xs : List PyData} {R : DV → Prop} : oSortH (.bor xs) R = (match qpsL xs with | some ps => R (.own ((sortH ps).map qpD)) | none => False) := rfl
section
variable {u : Nat} {X : Cx} {W : WC} {e : Expr} {pos p : Pos} {mas : MA}
theorem de_sortedH (cx : CtxU X) (hg : Gl X "sorted") (hm : X.mg "sorted" = none) (ha : DA X W [e] mas u) (he : starEach [e] X.env = (false, eval e X.env) :: starEach [] X.env := by rfl) (hpl : (backTo pos (starEach [] X.env)).any (·.1) = false := by rfl) :
    DE X W (.Call (.Name "sorted" p) [e] [] pos) (mCB (o1 oSortH) mas) u := de_callB (cr_sortedH cx.u64) on_sortH hg hm (by decide +kernel) ha (by decide) (by decide) he hpl
end
end DL
namespace DL
open PySem PySem.Spec L2
variable {X : Cx} {dom : List Nat} {pos : Pos}
def gL (gs : List MG) : MG := fun v δ R => match v.lst with
  | some ds => ds.length = gs.length ∧ gsN gs ds δ R
  | none => False
theorem dg_lst {es : List Expr} {k : _} {gs : List MG} (hc : X.calm = true) (h : DGs X es dom gs) (hn : (assignEach es X.env).length = gs.length := by rfl) (hst : (assignEach es X.env).findIdx? (·.1) = none := by rfl) (hK : True := True.intro) :
    DG X (.Tuple es k pos) dom (gL gs) := ⟨PG.imp (pg_lst hc h.pgs hn hst) fun v σ H Q q => by
  obtain ⟨G, F, δ, τ, ts, r, R, kk, l1, l2, g, m, k⟩ := q
  have m : (match r.lst with | some ds => ds.length = gs.length ∧ gsN gs ds δ R | none => False) := m
  split at m
  · rename_i ds e
    obtain ⟨hl, m⟩ := m
    obtain ⟨a, vs, rfl, hs, ha⟩ := lst_of g.top g.fh e
    exact ⟨a, vs, rfl, SqL.of hs, ha.length.trans hl, G, F, δ, τ, ts, ds, R, kk, l1, l2, g.pop, ha, m, k⟩
  · exact m.elim⟩
end DL
namespace DL
open PySem PySem.Spec L2
section
variable {X : Cx} {W : WC} {u1 u2 : Nat} {a b : Expr} {pos : Pos} {ma mb : ME}
def rEqK (K : PySem.W.Frag) : R2 := fun x y H Q => (∃ a b, x = .ref a ∧ y = .ref b ∧ Rd H a (.dK []) ∧ Rd H b (.dK []) ∧ Q (.bl true) H) ∨ rEqB K false x y H Q
theorem op_eqK (hu : X.A.units + 64 < cLine) : OpR X (compareOp .Eq) (rEqK X.K) := by
  intro pins s σ H x y v u Q I rx ry h
  rcases h with ⟨a, b, rfl, rfl, ea, eb, q⟩ | h
  · obtain rfl : v = Value.ref a := rx
    obtain rfl : u = Value.ref b := ry
    obtain ⟨_, ya, va, ra, da⟩ := dk_rd I.hok ea
    obtain ⟨_, yb, vb, rb, db⟩ := dk_rd I.hok eb
    have hl : va.length = vb.length := ra.length.symm.trans rb.length
    exact PySem.W.keq_eq (knd := mixKind X.prog X.w) (r := true) ya yb da db (by omega) (fun _ => hits_all rb ra fun p hp => absurd hp List.not_mem_nil) (fin_bl I q (by simp [hl]))
  · exact op_eqB hu pins s σ H x y v u Q I rx ry h
def oEqK : D2 := fun x y R => (x = .d (.dict []) ∧ y = .d (.dict []) ∧ R (.d (.bool true))) ∨ oEq false x y R
theorem o2_eqK : Op2 X (rEqK X.K) oEqK := by
  intro G F δ σ H v u x y R Q hK g hx hy h k
  rcases h with ⟨rfl, rfl, h⟩ | h
  · have hx' : At G.K F v (.dict []) := hx
    have hy' : At G.K F u (.dict []) := hy
    cases hx' with
    | dct h1 h2 =>
      cases h2
      cases hy' with
      | dct h3 h4 =>
        cases h4
        exact .inl ⟨_, _, rfl, rfl, rd_mono g.fh h1, rd_mono g.fh h3, k _ h (.bl _) F H (g.pushD (.bl _))⟩
  · exact .inr (o2_eq G F δ σ H v u x y R Q hK g hx hy h k)
theorem de_eqK (cx : CtxU X) (ha : DE X W a ma u1) (hb : DE X W b mb u2) : DE X W (.Compare a [.Eq] [b] pos) (mBin oEqK ma mb) (u1 + u2) := de_cmp (op_eqK cx.u64) o2_eqK ha hb (nomark _)
end
end DL
namespace DL
open PySem PySem.Spec
section
variable {prog : Program} {w : World} {A : Around} {E : Value → Shared → Prop} {z TI TO T i1 i2 : Addr} {fp1 fp2 : List Addr} {n1 n2 i : Nat} {P1 P2 : Nat → Value → Prop} {St1 St2 : Nat → Heap → Prop} {hp : Heap} {s : Shared}
theorem zipH_item {f : Bool} {oT : Obj} {Q : Value → Shared → Prop} (S : ZipSep2 z TI TO i1 i2 fp1 fp2) (D1 : Draws prog w A i1 fp1 n1 P1 St1) (D2 : Draws prog w A i2 fp2 n2 P2 St2)
    (hz : IsZipHeld s.heap z TI TO T f) (hT : s.heap.get? T = some oT) (hTI : IsTupOf2 s.heap TI (.ref i1) (.ref i2)) (st1 : St1 i s.heap) (st2 : St2 i s.heap) (hlt1 : i < n1) (hlt2 : i < n2)
    (hQ : ∀ x y h' tk, P1 i x → P2 i y → IsZipHeld h' z TI TO T true → St1 (i + 1) h' → St2 (i + 1) h' → IsTupOf2 h' s.heap.objs.size x y → h'.objs.size = s.heap.objs.size + 1 →
      (∀ c o, c ≠ z → c ≠ i1 → c ≠ i2 → s.heap.get? c = some o → h'.get? c = some o) → Q (.ref s.heap.objs.size) { s with heap := h', toks := tk }) :
    wpAny (model prog w) A (Builtin.«zip.__next__» ⟨[.ref z], []⟩) (fun fin s' => ∃ v, fin = .done (.ret v) ∧ Q v s') E s := by
  obtain ⟨h0, g, d, tk0, os⟩ := s
  show wpAny _ _ (field (.ref z) 2 >>= _) _ _ _
  refine wpAny_bind (wpAny_field hz rfl (x := .bool false) rfl ?_)
  show wpAny _ _ (field (.ref z) 3 >>= _) _ _ _
  refine wpAny_bind (wpAny_field hz rfl (x := .ref TI) rfl (wpAny_bind (wpAny_seqItems hTI rfl ?_)))
  show wpAny _ _ (Builtin.SmallTypes.ownedTupleIsFree (.ref z) >>= _) _ _ _
  refine wpAny_bind (wpAny_tupleHeld_zip hz hT fun g0 hz0 hs0 => ?_)
  replace hs0 : Heap.SameBut z h0 g0 := hs0
  simp only [Bool.false_eq_true, if_false]
  refine wpAny_bind ?_
  rw [← Array.forIn_toList]
  simp only [List.forIn_cons, List.forIn_nil]
  refine wpAny_bind (wpAny_bind (wpAny_holding ?_))
  show wpAny _ _ (Builtin.SmallTypes.nextOf (.ref i1) >>= _) _ _ ⟨g0, g, d, tk0, os⟩
  refine wpAny_bind (D1.item i _ _ _ hlt1 (D1.over st1 hs0 S.zf1) fun x p1 tk1 hx sn1 hp1 => wpAny_pure (wpAny_pure ?_))
  replace hp1 : Heap.SameBut i1 g0 p1 := hp1
  refine wpAny_bind (wpAny_bind (wpAny_holding ?_))
  show wpAny _ _ (Builtin.SmallTypes.nextOf (.ref i2) >>= _) _ _ ⟨p1, g, d, tk1, os⟩
  refine wpAny_bind (D2.item i _ _ _ hlt2 (D2.over (D2.over st2 hs0 S.zf2) hp1 S.sep1_2) fun y p2 tk2 hy sn2 hp2 => wpAny_pure (wpAny_pure (wpAny_pure ?_)))
  replace hp2 : Heap.SameBut i2 p1 p2 := hp2
  have hsz : p2.objs.size = h0.objs.size := by rw [hp2.1, hp1.1, hs0.1]
  have hzz : IsZipHeld p2 z TI TO T true := hp2.extBut _ _ S.zi2 (hp1.extBut _ _ S.zi1 hz0)
  have sn1' : St1 (i + 1) p2 := D1.over sn1 hp2 S.sep2_1
  have up : ∀ c o, p2.get? c = some o → (p2.push { cls := .type "tuple", data := .seq #[x, y] }).get? c = some o := fun c o e => Heap.get?_push_of_some _ e
  show wpAny _ _ (newTuple [x, y] >>= _) _ _ ⟨p2, g, d, tk2, os⟩
  refine wpAny_bind (wpAny_newTuple (wpAny_pure ⟨_, rfl, ?_⟩))
  have ht : IsTupOf2 (p2.push { cls := .type "tuple", data := .seq #[x, y] }) p2.objs.size x y := Heap.get?_push_size _ rfl
  have hs3 : (p2.push { cls := .type "tuple", data := .seq #[x, y] }).objs.size = p2.objs.size + 1 := Heap.size_push ..
  show Q (.ref p2.objs.size) ⟨_, g, d, tk2, os⟩
  rw [hsz] at ht hs3 ⊢
  exact hQ x y _ tk2 hx hy (up _ _ hzz) (D1.frame _ _ _ sn1' fun b _ o e => up b o e) (D2.frame _ _ _ sn2 fun b _ o e => up b o e) ht hs3 fun c o cz c1 c2 e => up _ _ (hp2.extBut _ _ c2 (hp1.extBut _ _ c1 (hs0.extBut _ _ cz e)))
theorem zipH_end {f : Bool} {oT : Obj} {Q : Fin → Shared → Prop} (S : ZipSep2 z TI TO i1 i2 fp1 fp2) (D1 : Draws prog w A i1 fp1 n1 P1 St1) (D2 : Draws prog w A i2 fp2 n2 P2 St2)
    (hz : IsZipHeld s.heap z TI TO T f) (hT : s.heap.get? T = some oT) (hTI : IsTupOf2 s.heap TI (.ref i1) (.ref i2)) (st1 : St1 i s.heap) (st2 : St2 i s.heap) (hle1 : i ≤ n1) (hle2 : i ≤ n2) (hend : i = n1 ∨ i = n2)
    (hE : ∀ h' tk e, (∀ c o, c ≠ z → c ≠ i1 → c ≠ i2 → s.heap.get? c = some o → h'.get? c = some o) → (∃ o, h'.get? e = some o ∧ o.cls = .type "StopIteration") → E (.ref e) { s with heap := h', toks := tk }) :
    wpAny (model prog w) A (Builtin.«zip.__next__» ⟨[.ref z], []⟩) Q E s := by
  obtain ⟨h0, g, d, tk0, os⟩ := s
  show wpAny _ _ (field (.ref z) 2 >>= _) _ _ _
  refine wpAny_bind (wpAny_field hz rfl (x := .bool false) rfl ?_)
  show wpAny _ _ (field (.ref z) 3 >>= _) _ _ _
  refine wpAny_bind (wpAny_field hz rfl (x := .ref TI) rfl (wpAny_bind (wpAny_seqItems hTI rfl ?_)))
  show wpAny _ _ (Builtin.SmallTypes.ownedTupleIsFree (.ref z) >>= _) _ _ _
  refine wpAny_bind (wpAny_tupleHeld_zip hz hT fun g0 hz0 hs0 => ?_)
  replace hs0 : Heap.SameBut z h0 g0 := hs0
  simp only [Bool.false_eq_true, if_false]
  refine wpAny_bind ?_
  rw [← Array.forIn_toList]
  simp only [List.forIn_cons, List.forIn_nil]
  refine wpAny_bind (wpAny_bind (wpAny_holding ?_))
  show wpAny _ _ (Builtin.SmallTypes.nextOf (.ref i1) >>= _) _ _ ⟨g0, g, d, tk0, os⟩
  by_cases c : i < n1
  · refine wpAny_bind (D1.item i _ _ _ c (D1.over st1 hs0 S.zf1) fun x p1 tk1 hx sn1 hp1 => wpAny_pure (wpAny_pure ?_))
    replace hp1 : Heap.SameBut i1 g0 p1 := hp1
    have e2 : n2 = i := by omega
    refine wpAny_bind (wpAny_bind (wpAny_holding ?_))
    show wpAny _ _ (Builtin.SmallTypes.nextOf (.ref i2) >>= _) _ _ ⟨p1, g, d, tk1, os⟩
    refine wpAny_bind (D2.done ⟨p1, g, d, tk1, os⟩ _ _ (by rw [e2]; exact D2.over (D2.over st2 hs0 S.zf2) hp1 S.sep1_2) fun q e hq he => ?_)
    exact hE q tk1 e (fun c o cz c1 c2 x => hq _ _ c2 (hp1.extBut _ _ c1 (hs0.extBut _ _ cz x))) he
  · have e1 : n1 = i := by omega
    refine wpAny_bind (D1.done ⟨g0, g, d, tk0, os⟩ _ _ (by rw [e1]; exact D1.over st1 hs0 S.zf1) fun q e hq he => ?_)
    exact hE q tk0 e (fun c o cz c1 c2 x => hq _ _ c1 (hs0.extBut _ _ cz x)) he
theorem nextH_item {f : Bool} {oT : Obj} {Q : Option Value → Shared → Prop} (S : ZipSep2 z TI TO i1 i2 fp1 fp2) (D1 : Draws prog w A.in1 i1 fp1 n1 P1 St1) (D2 : Draws prog w A.in1 i2 fp2 n2 P2 St2)
    (hz : IsZipHeld s.heap z TI TO T f) (hT : s.heap.get? T = some oT) (hTI : IsTupOf2 s.heap TI (.ref i1) (.ref i2)) (st1 : St1 i s.heap) (st2 : St2 i s.heap) (hlt1 : i < n1) (hlt2 : i < n2)
    (hQ : ∀ x y h' tk, P1 i x → P2 i y → IsZipHeld h' z TI TO T true → St1 (i + 1) h' → St2 (i + 1) h' → IsTupOf2 h' s.heap.objs.size x y → h'.objs.size = s.heap.objs.size + 1 →
      (∀ c o, c ≠ z → c ≠ i1 → c ≠ i2 → s.heap.get? c = some o → h'.get? c = some o) → Q (some (.ref s.heap.objs.size)) { s with heap := h', toks := tk }) :
    wpAny (model prog w) A (pyNext (.ref z)) Q E s := by
  have ty : s.TypeIs (.ref z) "zip" := ⟨_, hz, rfl⟩
  unfold pyNext
  exact wpAny_bind (wpAny_attempt (wpAny_callSpecial?_slot (name := Str.ofString "__next__") ty F.slot_zip_next
    (wpAny_call_entry F.slot_zip_next ty F.entry_zip_next (zipH_item S D1 D2 hz hT hTI st1 st2 hlt1 hlt2 fun x y h' tk a b c d e f2 g k => wpAny_pure (hQ x y h' tk a b c d e f2 g k)) (F.args_zip_next_1 _))))
theorem nextH_end {f : Bool} {oT : Obj} {Q : Option Value → Shared → Prop} (S : ZipSep2 z TI TO i1 i2 fp1 fp2) (D1 : Draws prog w A.in1 i1 fp1 n1 P1 St1) (D2 : Draws prog w A.in1 i2 fp2 n2 P2 St2)
    (hz : IsZipHeld s.heap z TI TO T f) (hT : s.heap.get? T = some oT) (hTI : IsTupOf2 s.heap TI (.ref i1) (.ref i2)) (st1 : St1 i s.heap) (st2 : St2 i s.heap) (hle1 : i ≤ n1) (hle2 : i ≤ n2) (hend : i = n1 ∨ i = n2)
    (hQ : ∀ h' tk, (∀ c o, c ≠ z → c ≠ i1 → c ≠ i2 → s.heap.get? c = some o → h'.get? c = some o) → Q none { s with heap := h', toks := tk }) : wpAny (model prog w) A (pyNext (.ref z)) Q E s := by
  have ty : s.TypeIs (.ref z) "zip" := ⟨_, hz, rfl⟩
  unfold pyNext
  refine wpAny_bind (wpAny_attempt (wpAny_callSpecial?_slot (name := Str.ofString "__next__") ty F.slot_zip_next
    (wpAny_call_entry F.slot_zip_next ty F.entry_zip_next (zipH_end S D1 D2 hz hT hTI st1 st2 hle1 hle2 hend fun h' tk e hk he => ?_) (F.args_zip_next_1 _))))
  obtain ⟨o, ho, hc⟩ := he
  exact wpAny_bind (wpAny_isInstance (T := "StopIteration") (b := true) ⟨o, ho, hc⟩ isSubtype_stop (wpAny_pure (hQ _ _ hk)))
structure ZSt (S0 z TI TO i1 i2 : Addr) (St1 St2 : Nat → Heap → Prop) (i : Nat) (h : Heap) : Prop where
  ti : IsTupOf2 h TI (.ref i1) (.ref i2)
  s1 : St1 i h
  s2 : St2 i h
  at_ : (IsZip h z TI TO .none ∧ ∃ a b, IsTupOf2 h TO a b) ∨ ∃ T f oT, IsZipHeld h z TI TO T f ∧ h.get? T = some oT ∧ T ≠ z ∧ T ≠ i1 ∧ T ≠ i2 ∧ T ≠ S0
theorem ZSt.item {S0 : Addr} {Q : Option Value → Shared → Prop} (S : ZipSep2 z TI TO i1 i2 fp1 fp2) (D1 : Draws prog w A.in1 i1 fp1 n1 P1 St1) (D2 : Draws prog w A.in1 i2 fp2 n2 P2 St2) (hS : S0 < s.heap.objs.size)
    (st : ZSt S0 z TI TO i1 i2 St1 St2 i s.heap) (hlt1 : i < n1) (hlt2 : i < n2)
    (hQ : ∀ x y h' tk, P1 i x → P2 i y → ZSt S0 z TI TO i1 i2 St1 St2 (i + 1) h' → IsTupOf2 h' s.heap.objs.size x y → h'.objs.size = s.heap.objs.size + 1 →
      (∀ c o, c ≠ z → c ≠ TO → c ≠ i1 → c ≠ i2 → s.heap.get? c = some o → h'.get? c = some o) → Q (some (.ref s.heap.objs.size)) { s with heap := h', toks := tk }) :
    wpAny (model prog w) A (pyNext (.ref z)) Q E s := by
  obtain ⟨hTI, st1, st2, hz⟩ := st
  obtain ⟨o1, ho1⟩ := D1.live _ _ st1
  obtain ⟨o2, ho2⟩ := D2.live _ _ st2
  have m1 : s.heap.objs.size ≠ i1 := Nat.ne_of_gt (Heap.lt_size ho1)
  have m2 : s.heap.objs.size ≠ i2 := Nat.ne_of_gt (Heap.lt_size ho2)
  have mS : s.heap.objs.size ≠ S0 := Nat.ne_of_gt hS
  rcases hz with ⟨hz, a, b, hTO⟩ | ⟨T, f, oT, hz, hT, r1, r2, r3, r4⟩
  · refine wpAny_pyNext_zipD2_item S D1 D2 hz hTI hTO st1 st2 hlt1 hlt2 fun x y h' tk p1 p2 b1 b2 d1 d2 t k kk => hQ x y h' tk p1 p2 ⟨kk _ _ S.TIz S.TITO S.TIi1 S.TIi2 hTI, d1, d2, .inr ⟨s.heap.objs.size, false, _, b1, t, Nat.ne_of_gt (Heap.lt_size hz), m1, m2, mS⟩⟩ t k kk
  · refine nextH_item S D1 D2 hz hT hTI st1 st2 hlt1 hlt2 fun x y h' tk p1 p2 b1 d1 d2 t k kk => hQ x y h' tk p1 p2 ⟨kk _ _ S.TIz S.TIi1 S.TIi2 hTI, d1, d2, .inr ⟨T, true, oT, b1, kk _ _ r1 r2 r3 hT, r1, r2, r3, r4⟩⟩ t k fun c o cz _ c1 c2 e => kk c o cz c1 c2 e
theorem ZSt.done {S0 : Addr} {Q : Option Value → Shared → Prop} (S : ZipSep2 z TI TO i1 i2 fp1 fp2) (D1 : Draws prog w A.in1 i1 fp1 n1 P1 St1) (D2 : Draws prog w A.in1 i2 fp2 n2 P2 St2)
    (st : ZSt S0 z TI TO i1 i2 St1 St2 i s.heap) (hle1 : i ≤ n1) (hle2 : i ≤ n2) (hend : i = n1 ∨ i = n2)
    (hQ : ∀ h' tk, (∀ c o, c ≠ z → c ≠ TO → c ≠ i1 → c ≠ i2 → s.heap.get? c = some o → h'.get? c = some o) → Q none { s with heap := h', toks := tk }) : wpAny (model prog w) A (pyNext (.ref z)) Q E s := by
  obtain ⟨hTI, st1, st2, hz⟩ := st
  rcases hz with ⟨hz, a, b, hTO⟩ | ⟨T, f, oT, hz, hT, r1, r2, r3, r4⟩
  · exact wpAny_pyNext_zipD2_end S D1 D2 hz hTI hTO st1 st2 hle1 hle2 hend hQ
  · exact nextH_end S D1 D2 hz hT hTI st1 st2 hle1 hle2 hend fun h' tk kk => hQ h' tk fun c o cz _ c1 c2 e => kk c o cz c1 c2 e
structure ZMade (lo : Addr) (P1 P2 : Nat → Value → Prop) (h : Heap) (as : List Addr) : Prop where
  rise : as.Pairwise (· < ·)
  above : ∀ a ∈ as, lo < a
  pairs : ∀ (j : Nat) (a : Addr), as[j]? = some a → ∃ x y, P1 j x ∧ P2 j y ∧ IsTupOf2 h a x y
theorem ZMade.there {lo : Addr} {h : Heap} {as : List Addr} (g : ZMade lo P1 P2 h as) {a : Addr} (ha : a ∈ as) : a < h.objs.size := by
  obtain ⟨j, hj⟩ := List.mem_iff_getElem?.mp ha
  obtain ⟨_, _, _, _, e⟩ := g.pairs j a hj
  exact Heap.lt_size e
end
end DL
namespace DL
open PySem PySem.Spec PyProof.Rows L2
section
variable {X : Cx} {W : WC} {u1 : Nat} {e e2 : Expr} {pos p p2 q : Pos} {mas : MA}
end
end DL
namespace DL
open PySem PySem.Spec
section
variable {prog : Program} {w : World} {A : Around} {E : Value → Shared → Prop} {z TI TO T i1 i2 : Addr} {fp1 fp2 : List Addr} {n1 n2 i : Nat} {P1 P2 : Nat → Value → Prop} {St1 St2 : Nat → Heap → Prop} {s : Shared}
abbrev ZAny (h : Heap) (z TI TO : Addr) (v : Value) (f : Bool) : Prop := h.get? z = some { cls := .type "zip", dict := none, data := .fields #[v, .bool f, .bool false, .ref TI, .ref TO], slots := #[] }
theorem gone_is {a : Addr} {Q : Option Obj → Shared → Prop} (gone : s.heap.get? a = none) (q : Q none s) : wpAny (model prog w) A (loadIfAlive a) Q E s := by
  rw [← gone] at q
  exact fun _ _ _ => q
theorem dead_free {f : Bool} {Q : Bool → Shared → Prop} (hz : ZAny s.heap z TI TO (rawInt T) f) (hT : s.heap.get? T = none) (h : Q true s) : wpAny (model prog w) A (Builtin.SmallTypes.ownedTupleIsFree (.ref z)) Q E s := by
  unfold Builtin.SmallTypes.ownedTupleIsFree
  refine wpAny_bind (wpAny_field hz rfl (x := rawInt T) rfl ?_)
  show wpAny _ _ (loadIfAlive ((T : Int).toNat) >>= _) _ _ _
  rw [Int.toNat_natCast]
  exact wpAny_bind (gone_is hT (wpAny_pure h))
theorem zipX_item {f : Bool} {a1 a2 : Value} {Q : Value → Shared → Prop} (S : ZipSep2 z TI TO i1 i2 fp1 fp2) (D1 : Draws prog w A i1 fp1 n1 P1 St1) (D2 : Draws prog w A i2 fp2 n2 P2 St2)
    (hz : ZAny s.heap z TI TO (rawInt T) f) (hT : s.heap.get? T = none) (hTI : IsTupOf2 s.heap TI (.ref i1) (.ref i2)) (hTO : IsTupOf2 s.heap TO a1 a2) (st1 : St1 i s.heap) (st2 : St2 i s.heap) (hlt1 : i < n1) (hlt2 : i < n2)
    (hQ : ∀ x y h' tk, P1 i x → P2 i y → ZAny h' z TI TO (rawInt s.heap.objs.size) false → IsTupOf2 h' TO x y → St1 (i + 1) h' → St2 (i + 1) h' → IsTupOf2 h' s.heap.objs.size x y → h'.objs.size = s.heap.objs.size + 1 →
      (∀ c o, c ≠ z → c ≠ TO → c ≠ i1 → c ≠ i2 → s.heap.get? c = some o → h'.get? c = some o) → Q (.ref s.heap.objs.size) { s with heap := h', toks := tk }) :
    wpAny (model prog w) A (Builtin.«zip.__next__» ⟨[.ref z], []⟩) (fun fin s' => ∃ v, fin = .done (.ret v) ∧ Q v s') E s := by
  obtain ⟨H, g, d, tk0, os⟩ := s
  show wpAny _ _ (field (.ref z) 2 >>= _) _ _ _
  refine wpAny_bind (wpAny_field hz rfl (x := .bool false) rfl ?_)
  show wpAny _ _ (field (.ref z) 3 >>= _) _ _ _
  refine wpAny_bind (wpAny_field hz rfl (x := .ref TI) rfl (wpAny_bind (wpAny_seqItems hTI rfl ?_)))
  show wpAny _ _ (Builtin.SmallTypes.ownedTupleIsFree (.ref z) >>= _) _ _ _
  refine wpAny_bind (dead_free hz hT ?_)
  simp only [if_true]
  refine wpAny_bind (wpAny_rule (wpAny_bind (wpAny_field hz rfl (x := .ref TO) rfl (wpAny_bind (wpAny_setField_rec hz (by simp) fun g0 (hz0 : ZAny g0 z TI TO .ellipsis f) (hs0 : Heap.SameBut z H g0) => wpAny_bind ?_)))))
  simp only [List.zipIdx_cons, List.zipIdx_nil, List.forIn_cons, List.forIn_nil]
  refine wpAny_bind (wpAny_bind (wpAny_onRaise ?_))
  show wpAny _ _ (Builtin.SmallTypes.nextOf (.ref i1) >>= _) _ _ ⟨g0, g, d, tk0, os⟩
  refine wpAny_bind (D1.item i _ _ _ hlt1 (D1.over st1 hs0 S.zf1) fun x p1 tk1 hx sn1 (hp1 : Heap.SameBut i1 g0 p1) => wpAny_pure ?_)
  have u1 : IsTupOf2 p1 TO a1 a2 := hp1.extBut _ _ S.Ti1 (hs0.extBut _ _ S.TOz hTO)
  refine wpAny_bind (wpAny_seqItems (s := ⟨p1, g, d, tk1, os⟩) u1 rfl (wpAny_bind (updateSeq_IsTupOf2 (s := ⟨p1, g, d, tk1, os⟩) u1 fun g1 (v1 : IsTupOf2 g1 TO x a2) (hs1 : Heap.SameBut TO p1 g1) => wpAny_bind (wpAny_letGo (wpAny_pure (wpAny_bind (wpAny_bind (wpAny_onRaise ?_))))))))
  show wpAny _ _ (Builtin.SmallTypes.nextOf (.ref i2) >>= _) _ _ ⟨g1, g, d, tk1, os⟩
  refine wpAny_bind (D2.item i _ _ _ hlt2 (D2.over (D2.over (D2.over st2 hs0 S.zf2) hp1 S.sep1_2) hs1 S.Tf2) fun y p2 tk2 hy sn2 (hp2 : Heap.SameBut i2 g1 p2) => wpAny_pure ?_)
  have u2 : IsTupOf2 p2 TO x a2 := hp2.extBut _ _ S.Ti2 v1
  refine wpAny_bind (wpAny_seqItems (s := ⟨p2, g, d, tk2, os⟩) u2 rfl (wpAny_bind (updateSeq_IsTupOf2 (s := ⟨p2, g, d, tk2, os⟩) u2 fun g2 (v2 : IsTupOf2 g2 TO x y) (hs2 : Heap.SameBut TO p2 g2) => wpAny_bind (wpAny_letGo (wpAny_pure (wpAny_pure (wpAny_bind (wpAny_seqItems (s := ⟨g2, g, d, tk2, os⟩) v2 rfl (wpAny_bind (wpAny_newTuple ?_))))))))))
  have sz : g2.objs.size = H.objs.size := by rw [hs2.1, hp2.1, hs1.1, hp1.1, hs0.1]
  have zz : ZAny g2 z TI TO .ellipsis f := hs2.extBut _ _ S.TOz.symm (hp2.extBut _ _ S.zi2 (hs1.extBut _ _ S.TOz.symm (hp1.extBut _ _ S.zi1 hz0)))
  have kk : ∀ c o, c ≠ z → c ≠ TO → c ≠ i1 → c ≠ i2 → H.get? c = some o → g2.get? c = some o := fun c o cz cT c1 c2 e => hs2.extBut _ _ cT (hp2.extBut _ _ c2 (hs1.extBut _ _ cT (hp1.extBut _ _ c1 (hs0.extBut _ _ cz e))))
  have j1 : St1 (i + 1) g2 := D1.over (D1.over (D1.over sn1 hs1 S.Tf1) hp2 S.sep2_1) hs2 S.Tf1
  have j2 : St2 (i + 1) g2 := D2.over sn2 hs2 S.Tf2
  have zl : z < g2.objs.size := Heap.lt_size zz
  show wpAny _ _ (Builtin.SmallTypes.ownedTupleHandOut (.ref z) (.ref g2.objs.size) >>= _) _ _ ⟨g2.push { cls := .type "tuple", data := .seq #[x, y] }, g, d, tk2, os⟩
  unfold Builtin.SmallTypes.ownedTupleHandOut
  have z6 : ZAny (g2.push { cls := .type "tuple", data := .seq #[x, y] }) z TI TO .ellipsis f := Heap.get?_push_of_some _ zz
  refine wpAny_bind (wpAny_bind (wpAny_setField_rec z6 (by simp) fun g3 (z7 : ZAny g3 z TI TO (rawInt g2.objs.size) f) (hs3 : Heap.SameBut z (g2.push { cls := .type "tuple", data := .seq #[x, y] }) g3) => wpAny_setField_rec z7 (by simp) fun g4 (z8 : ZAny g4 z TI TO (rawInt g2.objs.size) false) (hs4 : Heap.SameBut z g3 g4) => ?_))
  have up : ∀ c o, c ≠ z → g2.get? c = some o → g4.get? c = some o := fun c o c1 e => hs4.extBut _ _ c1 (hs3.extBut _ _ c1 (Heap.get?_push_of_some _ e))
  have t8 : IsTupOf2 g4 g2.objs.size x y := hs4.extBut _ _ (Nat.ne_of_gt zl) (hs3.extBut _ _ (Nat.ne_of_gt zl) (Heap.get?_push_size _ rfl))
  have s8 : g4.objs.size = g2.objs.size + 1 := by rw [hs4.1, hs3.1, Heap.size_push]
  refine wpAny_pure ⟨_, rfl, ?_⟩
  show Q (.ref g2.objs.size) ⟨g4, g, d, tk2, os⟩
  rw [sz] at z8 t8 s8 ⊢
  exact hQ x y g4 tk2 hx hy z8 (up _ _ S.TOz v2) (D1.frame _ _ _ j1 fun b hb o e => up b o (fun q => S.zf1 (q ▸ hb)) e) (D2.frame _ _ _ j2 fun b hb o e => up b o (fun q => S.zf2 (q ▸ hb)) e) t8 s8 fun c o cz cT c1 c2 e => up c o cz (kk c o cz cT c1 c2 e)
theorem zipX_end {f : Bool} {a1 a2 : Value} {Q : Fin → Shared → Prop} (S : ZipSep2 z TI TO i1 i2 fp1 fp2) (D1 : Draws prog w A i1 fp1 n1 P1 St1) (D2 : Draws prog w A i2 fp2 n2 P2 St2)
    (hz : ZAny s.heap z TI TO (rawInt T) f) (hT : s.heap.get? T = none) (hTI : IsTupOf2 s.heap TI (.ref i1) (.ref i2)) (hTO : IsTupOf2 s.heap TO a1 a2) (st1 : St1 i s.heap) (st2 : St2 i s.heap) (hle1 : i ≤ n1) (hle2 : i ≤ n2) (hend : i = n1 ∨ i = n2)
    (hE : ∀ h' tk e, (∀ c o, c ≠ z → c ≠ TO → c ≠ i1 → c ≠ i2 → s.heap.get? c = some o → h'.get? c = some o) → (∃ o, h'.get? e = some o ∧ o.cls = .type "StopIteration") → E (.ref e) { s with heap := h', toks := tk }) :
    wpAny (model prog w) A (Builtin.«zip.__next__» ⟨[.ref z], []⟩) Q E s := by
  obtain ⟨H, g, d, tk0, os⟩ := s
  show wpAny _ _ (field (.ref z) 2 >>= _) _ _ _
  refine wpAny_bind (wpAny_field hz rfl (x := .bool false) rfl ?_)
  show wpAny _ _ (field (.ref z) 3 >>= _) _ _ _
  refine wpAny_bind (wpAny_field hz rfl (x := .ref TI) rfl (wpAny_bind (wpAny_seqItems hTI rfl ?_)))
  show wpAny _ _ (Builtin.SmallTypes.ownedTupleIsFree (.ref z) >>= _) _ _ _
  refine wpAny_bind (dead_free hz hT ?_)
  simp only [if_true]
  refine wpAny_bind (wpAny_rule (wpAny_bind (wpAny_field hz rfl (x := .ref TO) rfl (wpAny_bind (wpAny_setField_rec hz (by simp) fun g0 (hz0 : ZAny g0 z TI TO .ellipsis f) (hs0 : Heap.SameBut z H g0) => wpAny_bind ?_)))))
  simp only [List.zipIdx_cons, List.zipIdx_nil, List.forIn_cons, List.forIn_nil]
  refine wpAny_bind (wpAny_bind (wpAny_onRaise ?_))
  show wpAny _ _ (Builtin.SmallTypes.nextOf (.ref i1) >>= _) _ _ ⟨g0, g, d, tk0, os⟩
  have fin : ∀ q tk e, Heap.ExtBut z q q → ZAny q z TI TO .ellipsis f → (∀ c o, c ≠ z → c ≠ TO → c ≠ i1 → c ≠ i2 → H.get? c = some o → q.get? c = some o) → (∃ o, q.get? e = some o ∧ o.cls = .type "StopIteration") → wpAny (model prog w) A (setField (.ref z) 0 .none) (fun _ s' => E (.ref e) s') E ⟨q, g, d, tk, os⟩ := fun q tk e _ hzq hk he => by
    obtain ⟨oe, hoe, hce⟩ := he
    have ez : e ≠ z := fun x => by subst x; rw [hzq] at hoe; cases hoe; simp at hce
    refine wpAny_setField_rec (s := ⟨q, g, d, tk, os⟩) hzq (by simp) fun q' _ (hq' : Heap.SameBut z q q') => ?_
    exact hE q' tk e (fun c o cz cT c1 c2 x => hq'.extBut _ _ cz (hk c o cz cT c1 c2 x)) ⟨oe, hq'.extBut _ _ ez hoe, hce⟩
  by_cases c : i < n1
  · refine wpAny_bind (D1.item i _ _ _ c (D1.over st1 hs0 S.zf1) fun x p1 tk1 hx sn1 (hp1 : Heap.SameBut i1 g0 p1) => wpAny_pure ?_)
    have u1 : IsTupOf2 p1 TO a1 a2 := hp1.extBut _ _ S.Ti1 (hs0.extBut _ _ S.TOz hTO)
    have e2 : n2 = i := by omega
    refine wpAny_bind (wpAny_seqItems (s := ⟨p1, g, d, tk1, os⟩) u1 rfl (wpAny_bind (updateSeq_IsTupOf2 (s := ⟨p1, g, d, tk1, os⟩) u1 fun g1 (v1 : IsTupOf2 g1 TO x a2) (hs1 : Heap.SameBut TO p1 g1) => wpAny_bind (wpAny_letGo (wpAny_pure (wpAny_bind (wpAny_bind (wpAny_onRaise ?_))))))))
    show wpAny _ _ (Builtin.SmallTypes.nextOf (.ref i2) >>= _) _ _ ⟨g1, g, d, tk1, os⟩
    refine wpAny_bind (D2.done ⟨g1, g, d, tk1, os⟩ _ _ (by rw [e2]; exact D2.over (D2.over (D2.over st2 hs0 S.zf2) hp1 S.sep1_2) hs1 S.Tf2) fun q e (hq : Heap.ExtBut i2 g1 q) he => ?_)
    exact fin q tk1 e (fun _ _ _ x => x) (hq _ _ S.zi2 (hs1.extBut _ _ S.TOz.symm (hp1.extBut _ _ S.zi1 hz0))) (fun c o cz cT c1 c2 x => hq _ _ c2 (hs1.extBut _ _ cT (hp1.extBut _ _ c1 (hs0.extBut _ _ cz x)))) he
  · have e1 : n1 = i := by omega
    refine wpAny_bind (D1.done ⟨g0, g, d, tk0, os⟩ _ _ (by rw [e1]; exact D1.over st1 hs0 S.zf1) fun q e (hq : Heap.ExtBut i1 g0 q) he => ?_)
    exact fin q tk0 e (fun _ _ _ x => x) (hq _ _ S.zi1 hz0) (fun c o cz _ c1 _ x => hq _ _ c1 (hs0.extBut _ _ cz x)) he
theorem nextX_item {f : Bool} {a1 a2 : Value} {Q : Option Value → Shared → Prop} (S : ZipSep2 z TI TO i1 i2 fp1 fp2) (D1 : Draws prog w A.in1 i1 fp1 n1 P1 St1) (D2 : Draws prog w A.in1 i2 fp2 n2 P2 St2)
    (hz : ZAny s.heap z TI TO (rawInt T) f) (hT : s.heap.get? T = none) (hTI : IsTupOf2 s.heap TI (.ref i1) (.ref i2)) (hTO : IsTupOf2 s.heap TO a1 a2) (st1 : St1 i s.heap) (st2 : St2 i s.heap) (hlt1 : i < n1) (hlt2 : i < n2)
    (hQ : ∀ x y h' tk, P1 i x → P2 i y → ZAny h' z TI TO (rawInt s.heap.objs.size) false → IsTupOf2 h' TO x y → St1 (i + 1) h' → St2 (i + 1) h' → IsTupOf2 h' s.heap.objs.size x y → h'.objs.size = s.heap.objs.size + 1 →
      (∀ c o, c ≠ z → c ≠ TO → c ≠ i1 → c ≠ i2 → s.heap.get? c = some o → h'.get? c = some o) → Q (some (.ref s.heap.objs.size)) { s with heap := h', toks := tk }) :
    wpAny (model prog w) A (pyNext (.ref z)) Q E s := by
  have ty : s.TypeIs (.ref z) "zip" := ⟨_, hz, rfl⟩
  unfold pyNext
  exact wpAny_bind (wpAny_attempt (wpAny_callSpecial?_slot (name := Str.ofString "__next__") ty F.slot_zip_next (wpAny_call_entry F.slot_zip_next ty F.entry_zip_next
    (zipX_item S D1 D2 hz hT hTI hTO st1 st2 hlt1 hlt2 fun x y h' tk a b c d e f2 g k l => wpAny_pure (hQ x y h' tk a b c d e f2 g k l)) (F.args_zip_next_1 _))))
theorem nextX_end {f : Bool} {a1 a2 : Value} {Q : Option Value → Shared → Prop} (S : ZipSep2 z TI TO i1 i2 fp1 fp2) (D1 : Draws prog w A.in1 i1 fp1 n1 P1 St1) (D2 : Draws prog w A.in1 i2 fp2 n2 P2 St2)
    (hz : ZAny s.heap z TI TO (rawInt T) f) (hT : s.heap.get? T = none) (hTI : IsTupOf2 s.heap TI (.ref i1) (.ref i2)) (hTO : IsTupOf2 s.heap TO a1 a2) (st1 : St1 i s.heap) (st2 : St2 i s.heap) (hle1 : i ≤ n1) (hle2 : i ≤ n2) (hend : i = n1 ∨ i = n2)
    (hQ : ∀ h' tk, (∀ c o, c ≠ z → c ≠ TO → c ≠ i1 → c ≠ i2 → s.heap.get? c = some o → h'.get? c = some o) → Q none { s with heap := h', toks := tk }) : wpAny (model prog w) A (pyNext (.ref z)) Q E s := by
  have ty : s.TypeIs (.ref z) "zip" := ⟨_, hz, rfl⟩
  unfold pyNext
  refine wpAny_bind (wpAny_attempt (wpAny_callSpecial?_slot (name := Str.ofString "__next__") ty F.slot_zip_next (wpAny_call_entry F.slot_zip_next ty F.entry_zip_next
    (zipX_end S D1 D2 hz hT hTI hTO st1 st2 hle1 hle2 hend fun h' tk e hk he => ?_) (F.args_zip_next_1 _))))
  obtain ⟨o, ho, hc⟩ := he
  exact wpAny_bind (wpAny_isInstance (T := "StopIteration") (b := true) ⟨o, ho, hc⟩ isSubtype_stop (wpAny_pure (hQ _ _ hk)))
def ZKept (h : Heap) (z TI TO : Addr) : Prop := ∃ v f, ZAny h z TI TO v f ∧ ((v = .none ∧ f = false) ∨ ∃ T : Addr, v = rawInt T)
theorem ZKept.item {a1 a2 : Value} {Q : Option Value → Shared → Prop} (S : ZipSep2 z TI TO i1 i2 fp1 fp2) (D1 : Draws prog w A.in1 i1 fp1 n1 P1 St1) (D2 : Draws prog w A.in1 i2 fp2 n2 P2 St2)
    (hz : ZKept s.heap z TI TO) (hTI : IsTupOf2 s.heap TI (.ref i1) (.ref i2)) (hTO : IsTupOf2 s.heap TO a1 a2) (st1 : St1 i s.heap) (st2 : St2 i s.heap) (hlt1 : i < n1) (hlt2 : i < n2)
    (hQ : ∀ x y h' tk, P1 i x → P2 i y → ZKept h' z TI TO → (∃ b1 b2, IsTupOf2 h' TO b1 b2) → St1 (i + 1) h' → St2 (i + 1) h' → IsTupOf2 h' s.heap.objs.size x y → h'.objs.size = s.heap.objs.size + 1 →
      (∀ c o, c ≠ z → c ≠ TO → c ≠ i1 → c ≠ i2 → s.heap.get? c = some o → h'.get? c = some o) → Q (some (.ref s.heap.objs.size)) { s with heap := h', toks := tk }) :
    wpAny (model prog w) A (pyNext (.ref z)) Q E s := by
  obtain ⟨v, f, hz, ⟨rfl, rfl⟩ | ⟨T, rfl⟩⟩ := hz
  · exact wpAny_pyNext_zipD2_item S D1 D2 hz hTI hTO st1 st2 hlt1 hlt2 fun x y h' tk p1 p2 b1 b2 d1 d2 t k kk => hQ x y h' tk p1 p2 ⟨_, _, b1, .inr ⟨_, rfl⟩⟩ ⟨_, _, b2⟩ d1 d2 t k kk
  · cases hT : s.heap.get? T with
    | none => exact nextX_item S D1 D2 hz hT hTI hTO st1 st2 hlt1 hlt2 fun x y h' tk p1 p2 b1 b2 d1 d2 t k kk => hQ x y h' tk p1 p2 ⟨_, _, b1, .inr ⟨_, rfl⟩⟩ ⟨_, _, b2⟩ d1 d2 t k kk
    | some oT => exact nextH_item S D1 D2 hz hT hTI st1 st2 hlt1 hlt2 fun x y h' tk p1 p2 b1 d1 d2 t k kk => hQ x y h' tk p1 p2 ⟨_, _, b1, .inr ⟨_, rfl⟩⟩ ⟨_, _, kk _ _ S.TOz S.Ti1 S.Ti2 hTO⟩ d1 d2 t k fun c o cz _ c1 c2 e => kk c o cz c1 c2 e
theorem ZKept.done {a1 a2 : Value} {Q : Option Value → Shared → Prop} (S : ZipSep2 z TI TO i1 i2 fp1 fp2) (D1 : Draws prog w A.in1 i1 fp1 n1 P1 St1) (D2 : Draws prog w A.in1 i2 fp2 n2 P2 St2)
    (hz : ZKept s.heap z TI TO) (hTI : IsTupOf2 s.heap TI (.ref i1) (.ref i2)) (hTO : IsTupOf2 s.heap TO a1 a2) (st1 : St1 i s.heap) (st2 : St2 i s.heap) (hle1 : i ≤ n1) (hle2 : i ≤ n2) (hend : i = n1 ∨ i = n2)
    (hQ : ∀ h' tk, (∀ c o, c ≠ z → c ≠ TO → c ≠ i1 → c ≠ i2 → s.heap.get? c = some o → h'.get? c = some o) → Q none { s with heap := h', toks := tk }) : wpAny (model prog w) A (pyNext (.ref z)) Q E s := by
  obtain ⟨v, f, hz, ⟨rfl, rfl⟩ | ⟨T, rfl⟩⟩ := hz
  · exact wpAny_pyNext_zipD2_end S D1 D2 hz hTI hTO st1 st2 hle1 hle2 hend hQ
  · cases hT : s.heap.get? T with
    | none => exact nextX_end S D1 D2 hz hT hTI hTO st1 st2 hle1 hle2 hend hQ
    | some oT => exact nextH_end S D1 D2 hz hT hTI st1 st2 hle1 hle2 hend fun h' tk kk => hQ h' tk fun c o cz _ c1 c2 e => kk c o cz c1 c2 e
end
open L2 PySem.Spec PyProof.Rows
structure ZTn (a b m n : Nat) (i : Nat) (h : Heap) : Prop where
  le : i ≤ m
  z : ZKept h (n + 4) (n + 2) (n + 3)
  ti : IsTupOf2 h (n + 2) (.ref n) (.ref (n + 1))
  to_ : ∃ x y, IsTupOf2 h (n + 3) x y
  l1 : h.IsListIter n a i
  l2 : h.IsListIter (n + 1) b i
section
variable {X : Cx} {W : WC} {u : Nat} {e e2 : Expr} {mas : MA} {x0 : Str} {tpos p pos : Pos}
end
end DL
namespace DL
open PySem PySem.Spec L2
def kvD (fs : List (Str × PyData)) : List (PyData × PyData) := fs.map fun p => (.str p.1, p.2)
def objD (nm : Str) (fs : List (Str × PyData)) : PyData := .dict ((objK, .str nm) :: kvD fs)
def getF (f : Str) : List (PyData × PyData) → Option PyData
  | [] => none
  | (.str g, d) :: r => if g = f then some d else getF f r
  | _ :: r => getF f r
def oFld (f : Str) : D1 := fun x R => match x with
  | .d (.dict ((.tuple [.int _], .str _) :: ks)) => match getF f ks with
    | some d => R (.d d)
    | none => False
  | _ => False
section
variable {X : Cx} {W : WC} {e : Expr} {es : List Expr} {pos p apos : Pos} {m : ME} {mas : MA} {u u1 u2 : Nat} {x f : Str}
end
def spMk (K : PySem.W.Frag) (C : Addr) (n : Nat) (mk : List PyData → Option (List (Str × PyData))) : Sp := fun vs H Q _ => vs.length = n + 1 ∧ ∃ (F : Hp) (x dx : Addr) (us : List V) (ds : List PyData) (fs : List (Str × PyData)), vs = .ref x :: us ∧ Same F H ∧ F x = none ∧ H x = some (.ins C dx []) ∧ AtL K F us ds ∧ mk ds = some fs ∧
  ∀ gs : List (Str × V), AtKv K F (fKv gs) (kvD fs) → gs.map (·.1) = fs.map (·.1) → Q .non (upd H x (.ins C dx gs))
structure DMk (P : Program) (w : World) (K : PySem.W.Frag) (mg : Str → Option Value) (base : Heap) (nm : Str) (lv n : Nat) (mk : List PyData → Option (List (Str × PyData))) : Prop where
  ex : ∃ C fI fd ps, mg nm = some (.ref C) ∧ Mk K C fI ∧ ObjC K nm C ∧ FnOk P w K mg base L2.CX0 lv fI fd ps (spMk K C n mk) ∧ Binds K fd ps [] ∧ ps.length = n + 1 ∧ ∀ ds fs, mk ds = some fs → ∀ p ∈ fs, NoAttr K C p.1
section
variable {X : Cx} {W : WC} {e : Expr} {es : List Expr} {pos p apos : Pos} {mas : MA} {u : Nat} {nm : Str} {lv j n : Nat} {mk : List PyData → Option (List (Str × PyData))}
end
structure DMt (P : Program) (w : World) (K : PySem.W.Frag) (mg : Str → Option Value) (base : Heap) (CK : CKT) (nm m : Str) (lv u n : Nat) (mf : MF) : Prop where
  ex : ∃ C f fd ps, ObjC K nm C ∧ Meth K C m f ∧ Binds K fd ps [] ∧ ps.length = n ∧ FnG P w K mg base lv f fd ps (spD K mg CK u n mf)
def isMt (nm m : Str) (x : DV) : Prop := match x with
  | .d (.dict ((.tuple [.int _], .str c) :: ks)) => c = nm ∧ getF m ks = none
  | _ => False
section
variable {X : Cx} {W : WC} {o e : Expr} {es : List Expr} {pos p apos : Pos} {me : ME} {mas : MA} {u1 u2 u3 : Nat} {nm m : Str} {lv j n : Nat} {mf : MF}
end
section
variable {P : Program} {w : World} {K : PySem.W.Frag} {mg : Str → Option Value} {base : Heap}
end
end DL
namespace DL
open PySem PySem.Spec PyProof.Rows L2
structure Z3Tn (a b c m n : Nat) (i : Nat) (h : Heap) : Prop where
  le : i ≤ m
  z : IsZip h (n + 5) (n + 3) (n + 4) .none
  ti : IsTupOf3 h (n + 3) (.ref n) (.ref (n + 1)) (.ref (n + 2))
  to_ : ∃ x y z, IsTupOf3 h (n + 4) x y z
  l1 : h.IsTupleIter n a i
  l2 : h.IsTupleIter (n + 1) b i
  l3 : h.IsTupleIter (n + 2) c i
section
variable {X : Cx} {W : WC} {u : Nat} {e e2 e3 : Expr} {mas : MA} {elts : List Expr} {kk : Nat} {tpos p pos : Pos}
end
end DL
namespace DL
open PySem PySem.Spec L2
section
variable {X : Cx} {W : WC} {a b : Expr} {pos : Pos} {ma mb : ME} {u1 u2 : Nat}
end
end DL
namespace DL
open PySem PySem.Spec L2 PySem.W
section
open AutoSeq1 (wpAny_loadPart')
open MeetsSeq SeqAt
variable {A : Around} {s : Shared}
end
section
variable {X : Cx} {W : WC} {u1 u2 : Nat} {a b : Expr} {pos : Pos} {ma mb : ME}
end
end DL
namespace DL
open PySem PySem.Spec L2 PySem.W PyProof.Rows
section
variable {prog : Program} {w : World} {A : Around} {E : Value → Shared → Prop} {s : Shared} {a : Addr} {vs : List Value} {ns : List Int} {Q : Value → Shared → Prop}
end
section
variable {X : Cx} {W : WC} {e : Expr} {mas : MA} {u : Nat} {p pos : Pos}
end
section
variable {xs : List PyData} {R : DV → Prop}
end
end DL
namespace DL
open PySem PySem.Spec L2 PySem.W PyProof.Rows
section
variable {X : Cx} {W : WC} {u1 u2 : Nat} {a b : Expr} {pos : Pos} {ma mb : ME}
end
end DL
namespace DL
open PySem PySem.Spec L2 PySem.W
structure SrtOk (ds : List PyData) : Prop where
  t : ∀ d ∈ ds, ∃ x r, d = .tuple (x :: r)
  a : ∀ d ∈ ds, ∀ e ∈ ds, alike d e = true
  n : ∀ d ∈ ds, d.hasDict = false
  z : ∀ d ∈ ds, d.depth ≤ 20
def encX (d : PyData) : PyData := d
def sortX (ds : List PyData) : List PyData := ds.mergeSort (dataLe false encX)
theorem map_encX (ds : List PyData) : ds.map encX = ds := List.map_id _
theorem each_inX {K : Frag} {F : Hp} : ∀ {xs : List V} {us : List Value} {ds : List PyData}, Vals xs us → AtL K F xs ds → EachIs (fun v b => (∃ x, RelV x v ∧ At K F x b) ∧ b ∈ ds) us ds
  | [], _, _, r, h => by
    cases r
    cases h
    exact .nil
  | x :: xs, _, _, r, h => by
    cases r with
    | cons r1 r2 =>
      cases h with
      | cons h1 h2 => exact .cons ⟨⟨x, r1, h1⟩, List.mem_cons_self⟩ ((each_inX r2 h2).mono fun v b q => ⟨q.1, List.mem_cons_of_mem _ q.2⟩)
theorem each_outX {K : Frag} {F : Hp} {P : PyData → Prop} : ∀ {us : List Value} {ds : List PyData}, EachIs (fun v b => (∃ x, RelV x v ∧ At K F x b) ∧ P b) us ds → ∃ ys, Vals ys us ∧ AtL K F ys ds
  | _, _, .nil => ⟨[], .nil, .nil⟩
  | _, _, .cons ⟨⟨x, r, h⟩, _⟩ t => by
    obtain ⟨ys, r2, h2⟩ := each_outX t
    exact ⟨x :: ys, .cons r r2, .cons h h2⟩
section
variable {X : Cx} {W : WC} {e : Expr} {mas : MA} {u : Nat} {p pos : Pos}
end
end DL
namespace DL
open PySem PySem.Spec L2 PySem.W
section
variable {X : Cx} {W : WC} {e : Expr} {mas : MA} {u : Nat} {p pos : Pos}
end
end DL
namespace DL
open PySem PySem.Spec L2 PySem.W
section
variable {X : Cx} {W : WC} {u1 u2 : Nat} {es : List Expr} {e : Expr} {x1 : _} {tp ap cp : Pos} {mt mas : MA} {name : Str} {id : String} {r : V → List V → Hp → VK → Prop} {t ta : TA}
end
end DL
namespace DL
open PySem PySem.Spec PyProof.Rows L2
def lkT (ks : List (List Key × PyData)) (k : List Key) : Option PyData := match ks with
  | [] => none
  | (k', d) :: r => if k' = k then some d else lkT r k
def putT (ks : List (List Key × PyData)) (k : List Key) (d : PyData) : List (List Key × PyData) :=
  if (lkT ks k).isSome = true then ks.map (fun p => if p.1 = k then (p.1, d) else p) else ks ++ [(k, d)]
def mergeT (ks more : List (List Key × PyData)) : List (List Key × PyData) := more.foldl (fun acc p => putT acc p.1 p.2) ks
def mergeV (ks more : List (List Key × V)) : List (List Key × V) := more.foldl (fun acc p => putK acc p.1 p.2) ks
def keyL : List PyData → Option (List Key)
  | [] => some []
  | .int i :: r => (keyL r).map (.inl i :: ·)
  | .str x :: r => (keyL r).map (.inr x :: ·)
  | _ => none
section
variable {K : PySem.W.Frag} {F : Hp}
theorem AtKt.lk : ∀ {kvs : List (List Key × V)} {ks : List (List Key × PyData)} (k : List Key), AtKt K F kvs ks → (lkT ks k = none ∧ valV kvs k = none) ∨ ∃ v d, lkT ks k = some d ∧ valV kvs k = some v ∧ At K F v d
  | _, _, k, .nil => .inl ⟨rfl, rfl⟩
  | _, _, k, .cons (k := k') (v := v) (d := d) h t => by
    unfold lkT
    by_cases e : k' = k
    · rw [if_pos e, valV_pos (p := (k', v)) e]
      exact .inr ⟨v, d, rfl, rfl, h⟩
    · rw [if_neg e, valV_neg (p := (k', v)) e]
      exact AtKt.lk k t
theorem AtKt.length : ∀ {kvs : List (List Key × V)} {ks : List (List Key × PyData)}, AtKt K F kvs ks → kvs.length = ks.length
  | _, _, .nil => rfl
  | _, _, .cons _ t => by rw [List.length_cons, List.length_cons, AtKt.length t]
theorem AtKt.repl {v : V} {d : PyData} (h : At K F v d) (k : List Key) : ∀ {kvs : List (List Key × V)} {ks : List (List Key × PyData)}, AtKt K F kvs ks → AtKt K F (kvs.map fun kv => if kv.1 = k then (kv.1, v) else kv) (ks.map fun p => if p.1 = k then (p.1, d) else p)
  | _, _, .nil => .nil
  | _, _, .cons (k := k') (v := v') (d := d') h' t => by
    rw [List.map_cons, List.map_cons]
    by_cases e : k' = k
    · rw [if_pos e, if_pos e]
      exact .cons h (AtKt.repl h k t)
    · rw [if_neg e, if_neg e]
      exact .cons h' (AtKt.repl h k t)
theorem AtKt.snoc {v : V} {d : PyData} (h : At K F v d) (k : List Key) : ∀ {kvs : List (List Key × V)} {ks : List (List Key × PyData)}, AtKt K F kvs ks → AtKt K F (kvs ++ [(k, v)]) (ks ++ [(k, d)])
  | _, _, .nil => .cons h .nil
  | _, _, .cons h' t => .cons h' (AtKt.snoc h k t)
theorem AtKt.put {v : V} {d : PyData} (h : At K F v d) (k : List Key) {kvs : List (List Key × V)} {ks : List (List Key × PyData)} (a : AtKt K F kvs ks) : AtKt K F (putK kvs k v) (putT ks k d) := by
  unfold putK putT
  rw [valV_any]
  rcases AtKt.lk k a with ⟨e1, e2⟩ | ⟨v', d', e1, e2, _⟩
  · rw [e1, e2, if_neg (by simp), if_neg (by simp)]
    exact AtKt.snoc h k a
  · rw [e1, e2, if_pos (by simp), if_pos (by simp)]
    exact AtKt.repl h k a
theorem AtKt.merge : ∀ {mv : List (List Key × V)} {md : List (List Key × PyData)} {kvs : List (List Key × V)} {ks : List (List Key × PyData)}, AtKt K F mv md → AtKt K F kvs ks → AtKt K F (mergeV kvs mv) (mergeT ks md)
  | _, _, _, _, .nil, h => h
  | (k, v) :: mv, (_, d) :: md, kvs, ks, .cons h' t, h => by
    show AtKt K F (mergeV (putK kvs k v) mv) (mergeT (putT ks k d) md)
    exact AtKt.merge t (AtKt.put h' k h)
theorem key_at : ∀ {vs : List V} {ds : List PyData} {k : List Key}, AtL K F vs ds → keyL ds = some k → vs = k.map kV
  | [], _, k, .nil, e => by cases e; rfl
  | v :: vs, d :: ds, k, .cons h t, e => by
    cases d with
    | int i =>
      cases h
      unfold keyL at e
      obtain ⟨k', e1, rfl⟩ := Option.map_eq_some_iff.mp e
      rw [List.map_cons, ← key_at t e1]
      rfl
    | str x =>
      cases h
      unfold keyL at e
      obtain ⟨k', e1, rfl⟩ := Option.map_eq_some_iff.mp e
      rw [List.map_cons, ← key_at t e1]
      rfl
    | _ => cases e
end
def DV.dct : DV → Option (Addr × List (List Key × PyData))
  | .odt a ks => some (a, ks)
  | .bdt a ks => some (a, ks)
  | _ => none
section
variable {X : Cx}
end
section
variable {u u1 u2 u3 : Nat} {X : Cx} {W : WC} {a b c e : Expr} {es : List Expr} {pos p p1 p2 : Pos} {ma mb me mi : ME} {mas : MA} {m : MS} {x : Str}
end
section
variable {a : Addr} {ks : List (List Key × PyData)} {k : List Key} {ds xs : List PyData} {d : PyData} {R : DV → Prop} {n : Bool} {ps : List (List Key × PyData)}
theorem seen_ot : DV.seen (.odt a ks) = .bdt a ks := rfl
theorem seen_bt : DV.seen (.bdt a ks) = .bdt a ks := rfl
theorem isBor_ot : DV.isBor (.odt a ks) = false := rfl
theorem isBor_bt : DV.isBor (.bdt a ks) = true := rfl
end
end DL
namespace DL
open PySem PySem.Spec L2
section
variable {X : Cx} {W : WC} {u1 u2 : Nat} {a b : Expr} {pos : Pos} {ma mb : ME}
end
end DL
namespace L2
open PySem PySem.Spec PyProof.Rows
section
variable {X : Cx} {x y n : Str} {c c' : Value} {i : Nat} {B S S' : List Stmt} {s0 s1 : Stmt} {p1 p2 p3 p4 p5 : Pos} {tb : WX → TS} {ts ts' : Addr → Value → Option Addr → TS}
end
end L2
namespace DL
open PySem PySem.Spec L2 PySem.W
section
variable {X : Cx} {W : WC} {u1 u2 u3 k : Nat} {pos : Pos} {K' : Frag} {mg' : Str → Option Value} {L : List Str} {sub : Str → Str → Bool}
end
end DL
namespace DL
open PySem PySem.Spec PyProof.Rows L2
section
variable {X : Cx} {pins : List (Addr × Obj)} {σ : L2.St} {H : Hp} {s : Shared} {d : Addr} {o : Obj} {es : Array DictEntry} {ep : Nat}
variable {P : Program} {w : World} {K : PySem.W.Frag}
variable {e : Expr} {td : TE} {apos cpos : Pos}
end
structure Dr (F F' : Hp) : Prop where
  k : ∀ b u, F b = some u → (∀ o kvs, u ≠ .frz o (.dT kvs)) → F' b = some u
section
variable {K : PySem.W.Frag} {F F' : Hp}
theorem Dr.rd (e : Dr F F') {a : Addr} {u : HO} (h : Rd F a u) (h1 : ∀ o kvs, u ≠ .frz o (.dT kvs)) (h2 : ∀ kvs, u ≠ .dT kvs) : Rd F' a u := by
  rcases h with h | ⟨o, h⟩
  · exact .inl (e.k _ _ h h1)
  · exact .inr ⟨o, e.k _ _ h fun o2 kvs z => by cases z; exact h2 _ rfl⟩
theorem Dr.sqL (e : Dr F F') {a : Addr} {vs : List V} (h : SqL K F a vs) : SqL K F' a vs := by
  rcases h with h | h
  · exact .inl (e.rd h (fun _ _ z => by cases z) (fun _ z => by cases z))
  · exact .inr h
mutual
theorem At.dr (e : Dr F F') : ∀ (d : PyData) (v : V), At K F v d → At K F' v d
  | .none, _, h => by cases h; exact .non
  | .bool b, _, h => by cases h; exact .bl b
  | .int i, _, h => by cases h; exact .int i
  | .str x, _, h => by cases h; exact .str x
  | .list ds, _, h => by
    cases h with
    | lst hs ha => exact .lst (e.k _ _ hs (fun _ _ z => by cases z)) (AtL.dr e ds _ ha)
  | .tuple ds, _, h => by
    cases h with
    | tup hs ha => exact .tup (e.k _ _ hs (fun _ _ z => by cases z)) (AtL.dr e ds _ ha)
  | .dict ds, _, h => by
    cases h with
    | dct hs ha => exact .dct (e.rd hs (fun _ _ z => by cases z) (fun _ z => by cases z)) (AtKv.dr e ds _ ha)
    | obj hs ho hn ha => exact .obj (e.k _ _ hs (fun _ _ z => by cases z)) ho hn (AtKv.dr e _ _ ha)
theorem AtL.dr (e : Dr F F') : ∀ (ds : List PyData) (vs : List V), AtL K F vs ds → AtL K F' vs ds
  | [], _, h => by cases h; exact .nil
  | d :: ds, _, h => by
    cases h with
    | cons h1 h2 => exact .cons (At.dr e d _ h1) (AtL.dr e ds _ h2)
theorem AtKv.dr (e : Dr F F') : ∀ (ds : List (PyData × PyData)) (kvs : List (Key × V)), AtKv K F kvs ds → AtKv K F' kvs ds
  | [], _, h => by cases h; exact .nil
  | (k, d) :: ds, _, h => by
    cases h with
    | cons h1 h2 => exact .cons (At.dr e d _ h1) (AtKv.dr e ds _ h2)
end
theorem AtKt.dr (e : Dr F F') : ∀ (ds : List (List Key × PyData)) (kvs : List (List Key × V)), AtKt K F kvs ds → AtKt K F' kvs ds
  | [], _, h => by cases h; exact .nil
  | (k, d) :: ds, _, h => by
    cases h with
    | cons h1 h2 => exact .cons (At.dr e d _ h1) (AtKt.dr e ds _ h2)
end
section
variable {G : Gm} {F F2 H H2 : Hp} {δ : Env} {σ : L2.St} {i : Nat} {x y : DV} {v : V} {l : Addr} {kvs : List (List Key × V)} {ks : List (List Key × PyData)} {o : Obj}
theorem AtF.dr {K : PySem.W.Frag} {F F' : Hp} (e : Dr F F') {v : V} {x : FV} (h : AtF K F v x) : AtF K F' v x := by
  cases h with
  | d h => exact .d (At.dr e _ _ h)
  | r a => exact .r a
theorem AtFs.dr {K : PySem.W.Frag} {F F' : Hp} (e : Dr F F') : ∀ {vs : List (Str × V)} {fs : List (Str × FV)}, AtFs K F vs fs → AtFs K F' vs fs
  | _, _, .nil => .nil
  | _, _, .cons h r => .cons (h.dr e) (AtFs.dr e r)
theorem AtFl.dr {K : PySem.W.Frag} {F F' : Hp} (e : Dr F F') : ∀ {vs : List V} {fs : List FV}, AtFl K F vs fs → AtFl K F' vs fs
  | _, _, .nil => .nil
  | _, _, .cons h r => .cons (h.dr e) (AtFl.dr e r)
theorem Dr.sqO {F F' : Hp} (e : Dr F F') {a : Addr} {tup : Bool} {vs : List V} (h : F a = some (DL.sqO tup vs)) : F' a = some (DL.sqO tup vs) := by
  cases tup with
  | true => exact e.k _ _ h (fun _ _ z => by cases z)
  | false => exact e.k _ _ h (fun _ _ z => by cases z)
end
section
variable {u u1 u2 u3 : Nat} {X : Cx} {W : WC} {a b c e : Expr} {es : List Expr} {pos p p1 p2 : Pos} {ma mb mc me mi : ME} {m : MS} {x : Str}
def itemsT (ks : List (List Key × PyData)) : List PyData := ks.map fun p => .tuple [.tuple (p.1.map keyD), p.2]
theorem AtKt.get {K : PySem.W.Frag} {F : Hp} : ∀ {kvs : List (List Key × V)} {ks : List (List Key × PyData)} {i : Nat} {p : List Key × PyData}, AtKt K F kvs ks → ks[i]? = some p → ∃ v, kvs[i]? = some (p.1, v) ∧ At K F v p.2
  | _, _, i, p, .nil, e => by simp at e
  | _, _, 0, p, .cons h _, e => by
    simp at e
    subst e
    exact ⟨_, rfl, h⟩
  | _, _, i + 1, p, .cons _ t, e => by
    obtain ⟨v, h1, h2⟩ := AtKt.get (i := i) t (by simpa using e)
    exact ⟨v, by simpa using h1, h2⟩
variable {tg iter elt : Expr} {ifs : List Expr} {scope : Scope} {own : List (Str × Nat)} {tt : MT} {te : ME} {ut ue : Nat} {dom : List Nat} {mi' : MI}
end
section
variable {a : Addr} {ks : List (List Key × PyData)} {k : List Key} {ds : List PyData} {d : PyData} {i : Int} {x : Str} {p : Unit → LkT} {xs : List PyData}
theorem dct_ot : DV.dct (.odt a ks) = some (a, ks) := rfl
theorem dct_bt : DV.dct (.bdt a ks) = some (a, ks) := rfl
theorem keyL_nil : keyL [] = some [] := rfl
theorem keyL_i : keyL (.int i :: ds) = (keyL ds).map (.inl i :: ·) := by rw [keyL]
theorem keyL_s : keyL (.str x :: ds) = (keyL ds).map (.inr x :: ·) := by rw [keyL]
theorem seen_lt : DV.seen (.ldt p ks) = .ldt p ks := rfl
theorem isBor_lt : DV.isBor (.ldt p ks) = false := rfl
end
end DL
namespace DL
open PySem PySem.Spec L2
def KBind (K : PySem.W.Frag) (fd : FuncData) (ps : List Str) (n : Nat) (pk : Str) : Prop :=
  ∀ (s : Shared) (us : List Value) (u : Value), K.In s.heap → us.length = n → BindsTo s fd ⟨us, [(pk, u)]⟩ (ps.zip (us ++ [u]))
def DFnK (P : Program) (w : World) (K : PySem.W.Frag) (mg : Str → Option Value) (base : Heap) (CK : CKT) (x pk : Str) (k u n : Nat) (mf : MF) : Prop :=
  ∃ (f : Addr) (fd : FuncData) (ps : List Str), mg x = some (.ref f) ∧ PySem.W.keepIn K (.ref f) = true ∧ KBind K fd ps n pk ∧ ps.length = n + 1 ∧ FnG P w K mg base k f fd ps (spD K mg CK u (n + 1) mf)
section
variable {P : Program} {w : World} {K : PySem.W.Frag} {mg : Str → Option Value} {base : Heap}
theorem DFnK.le {x pk : Str} {k u u' n : Nat} {mf : MF} {CK : CKT} (h : DFnK P w K mg base CK x pk k u n mf) (hu : u ≤ u') : DFnK P w K mg base CK x pk k u' n mf := by
  obtain ⟨f, fd, ps, h1, h2, h3, h4, h5⟩ := h
  refine ⟨f, fd, ps, h1, h2, h3, h4, h5.imp fun vs H Q E q => ?_⟩
  obtain ⟨q1, G, F, as, R, ex, q2, q3, q4, q5, q6, q7, q8, q9⟩ := q
  exact ⟨q1, G, F, as, R, ex, q2, ⟨q3.1, Nat.le_trans (Nat.add_le_add_left hu _) q3.2⟩, q4, q5, q6, q7, fun r hr ha v F' H' g => q8 r hr ha v F' H' (g.mono hu), fun e he b cls d F' H' hb g => q9 e he b cls d F' H' (Nat.le_trans hb hu) g⟩
end
section
variable {X : Cx} {W : WC} {e e0 : Expr} {es : List Expr} {pos p kp : Pos} {mas : MA} {me : ME} {x pk : Str} {k j n u1 u2 u3 : Nat} {mf : MF}
end
end DL
namespace DL
open PySem PySem.Spec L2
section
variable {u u1 u2 u3 : Nat} {X : Cx} {W : WC} {a b c : Expr} {ma mb mc : ME}
end
end DL
namespace DL
open PySem PySem.Spec L2
section
variable {X : Cx} {W : WC} {e o : Expr} {es : List Expr} {apos pos : Pos} {mas : MA} {me : ME} {nm m : Str} {lv j n u1 u2 u3 : Nat} {mf : MF}
end
end DL
namespace DL
open PySem PySem.Spec L2
abbrev MK := List DV → (List (Str × PyData) → Prop) → (DExc → Prop) → Prop
def spMkG (K : PySem.W.Frag) (mg : Str → Option Value) (CK : CKT) (C : Addr) (u n : Nat) (mk : MK) : Sp := fun vs H Q E => vs.length = n + 1 ∧ ∃ (G : Gm) (F : Hp) (x dx : Addr) (us : List V) (as : List DV) (R : List (Str × PyData) → Prop) (ex : DExc → Prop), vs = .ref x :: us ∧ G.K = K ∧ (CK G.C G.cv G.J G.lim ∧ G.n + u ≤ G.lim) ∧ as.length = us.length ∧ (∀ z ∈ as, z.arg = true) ∧
  Good G F (as.map some) (us.map some) H ∧ F x = none ∧ G.B x = none ∧ H x = some (.ins C dx []) ∧ mk as R ex ∧
  (∀ fs, R fs → (∀ p ∈ fs, NoAttr K C p.1) → ∀ gs F' H', Good (G.up u) F' [] [] H' → H' x = some (.ins C dx gs) → F' x = none → AtKv K F' (fKv gs) (kvD fs) → Q .non H') ∧
  (∀ e, ex e → ∀ b cls d F' H', b ≤ u → Good (G.up b) F' [] [] H' → ExcAt K mg F' H' e cls d → E cls d H')
structure DMkG (P : Program) (w : World) (K : PySem.W.Frag) (mg : Str → Option Value) (base : Heap) (CK : CKT) (nm : Str) (lv u n : Nat) (mk : MK) : Prop where
  ex : ∃ C fI fd ps, mg nm = some (.ref C) ∧ Mk K C fI ∧ ObjC K nm C ∧ FnG P w K mg base lv fI fd ps (spMkG K mg CK C u n mk) ∧ Binds K fd ps [] ∧ ps.length = n + 1
section
variable {X : Cx} {W : WC} {e : Expr} {es : List Expr} {pos p apos : Pos} {mas : MA} {u u1 u2 : Nat} {nm : Str} {lv j n : Nat} {mk : MK}
theorem Good.obj {G : Gm} {F H : Hp} {δ : Env} {σ : L2.St} (g : Good G F δ σ H) {x : Addr} {o : HO} (h : H x = some o) (hf : F x = none) (hb : G.B x = none) (hx : ∀ (i : Nat) (z : DV), δ[i]? = some (some z) → z.isOwn = true → σ[i]? ≠ some (some (.ref x))) (hc : ¬ G.C x) : Same F (upd F x o) ∧ Good G (upd F x o) δ σ H := by
  have s : Same F (upd F x o) := fun b u e => by rw [upd_ne (ne_of_none e hf)]; exact e
  refine ⟨s, g.g, g.len, g.f0.trans s, fun b u e => ?_, fun b e1 e2 => ?_, g.bh, fun b c => ?_, g.jh, fun i z e => ?_, g.di⟩
  · by_cases q : b = x
    · subst q
      rw [upd_same] at e
      cases e
      exact h
    · rw [upd_ne q] at e
      exact g.fh _ _ e
  · by_cases q : b = x
    · subst q
      exact .inl hb
    · rw [upd_ne q] at e1 ⊢
      exact g.fr b e1 e2
  · rw [upd_ne (fun z : b = x => hc (z ▸ c))]
    exact g.cf b c
  · obtain ⟨w, ew, hw⟩ := g.sl i z e
    refine ⟨w, ew, hw.keep s (fun _ _ _ _ q => q) fun p hz hq hp => ?_⟩
    rw [upd_ne]
    · exact hp
    · intro e2
      subst e2
      subst hq
      exact hx i z e hz ew
end
theorem Good.wr {G : Gm} {F H : Hp} (g : Good G F [] [] H) {p : Addr} {o o' : HO} (hp : H p = some o) (hx : ∀ φ, o ≠ .ext φ) (hF : F p = none) (hB : G.B p = none) (hC : ¬ G.C p) : Good G F [] [] (upd H p o') := by
  refine ⟨g.g, rfl, g.f0, fun b u e => ?_, g.fr, fun b u c e => ?_, g.cf, g.g.js _ _ _ g.jh (fun b c => upd_ne fun z => hC (z ▸ c)) (fun b φ e => ?_), fun i z e => (by simp at e), fun i j x y l h1 h2 e1 _ _ _ => (by simp at e1)⟩
  · rw [upd_ne fun z => by rw [z, hF] at e; cases e]; exact g.fh _ _ e
  · rw [upd_ne fun z => by rw [z, hB] at e; cases e]; exact g.bh _ _ c e
  · rw [upd_ne fun z => by rw [z, hp] at e; exact hx φ (Option.some.inj e)]; exact e
end DL
namespace DL
open PySem PySem.Spec PySem.Calls PyProof.Rows PyProof.V L2 PySem.W
section
variable {prog : Program} {w : World} {A : Around} {E : Value → Shared → Prop} {s : Shared} {es : Array DictEntry} {ep : Nat}
structure ItG (es : Array DictEntry) (lo : Addr) (h : Heap) (as : List Addr) : Prop where
  rise : as.Pairwise (· < ·)
  above : ∀ a ∈ as, lo < a
  pairs : ∀ (j : Nat) (a : Addr), as[j]? = some a → ∃ e, es[j]? = some e ∧ h.get? a = some { cls := .type "tuple", data := .seq #[e.key, e.val] }
theorem ItG.there {lo : Addr} {h : Heap} {as : List Addr} (g : ItG es lo h as) {a : Addr} (ha : a ∈ as) : a < h.objs.size := by
  obtain ⟨j, hj⟩ := List.mem_iff_getElem?.mp ha
  obtain ⟨_, _, e⟩ := g.pairs j a hj
  exact Heap.lt_size e
end
section
variable {prog : Program} {w : World} {A : Around} {E : Value → Shared → Prop} {s : Shared} {es : Array DictEntry} {ep : Nat} {r d : Addr}
theorem ItG.low {lo lo' : Addr} {h : Heap} {as : List Addr} (g : ItG es lo h as) (hl : lo' ≤ lo) : ItG es lo' h as := ⟨g.rise, fun a ha => Nat.lt_of_le_of_lt hl (g.above a ha), g.pairs⟩
end
end DL
namespace DL
open PySem PySem.Spec PyProof.Rows L2
section
variable {X : Cx} {e : Expr} {te : TE} {p apos cpos pos : Pos}
end
section
variable {X : Cx} {W : WC} {e : Expr} {p apos cpos pos : Pos} {me : ME} {u : Nat}
end
end DL
namespace DL
open PySem PySem.Spec PyProof.Rows L2
section
variable {X : Cx} {W : WC} {pos p1 p2 : Pos} {e idx : Expr} {me mi : ME} {x : Str} {u1 u2 u3 : Nat}
end
end DL
namespace ST
open PySem PySem.Spec PyProof.Rows L2
variable {P : Program} {w : World} {K : Type} [DecidableEq K] {knd : KeyKind P w K} {A : Around} {E : Value → Shared → Prop} {s : Shared}
structure Plain (knd : KeyKind P w K) : Prop where
  cls : ∀ {k : K} {v : Value}, knd.is k v = true → ∀ n, ofAClassStatement n v = pure false
  val : ∀ {k : K} {v : Value}, knd.is k v = true → ∃ f, ∀ n, hashByValue n v = pure f
theorem plain_mix : Plain (mixKind P w) := by
  constructor
  · intro k v h n
    rcases keyIs_shape h with ⟨i, t, rfl, rfl⟩ | ⟨x, t, rfl, rfl⟩
    · exact ofAClass_int n i t
    · cases n <;> rfl
  · intro k v h
    rcases keyIs_shape h with ⟨i, t, rfl, rfl⟩ | ⟨x, t, rfl, rfl⟩
    · exact ⟨true, fun n => hashBy_int n i t⟩
    · exact ⟨false, fun n => by cases n <;> rfl⟩
theorem keyed {ks : List K} {vs : List Value} (h : ItemsAre knd ks vs) : ∀ v ∈ vs, ∃ k, knd.is k v = true := by
  induction h with
  | nil => exact fun v hv => absurd hv (List.not_mem_nil)
  | cons h1 _ ih => exact fun v hv => (List.mem_cons.mp hv).elim (fun e => ⟨_, e ▸ h1⟩) (ih v)
theorem cls_no (T : Plain knd) {ks : List K} {b : Addr} {R : Bool → Shared → Prop} (hk : IsTupleKey knd s.heap ks b) (hR : R false s) : wpAny (model P w) A (ofAClassStatement 8 (.ref b)) R E s := by
  have ty := hk.typeIs
  obtain ⟨ob, its, m, hob, -, hdat, hits⟩ := hk
  have yes : (("tuple" : String) == "tuple") = true := by decide
  unfold ofAClassStatement
  refine wpAny_bind (wpAny_typeOf ty ?_)
  simp only [yes, if_true, Bool.not_true, Bool.false_eq_true, if_false]
  try refine wpAny_bind (wpAny_pure ?_)
  try simp only [Bool.not_true, Bool.false_eq_true, if_false]
  refine wpAny_bind (m := seqItems? (.ref b)) (wpAny_seqItems hob hdat ?_)
  dsimp only
  refine wpAny_bind ?_
  show wpAny _ _ (forIn its _ _) _ _ s
  rw [← Array.forIn_toList]
  have all := keyed hits
  refine wpAny_forIn_list _ (fun left st s1 => (st.1 = none ∧ s1 = s) ∧ ∀ v ∈ left, ∃ k, knd.is k v = true) _ (fun v left st s1 ⟨⟨e1, e2⟩, hv⟩ => ?_) (fun st s1 ⟨⟨e1, e2⟩, _⟩ => ?_) _ _ ⟨⟨rfl, rfl⟩, all⟩
  · subst e2
    obtain ⟨k, hkv⟩ := hv v (List.mem_cons_self ..)
    rw [T.cls hkv]
    refine wpAny_bind (wpAny_pure ?_)
    simp only [Bool.false_eq_true, if_false]
    exact wpAny_pure ⟨⟨rfl, rfl⟩, fun x hx => hv x (List.mem_cons_of_mem _ hx)⟩
  · subst e2
    obtain ⟨st1, st2⟩ := st
    have e1 : st1 = none := e1
    subst e1
    exact wpAny_pure hR
theorem by_value (T : Plain knd) {ks : List K} {b : Addr} {R : Bool → Shared → Prop} (hk : IsTupleKey knd s.heap ks b) (hR : ∀ f, R f s) : wpAny (model P w) A (hashByValue 8 (.ref b)) R E s := by
  have ty := hk.typeIs
  obtain ⟨ob, its, m, hob, -, hdat, hits⟩ := hk
  unfold hashByValue
  refine wpAny_bind (wpAny_specialOf ty F.slot_tuple_hash.lookup ?_)
  refine wpAny_bind (m := seqItems? (.ref b)) (wpAny_seqItems hob hdat ?_)
  refine wpAny_bind ?_
  show wpAny _ _ (forIn its _ _) _ _ s
  rw [← Array.forIn_toList]
  have all := keyed hits
  refine wpAny_forIn_list _ (fun left st s1 => (st.1 = none ∨ st.1 = some false) ∧ s1 = s ∧ ∀ v ∈ left, ∃ k, knd.is k v = true) _ (fun v left st s1 ⟨e1, e2, hv⟩ => ?_) (fun st s1 ⟨e1, e2, _⟩ => ?_) _ _ ⟨.inl rfl, rfl, all⟩
  · subst e2
    obtain ⟨k, hkv⟩ := hv v (List.mem_cons_self ..)
    obtain ⟨f, hf⟩ := T.val hkv
    rw [hf]
    refine wpAny_bind (wpAny_pure ?_)
    cases f with
    | true =>
      simp only [Bool.not_true, Bool.false_eq_true, if_false]
      exact wpAny_pure ⟨.inl rfl, rfl, fun x hx => hv x (List.mem_cons_of_mem _ hx)⟩
    | false =>
      simp only [Bool.not_false, if_true]
      exact wpAny_pure (wpAny_pure (hR false))
  · subst e2
    obtain ⟨st1, st2⟩ := st
    have e1 : st1 = none ∨ st1 = some false := e1
    rcases e1 with rfl | rfl
    · exact wpAny_pure (hR true)
    · exact wpAny_pure (hR false)
theorem unseen (T : Plain knd) {ks : List K} {b : Addr} {R : Bool → Shared → Prop} (hk : IsTupleKey knd s.heap ks b) {ys : List Value} (hy : ∀ y ∈ ys, ∃ c js, y = Value.ref c ∧ IsTupleKey knd s.heap js c) (hR : R false s) :
    wpAny (model P w) A (searchCouldBeSeen (.ref b) ys) R E s := by
  unfold searchCouldBeSeen
  refine wpAny_bind ?_
  refine wpAny_forIn_list _ (fun left st s1 => (st.1 = none ∧ s1 = s) ∧ ∀ y ∈ left, ∃ c js, y = Value.ref c ∧ IsTupleKey knd s.heap js c) _ (fun v left st s1 ⟨⟨e1, e2⟩, hv⟩ => ?_) (fun st s1 ⟨⟨e1, e2⟩, _⟩ => ?_) _ _ ⟨⟨rfl, rfl⟩, hy⟩
  · subst e2
    obtain ⟨c, js, rfl, hc⟩ := hv v (List.mem_cons_self ..)
    have more : ∀ y ∈ left, ∃ c js, y = Value.ref c ∧ IsTupleKey knd s1.heap js c := fun x hx => hv x (List.mem_cons_of_mem _ hx)
    dsimp only
    rcases Bool.eq_false_or_eq_true (b == c || (carriedByValue (.ref b) && carriedByValue (.ref c))) with hq | hq
    · exact wp_if_pos hq (wpAny_pure ⟨⟨rfl, rfl⟩, more⟩)
    · refine wp_if_neg (by rw [hq]; exact Bool.false_ne_true) ?_
      refine wpAny_bind (wpAny_eqIsQuiet_tuple hk ?_)
      simp only [Bool.not_true, Bool.false_eq_true, if_false]
      refine wpAny_bind (wpAny_eqIsQuiet_tuple hc ?_)
      simp only [Bool.not_true, Bool.false_eq_true, if_false]
      refine wpAny_bind (cls_no T hk ?_)
      simp only [Bool.false_eq_true, if_false]
      refine wpAny_bind (cls_no T hc ?_)
      simp only [Bool.false_eq_true, if_false]
      exact wpAny_pure ⟨⟨rfl, rfl⟩, more⟩
  · subst e2
    obtain ⟨st1, st2⟩ := st
    have e1 : st1 = none := e1
    subst e1
    exact wpAny_pure hR
abbrev stp (m : Nat) (h : Int) (c : Nat) : SetTable.Probe := nth m (runAt m (SetTable.bits h % (m + 1)) (SetTable.bits h)) c
theorem stp_add (m : Nat) (h : Int) (c q : Nat) : nth m (stp m h c) q = stp m h (c + q) := (nth_add m c _ q).symm
theorem nth_nd (m : Nat) : ∀ (n : Nat) (p : SetTable.Probe), p.dummy = none → (nth m p n).dummy = none
  | 0, _, h => h
  | n + 1, p, h => nth_nd m n (adv m p) (by unfold adv; split <;> exact h)
theorem stp_nd {m : Nat} {h : Int} {c : Nat} : (stp m h c).dummy = none := nth_nd m c _ rfl
structure Of (P : Program) (w : World) (knd : KeyKind P w K) (h : Heap) (a : Addr) (L : List (Addr × List K)) (es : Array (Int × Value)) (ep : Nat) (t : SetTable) : Prop where
  obj : ∃ o, h.get? a = some o ∧ o.ExactSet ∧ o.data = .set es ep t
  ent : es.toList = L.map fun p => (tupleKeyHash knd p.2, Value.ref p.1)
  lay : TabOk t (L.map fun p => tupleKeyHash knd p.2)
  dif : (L.map Prod.snd).Nodup
  key : ∀ p ∈ L, IsTupleKey knd h p.2 p.1
  spare : L.length * 5 < t.mask * 3
  led : w.params.followText "set-order" = true ∨ t.led = true
  small : L.length ≤ 76
section
variable {a : Addr} {L : List (Addr × List K)} {es : Array (Int × Value)} {ep : Nat} {t : SetTable}
theorem ent_size (h : es.toList = L.map fun p => (tupleKeyHash knd p.2, Value.ref p.1)) : es.size = L.length := by
  rw [← Array.length_toList, h, List.length_map]
theorem ent_at (h : es.toList = L.map fun p => (tupleKeyHash knd p.2, Value.ref p.1)) {i : Nat} {p : Addr × List K} (e : L[i]? = some p) : es[i]? = some (tupleKeyHash knd p.2, Value.ref p.1) := by
  rw [← Array.getElem?_toList, h, List.getElem?_map, e]
  rfl
theorem fits_of (h : t.place.size = es.size) (hd : t.dummies = #[]) (hm : es.size ≤ t.mask) : t.fits es.size = true := by
  unfold SetTable.fits SetTable.fill
  simp only [hd, Bool.and_eq_true, beq_iff_eq, decide_eq_true_eq]
  exact ⟨h, by show t.place.size + 0 ≤ _; omega⟩
theorem Of.psz (R : Of P w knd s.heap a L es ep t) : t.place.size = es.size := by
  rw [R.lay.sz, List.length_map, ent_size R.ent]
theorem Of.fits (R : Of P w knd s.heap a L es ep t) : t.fits es.size = true := fits_of R.psz R.lay.dm (by
  have := R.spare
  rw [ent_size R.ent]
  omega)
theorem Of.spot (R : Of P w knd s.heap a L es ep t) {i j : Nat} (h : t.place.toList[i]? = some j) : ∃ p, L[i]? = some p ∧ p ∈ L := by
  have h1 : i < t.place.toList.length := (List.getElem?_eq_some_iff.mp h).1
  rw [Array.length_toList, R.psz, ent_size R.ent] at h1
  exact ⟨L[i], List.getElem?_eq_getElem h1, List.getElem_mem h1⟩
theorem Of.seek (R : Of P w knd s.heap a L es ep t) (T : Plain knd) {x : Addr} {k : List K} (hx : IsTupleKey knd s.heap k x) (hu : A.units < cLine) {F : Nat} (hF : F < 10 * SetTable.turns t.mask)
    (free : way t.mask (tupleKeyHash knd k) F ∉ t.place.toList) (busy : ∀ c, c < F → way t.mask (tupleKeyHash knd k) c ∈ t.place.toList) {R2 : SetFound → Shared → Prop}
    (yes : k ∈ L.map Prod.snd → R2 (.there none) s) (no : k ∉ L.map Prod.snd → R2 (.free (way t.mask (tupleKeyHash knd k) F) false) s) (fuel : Nat) :
    ∀ (c : Nat) (st : Option SetTable.Probe), st.getD (t.probeStart (tupleKeyHash knd k)) = stp t.mask (tupleKeyHash knd k) c → c ≤ F → F < fuel + c →
      (∀ (i : Nat) p, L[i]? = some p → p.2 = k → ∃ d, c ≤ d ∧ d < F ∧ t.place.toList[i]? = some (way t.mask (tupleKeyHash knd k) d)) →
      wpAny (model P w) A (setSearchFrom a (.ref x) (tupleKeyHash knd k) true fuel st) R2 E s := by
  induction fuel with
  | zero => exact fun c st _ h1 h2 _ => absurd h2 (by omega)
  | succ fuel ih =>
    intro c st hst hc hf hre
    obtain ⟨o, ho, -, hd⟩ := R.obj
    have gw : ¬ t.gaveWay = true := by
      unfold SetTable.gaveWay
      rw [mask_odd R.lay.mok]
      decide
    have hashes : ∀ (i : Nat) p, L[i]? = some p → ((es[i]?.map (·.1)).getD 0 : Int) = tupleKeyHash knd p.2 := fun i p hp => by rw [ent_at R.ent hp]; rfl
    have spec := go_spec t R.lay.ris R.lay.dm (fun i => (es[i]?.map (·.1)).getD 0) (tupleKeyHash knd k) (10 * SetTable.turns t.mask) (F - c) (stp t.mask (tupleKeyHash knd k) c) stp_nd (by omega)
      (fun q hq => by rw [stp_add]; exact busy (c + q) (by omega)) (by rw [stp_add, show c + (F - c) = F by omega]; exact free)
    -- what is passed over isn't the tuple
    have past : ∀ (z : Nat), (∀ (k' i' : Nat), k' < z → t.place.toList[i']? = some (nth t.mask (stp t.mask (tupleKeyHash knd k) c) k').j → (fun (i : Nat) => ((es[i]?.map (·.1)).getD 0 : Int)) i' ≠ tupleKeyHash knd k) → ∀ (i : Nat) (p : Addr × List K) (d : Nat), L[i]? = some p → p.2 = k → c ≤ d → d < c + z → t.place.toList[i]? ≠ some (way t.mask (tupleKeyHash knd k) d) := fun z hz i p d hp hpk h1 h2 e => by
      refine hz (d - c) i (by omega) ?_ ?_
      · rw [stp_add, show c + (d - c) = d by omega]
        exact e
      · exact (hashes i p hp).trans (by rw [hpk])
    rw [setSearchFrom_succ]
    refine wpAny_bind (wpAny_setState_of ho hd R.fits ?_)
    dsimp only
    refine wp_if_neg gw ?_
    try refine wpAny_bind (wpAny_pure ?_)
    rw [hst]
    rcases spec with ⟨q, i, hq, hi, -, hno, hpr⟩ | ⟨hno, hpr⟩
    · rw [stp_add] at hi
      have hpr : t.probe (fun i => (es[i]?.map (·.1)).getD 0) (tupleKeyHash knd k) (stp t.mask (tupleKeyHash knd k) c) = some (.candidate (way t.mask (tupleKeyHash knd k) (c + q)) i (stp t.mask (tupleKeyHash knd k) (c + (q + 1)))) := by
        rw [stp_add, stp_add] at hpr
        exact hpr
      rw [hpr]
      dsimp only
      obtain ⟨p, hp, hpm⟩ := R.spot hi
      have go : wpAny (model P w) A (searchRest a (.ref x) (tupleKeyHash knd k) true fuel es t (way t.mask (tupleKeyHash knd k) (c + q)) i (stp t.mask (tupleKeyHash knd k) (c + (q + 1)))) R2 E s := by
        unfold searchRest
        rw [ent_at R.ent hp]
        dsimp only
        refine wpAny_bind (wpAny_holding (wpAny_eqBool_tuple hu (R.key p hpm) hx ?_))
        refine wpAny_bind (wpAny_setState_of ho hd R.fits ?_)
        dsimp only
        by_cases same : p.2 = k
        · exact wp_if_pos (by simp [same]) (wpAny_pure (yes (List.mem_map.mpr ⟨p, hpm, same⟩)))
        · refine wp_if_neg (by simp [same]) ?_
          try refine wpAny_bind (wpAny_pure ?_)
          rw [sameMem]
          dsimp only
          have live : t.slot (way t.mask (tupleKeyHash knd k) (c + q)) = .live i := slot_live R.lay.ris hi
          simp only [if_true, live, ent_at R.ent hp]
          refine wpAny_bind (wpAny_isSame_ref_self (wpAny_bind (wpAny_pure ?_)))
          simp only [if_true]
          refine wp_if_neg (by simp [same]) ?_
          refine ih (c + (q + 1)) _ rfl (by omega) (by omega) fun i0 p0 h0 hk0 => ?_
          obtain ⟨d, d1, d2, d3⟩ := hre i0 p0 h0 hk0
          have n1 : ¬ d < c + q := fun z => past q hno i0 p0 d h0 hk0 d1 z d3
          have n2 : d ≠ c + q := fun z => by
            have l0 := slot_live R.lay.ris d3
            rw [z, live] at l0
            injection l0 with l0
            rw [← l0, hp] at h0
            exact same (Option.some.inj h0 ▸ hk0)
          exact ⟨d, by omega, d2, d3⟩
      by_cases hl : t.led = true
      · refine wp_if_neg (by simp [hl]) ?_
        try refine wpAny_bind (wpAny_pure ?_)
        exact go
      · refine wp_if_pos (by simp [hl]) ?_
        refine wpAny_bind (unseen T hx (fun y hy => ?_) ?_)
        · obtain ⟨e, he, rfl⟩ := List.mem_map.mp hy
          have he : e ∈ es.toList := by
            have : e ∈ es ∧ e.1 = tupleKeyHash knd k := by simpa using he
            simpa using this.1
          rw [R.ent] at he
          obtain ⟨p2, hp2, rfl⟩ := List.mem_map.mp he
          exact ⟨p2.1, p2.2, rfl, R.key p2 hp2⟩
        · refine wp_if_neg (by decide) ?_
          try refine wpAny_bind (wpAny_pure ?_)
          exact go
    · have hpr : t.probe (fun i => (es[i]?.map (·.1)).getD 0) (tupleKeyHash knd k) (stp t.mask (tupleKeyHash knd k) c) = some (.empty (way t.mask (tupleKeyHash knd k) F) none) := by
        rw [stp_add, show c + (F - c) = F by omega] at hpr
        exact hpr
      rw [hpr]
      dsimp only
      refine wpAny_pure (no fun hm => ?_)
      obtain ⟨p0, h0, hk0⟩ := List.mem_map.mp hm
      obtain ⟨i0, hi0, e0⟩ := List.getElem_of_mem h0
      have h00 : L[i0]? = some p0 := by rw [List.getElem?_eq_getElem hi0, e0]
      obtain ⟨d, d1, d2, d3⟩ := hre i0 p0 h00 hk0
      exact past (F - c) hno i0 p0 d h00 hk0 d1 (by omega) d3
theorem Of.search (R : Of P w knd s.heap a L es ep t) (T : Plain knd) {x : Addr} {k : List K} (hx : IsTupleKey knd s.heap k x) (hu : A.units < cLine) {R2 : SetFound → Shared → Prop}
    (yes : k ∈ L.map Prod.snd → R2 (.there none) s)
    (no : ∀ F, k ∉ L.map Prod.snd → way t.mask (tupleKeyHash knd k) F ∉ t.place.toList → (∀ c, c < F → way t.mask (tupleKeyHash knd k) c ∈ t.place.toList) → R2 (.free (way t.mask (tupleKeyHash knd k) F) false) s) :
    wpAny (model P w) A (setSearch a (.ref x) (tupleKeyHash knd k) true) R2 E s := by
  have hsp := R.spare
  obtain ⟨F, f1, f2, f3⟩ := R.lay.first (by rw [List.length_map]; omega) (tupleKeyHash knd k)
  have hbig : 10 * SetTable.turns t.mask ≤ 1420 := by
    unfold SetTable.turns
    rcases R.lay.mok with e | e | e <;> omega
  unfold setSearch
  refine R.seek T hx hu f1 f2 f3 yes (fun hn => no F hn f2 f3) 100000 0 none rfl (Nat.zero_le _) (by omega) fun i p hp hpk => ?_
  have hh : (L.map fun p => tupleKeyHash knd p.2)[i]? = some (tupleKeyHash knd k) := by rw [List.getElem?_map, hp, ← hpk]; rfl
  have hil : i < t.place.toList.length := by
    rw [Array.length_toList, R.psz, ent_size R.ent]
    exact (List.getElem?_eq_some_iff.mp hp).1
  obtain ⟨d, d1, d2⟩ := R.lay.before f2 hh (List.getElem?_eq_getElem hil)
  exact ⟨d, Nat.zero_le _, d1, by rw [d2]; exact List.getElem?_eq_getElem hil⟩
theorem range_back (L : List (Addr × List K)) : ∀ n, n ≤ L.length → (List.range n).filterMap (fun i => L[i]?) = L.take n
  | 0, _ => rfl
  | n + 1, h => by
    have e : L[n]? = some (L[n]'h) := List.getElem?_eq_getElem h
    rw [List.range_succ, List.filterMap_append, range_back L n (Nat.le_of_succ_le h), List.take_add_one, e]
    congr 1
    simp [e]
theorem moved (h : es.toList = L.map fun p => (tupleKeyHash knd p.2, Value.ref p.1)) {order : Array Nat} (hp : order.toList.Perm (List.range L.length)) : ∃ L2 : List (Addr × List K), (order.filterMap (es[·]?)).toList = (L2.map fun p => (tupleKeyHash knd p.2, Value.ref p.1)) ∧ L2.Perm L ∧
    (order.toList.map fun i => (es.map (·.1)).getD i 0) = L2.map fun p => tupleKeyHash knd p.2 := by
  have at' : ∀ i : Nat, es[i]? = (L[i]?).map fun (p : Addr × List K) => (tupleKeyHash knd p.2, Value.ref p.1) := fun i => by rw [← Array.getElem?_toList, h, List.getElem?_map]
  refine ⟨order.toList.filterMap fun i => L[i]?, ?_, ?_, ?_⟩
  · rw [Array.toList_filterMap, List.map_filterMap]
    congr 1
    funext i
    exact at' i
  · have := hp.filterMap fun i => L[i]?
    rw [range_back L L.length (Nat.le_refl _), List.take_length] at this
    exact this
  · have below : ∀ i ∈ order.toList, i < L.length := fun i hi => List.mem_range.mp (hp.mem_iff.mp hi)
    clear hp
    generalize order.toList = l at below
    induction l with
    | nil => rfl
    | cons i l ih =>
      have hi := below i (List.mem_cons_self ..)
      have e := List.getElem?_eq_getElem hi
      rw [List.map_cons, List.filterMap_cons, e, ih fun j hj => below j (List.mem_cons_of_mem _ hj)]
      dsimp only
      rw [List.map_cons]
      congr 1
      rw [Array.getD_eq_getD_getElem?, Array.getElem?_map, at', e]
      rfl
theorem key_on {h h' : Heap} {ks : List K} {a b : Addr} {o : Obj} (hb : IsTupleKey knd h ks b) (ho : h.get? a = some o) (hd : o.data = .set es ep t) (hs : Heap.SameBut a h h') : IsTupleKey knd h' ks b := by
  obtain ⟨o2, its, m, h1, h2, h3, h4⟩ := hb
  refine ⟨o2, its, m, (hs.2 b fun e => ?_).trans h1, h2, h3, h4⟩
  rw [e, ho] at h1
  cases Option.some.inj h1
  rw [hd] at h3
  cases h3
structure Near (P : Program) (w : World) (knd : KeyKind P w K) (h : Heap) (a : Addr) (L : List (Addr × List K)) (es : Array (Int × Value)) (ep : Nat) (t : SetTable) : Prop where
  obj : ∃ o, h.get? a = some o ∧ o.ExactSet ∧ o.data = .set es ep t
  ent : es.toList = L.map fun p => (tupleKeyHash knd p.2, Value.ref p.1)
  lay : TabOk t (L.map fun p => tupleKeyHash knd p.2)
  dif : (L.map Prod.snd).Nodup
  key : ∀ p ∈ L, IsTupleKey knd h p.2 p.1
  led : w.params.followText "set-order" = true ∨ t.led = true
  small : L.length ≤ 76
  in_ : L.length ≤ t.mask
theorem Near.relay (R : Near P w knd s.heap a L es ep t) {wanted M : Nat} (hw : SetTable.sizeAbove wanted - 1 = M) (hM : MaskOk M) (hn : L.length * 5 < M * 3) {R2 : Unit → Shared → Prop}
    (hR : ∀ h' L' es' ep' t', Heap.SameBut a s.heap h' → Of P w knd h' a L' es' ep' t' → L'.Perm L → R2 () { s with heap := h' }) : wpAny (model P w) A (setRelay a wanted) R2 E s := by
  obtain ⟨o, ho, hex, hd⟩ := R.obj
  have n1 := ent_size R.ent
  have n2 := R.small
  have n3 : t.place.size = es.size := by rw [R.lay.sz, List.length_map, n1]
  have hM2 : M ≤ 127 := by rcases hM with e | e | e <;> omega
  obtain ⟨t', order, e1, e2, T, e3, e4, -, -⟩ := relaid_ok t (hs := es.map (·.1)) (wanted := wanted) hw hM (by rw [Array.size_map, n1]; omega)
  rw [Array.size_map, n1] at e2
  obtain ⟨L2, m1, m2, m3⟩ := moved R.ent e2
  rw [m3] at T
  have n4 : (order.filterMap (es[·]?)).size = es.size := by rw [ent_size m1, m2.length_eq, n1]
  rw [setRelay_eq]
  refine wpAny_bind (wpAny_setState_of ho hd (fits_of n3 R.lay.dm (by rw [n1]; exact R.in_)) ?_)
  dsimp only
  refine wp_if_neg (by rw [sizeLine_eq]; omega) ?_
  try refine wpAny_bind (wpAny_pure ?_)
  rw [e1]
  refine wpAny_bind ?_
  refine wp_if_neg (by rw [n4]; simp) ?_
  try refine wpAny_bind (wpAny_pure ?_)
  refine wpAny_pure ?_
  refine wpAny_storeSet_of ho hd ?_ (by rw [n4, n1, sizeLine_eq]; omega)
  have sb : Heap.SameBut a s.heap (s.heap.update a (Obj.putSet (order.filterMap (es[·]?)) t')) := Heap.SameBut.update ..
  exact hR _ L2 _ (ep + 1) t' sb ⟨⟨_, store_at ho hd, ⟨hex.1, hex.2.1, hex.2.2⟩, rfl⟩, m1, T, (m2.map Prod.snd).nodup_iff.mpr R.dif, fun p hp => key_on (R.key p (m2.mem_iff.mp hp)) ho hd sb, by rw [m2.length_eq, e3]; exact hn, by rw [e4]; exact R.led, by rw [m2.length_eq]; exact n2⟩ m2
theorem Of.add (R : Of P w knd s.heap a L es ep t) (T : Plain knd) {x : Addr} {k : List K} (hx : IsTupleKey knd s.heap k x) (hu : A.units < cLine) (hs : L.length < 76) {R2 : Bool → Shared → Prop}
    (hR : ∀ b h' L' es' ep' t', Heap.SameBut a s.heap h' → Of P w knd h' a L' es' ep' t' → (k ∈ L.map Prod.snd ∧ L' = L ∨ k ∉ L.map Prod.snd ∧ L'.Perm ((x, k) :: L)) → R2 b { s with heap := h' }) :
    wpAny (model P w) A (setAddHashed a (.ref x) (tupleKeyHash knd k)) R2 E s := by
  obtain ⟨o, ho, hex, hd⟩ := R.obj
  have hsp := R.spare
  have n1 := ent_size R.ent
  unfold setAddHashed
  refine wpAny_holding ?_
  rw [show (100000 : Nat) = 99999 + 1 from rfl, setAddHashedIn_succ]
  refine wpAny_bind (wpAny_setState_of ho hd R.fits ?_)
  dsimp only
  refine wp_if_neg (by simp [byScan, Value.scannable]) ?_
  try refine wpAny_bind (wpAny_pure ?_)
  refine wpAny_bind (R.search T hx hu (fun hm => ?_) fun F hm free busy => ?_)
  · exact wpAny_pure (hR false s.heap L es ep t (Heap.SameBut.refl a s.heap) R (.inl ⟨hm, rfl⟩))
  dsimp only
  refine wpAny_bind (wpAny_setState_of ho hd R.fits ?_)
  dsimp only
  obtain ⟨q1, q2, q3, q4, q5, -, -, -, q9⟩ := R.lay.put free busy
  generalize hpt : t.put (way t.mask (tupleKeyHash knd k) F) = pt at q1 q3 q4 q5 q9 ⊢
  obtain ⟨t1, at1⟩ := pt
  dsimp only at q1 q3 q4 q5 q9 ⊢
  subst q1
  generalize SetTable.below t.place (way t.mask (tupleKeyHash knd k) F) = p at q2 q3 ⊢
  have pm : (L.take p ++ (x, k) :: L.drop p).Perm ((x, k) :: L) := put_perm L p (x, k)
  have hin : (SetTable.insertAt es p (tupleKeyHash knd k, Value.ref x)).toList = (L.take p ++ (x, k) :: L.drop p).map fun p => (tupleKeyHash knd p.2, Value.ref p.1) := by
    rw [SetTable.toList_insertAt, R.ent, List.map_append, List.map_cons, List.map_take, List.map_drop]
  have lay1 : TabOk t1 ((L.take p ++ (x, k) :: L.drop p).map fun p => tupleKeyHash knd p.2) := by
    rw [List.map_append, List.map_cons, List.map_take, List.map_drop]
    exact q3
  have hlen : (L.take p ++ (x, k) :: L.drop p).length = L.length + 1 := pm.length_eq
  have dif1 : ((L.take p ++ (x, k) :: L.drop p).map Prod.snd).Nodup := (pm.map Prod.snd).nodup_iff.mpr (List.nodup_cons.mpr ⟨hm, R.dif⟩)
  generalize L.take p ++ (x, k) :: L.drop p = L1 at pm hin lay1 hlen dif1
  have hes := ent_size hin
  generalize SetTable.insertAt es p (tupleKeyHash knd k, Value.ref x) = es1 at hin hes ⊢
  rw [List.length_map] at q9
  -- whatever is known of the hash
  have rest : ∀ t2 : SetTable, t2.place = t1.place → t2.dummies = t1.dummies → t2.mask = t1.mask → t2.led = t1.led → t2.fill = t1.fill → t2.tooFull = t1.tooFull →
      wpAny (model P w) A (do
        storeSet a es1 t2
        if !false && t2.tooFull then setRelay a (SetTable.grown (es.size + 1))
        return true) R2 E s := fun t2 p1 p2 p3 p4 p5 p6 => by
    have lay2 : TabOk t2 (L1.map fun p => tupleKeyHash knd p.2) := by
      obtain ⟨r1, r2, r3, r4, r5, r6⟩ := lay1
      exact ⟨by rw [p1]; exact r1, by rw [p2]; exact r2, by rw [p1]; exact r3, by rw [p3]; exact r4, by rw [p1, p3]; exact r5, by rw [p1, p3]; exact r6⟩
    refine wpAny_bind (wpAny_storeSet_of ho hd ?_ (by rw [hes, hlen, sizeLine_eq]; omega))
    have sb : Heap.SameBut a s.heap (s.heap.update a (Obj.putSet es1 t2)) := Heap.SameBut.update ..
    have ho1 := store_at (es' := es1) (t' := t2) ho hd
    generalize s.heap.update a (Obj.putSet es1 t2) = h1 at sb ho1 ⊢
    have key1 : ∀ p ∈ L1, IsTupleKey knd h1 p.2 p.1 := fun p hp => (List.mem_cons.mp (pm.mem_iff.mp hp)).elim (fun e => by rw [e]; exact key_on hx ho hd sb) fun hp => key_on (R.key p hp) ho hd sb
    have led1 : w.params.followText "set-order" = true ∨ t2.led = true := by rw [p4, q5]; exact R.led
    have full : t2.tooFull = decide ((L.length + 1) * 5 ≥ t2.mask * 3) := by unfold SetTable.tooFull; rw [p5, q9]
    have mk := R.lay.mok
    by_cases hf : (L.length + 1) * 5 ≥ t2.mask * 3
    · have yes : (!false && t2.tooFull) = true := by rw [full, decide_eq_true hf]; rfl
      first
        | (refine wp_if_pos yes ?_; refine wpAny_bind ?_)
        | (refine wpAny_bind ?_; refine wp_if_pos yes ?_)
      rw [n1]
      have two : (t.mask = 7 ∧ L.length = 4) ∨ (t.mask = 31 ∧ L.length = 18) := by
        rw [p3, q4] at hf
        rcases mk with e | e | e <;> rw [e] at hf hsp <;> omega
      have N : Near P w knd h1 a L1 es1 (ep + 1) t2 := ⟨⟨_, ho1, ⟨hex.1, hex.2.1, hex.2.2⟩, rfl⟩, hin, lay2, dif1, key1, led1, by omega, by rw [hlen, p3, q4]; omega⟩
      have go : ∀ M, SetTable.sizeAbove (SetTable.grown (L.length + 1)) - 1 = M → MaskOk M → (L.length + 1) * 5 < M * 3 →
          wpAny (model P w) A (setRelay a (SetTable.grown (L.length + 1))) (fun _ s' => wpAny (model P w) A (pure true) R2 E s') E { s with heap := h1 } := fun M g1 g2 g3 =>
        Near.relay (s := { s with heap := h1 }) N g1 g2 (by rw [hlen]; exact g3) fun h2 L2 es2 ep2 t3 sb2 R3 pm2 => wpAny_pure (hR true h2 L2 es2 ep2 t3 (sb.trans sb2) R3 (.inr ⟨hm, pm2.trans pm⟩))
      rcases two with ⟨_, e⟩ | ⟨_, e⟩
      · exact go 31 (by rw [e, size_20]) (.inr (.inl rfl)) (by omega)
      · exact go 127 (by rw [e, size_76]) (.inr (.inr rfl)) (by omega)
    · have noo : ¬ (!false && t2.tooFull) = true := by rw [full, decide_eq_false hf]; decide
      first
        | refine wp_if_neg noo ?_
        | (refine wpAny_bind ?_; refine wp_if_neg noo ?_; refine wpAny_pure ?_)
      exact wpAny_pure (hR true h1 L1 es1 (ep + 1) t2 sb ⟨⟨_, ho1, ⟨hex.1, hex.2.1, hex.2.2⟩, rfl⟩, hin, lay2, dif1, key1, by rw [hlen]; omega, led1, by omega⟩ (.inr ⟨hm, pm⟩))
  rcases Bool.eq_false_or_eq_true t1.plain with hp1 | hp1
  · first
      | (refine wp_if_pos hp1 (wpAny_bind (by_value T hx fun f => ?_)))
      | (refine wpAny_bind ?_; refine wp_if_pos hp1 ?_; refine by_value T hx fun f => ?_)
    cases f with
    | true => exact rest t1 rfl rfl rfl rfl rfl rfl
    | false => exact rest { t1 with plain := false } rfl rfl rfl rfl rfl rfl
  · first
      | (refine wp_if_neg (by rw [hp1]; exact Bool.false_ne_true) ?_)
      | (refine wpAny_bind ?_; refine wp_if_neg (by rw [hp1]; exact Bool.false_ne_true) ?_; refine wpAny_pure ?_)
    refine wpAny_bind (wpAny_pure ?_)
    exact rest t1 rfl rfl rfl rfl rfl rfl
end
def bare (w : World) : Obj := { cls := .type "set", dict := none, data := .set #[] 0 (.fresh 0 0 (!w.params.followText "set-order")) }
theorem Of.bare {h : Heap} {a : Addr} (ho : h.get? a = some (bare w)) : Of P w knd h a [] #[] 0 (.fresh 0 0 (!w.params.followText "set-order")) :=
  ⟨⟨_, ho, ⟨rfl, rfl, rfl⟩, rfl⟩, rfl, ⟨List.Pairwise.nil, rfl, rfl, .inl rfl, fun x hx => absurd hx (List.not_mem_nil), fun i h j hi => by simp at hi⟩, List.nodup_nil, fun p hp => absurd hp (List.not_mem_nil), by show 0 * 5 < 7 * 3; decide,
    by show _ ∨ (!w.params.followText "set-order") = true; cases w.params.followText "set-order" <;> simp, by show 0 ≤ 76; decide⟩
structure Upto (ks : List (Addr × List K)) (i : Nat) (L : List (Addr × List K)) : Prop where
  sub : ∀ p ∈ L, p ∈ ks.take i
  all : ∀ p ∈ ks.take i, p.2 ∈ L.map Prod.snd
  len : L.length ≤ i
theorem Upto.next {ks L L' : List (Addr × List K)} {i : Nat} {p : Addr × List K} (U : Upto ks i L) (h : ks[i]? = some p) (c : p.2 ∈ L.map Prod.snd ∧ L' = L ∨ p.2 ∉ L.map Prod.snd ∧ L'.Perm (p :: L)) : Upto ks (i + 1) L' := by
  have e : ks.take (i + 1) = ks.take i ++ [p] := by rw [List.take_add_one, h]; rfl
  rcases c with ⟨hm, rfl⟩ | ⟨-, pm⟩
  · refine ⟨fun q hq => by rw [e]; exact List.mem_append_left _ (U.sub q hq), fun q hq => ?_, Nat.le_succ_of_le U.len⟩
    rw [e] at hq
    exact (List.mem_append.mp hq).elim (U.all q) fun z => by rw [List.mem_singleton.mp z]; exact hm
  · refine ⟨fun q hq => ?_, fun q hq => ?_, by rw [pm.length_eq]; exact Nat.succ_le_succ U.len⟩
    · rw [e]
      exact (List.mem_cons.mp (pm.mem_iff.mp hq)).elim (fun z => List.mem_append_right _ (by rw [z]; exact List.mem_singleton_self _)) fun z => List.mem_append_left _ (U.sub q z)
    · rw [e] at hq
      rw [(pm.map Prod.snd).mem_iff]
      exact (List.mem_append.mp hq).elim (fun z => List.mem_cons_of_mem _ (U.all q z)) fun z => by rw [List.mem_singleton.mp z]; exact List.mem_cons_self ..
theorem key_kept {h h' : Heap} {ks : List K} {b : Addr} (hb : IsTupleKey knd h ks b) (hk : ∀ c o, h.get? c = some o → h'.get? c = some o) : IsTupleKey knd h' ks b := by
  obtain ⟨o, its, m, h1, r⟩ := hb
  exact ⟨o, its, m, hk b o h1, r⟩
theorem Of.kept {h h' : Heap} {a : Addr} {L : List (Addr × List K)} {es : Array (Int × Value)} {ep : Nat} {t : SetTable} (R : Of P w knd h a L es ep t) (h1 : ∀ o, h.get? a = some o → h'.get? a = some o) (h2 : ∀ p ∈ L, IsTupleKey knd h' p.2 p.1) : Of P w knd h' a L es ep t := by
  obtain ⟨o, ho, r⟩ := R.obj
  exact { R with obj := ⟨o, h1 o ho, r⟩, key := h2 }
theorem fill (T : Plain knd) {I S : Addr} {fp wr : List Addr} {G : Array GenState → Array GenState → Prop} {Pv : Nat → Value → Prop} {St : Nat → Shared → Prop} {Rs : Result → Shared → Prop} {ks : List (Addr × List K)}
    (W : WalksS P w A.in1 I fp wr G ks.length Pv St) (hSf : S ∉ fp) (hfew : ks.length ≤ 76) (hval : ∀ i v, Pv i v → ∃ p, ks[i]? = some p ∧ v = .ref p.1)
    {h0 : Heap} (hk : ∀ p ∈ ks, IsTupleKey knd h0 p.2 p.1) (hS0 : h0.get? S = none) (hw0 : ∀ b ∈ wr, h0.get? b = none) (hu : A.in1.units < cLine) (m : Nat) :
    ∀ (i : Nat) (s : Shared) (L : List (Addr × List K)) (es : Array (Int × Value)) (ep : Nat) (t : SetTable), i + m = ks.length → St i s → (∀ b o, h0.get? b = some o → s.heap.get? b = some o) → Of P w knd s.heap S L es ep t → Upto ks i L →
      (∀ s' L es ep t, Moved (S :: wr) G s s' → Of P w knd s'.heap S L es ep t → Upto ks ks.length L → (∀ b o, h0.get? b = some o → s'.heap.get? b = some o) → Rs (.ok (.ret .none)) s') →
      codeAny (model P w) A (.builtin "set.update.loop" ⟨[.ref S, .ref I], []⟩) Rs s := by
  have apart : S ∉ wr := fun z => hSf (W.sub _ z)
  have wider : ∀ b ∈ wr, b ∈ S :: wr := fun b hb => List.mem_cons_of_mem _ hb
  have still : ∀ {s s' : Shared}, Moved wr G s s' → (∀ b o, h0.get? b = some o → s.heap.get? b = some o) → ∀ b o, h0.get? b = some o → s'.heap.get? b = some o := fun mv k b o e =>
    mv.heap b o (fun z => by rw [hw0 b z] at e; cases e) (k b o e)
  induction m with
  | zero =>
    intro i s L es ep t hi hst hkp R U hR
    have hi : i = ks.length := by omega
    subst hi
    refine codeAny_builtin F.entry_set_update_loop ?_
    rw [Around.under_plainId F.plain_set_update_loop _]
    refine wpAny_bind (m := pyNext (.ref I)) (W.done s _ _ hst fun s' mv => ?_)
    have hkp' := still mv hkp
    exact wpAny_pure (hR s' L es ep t (mv.mono wider) (R.kept (fun o e => mv.heap S o apart e) fun p hp => key_kept (hk p (List.mem_of_mem_take (U.sub p hp))) hkp') U hkp')
  | succ m ih =>
    intro i s L es ep t hi hst hkp R U hR
    refine codeAny_builtin F.entry_set_update_loop ?_
    rw [Around.under_plainId F.plain_set_update_loop _]
    refine wpAny_bind (m := pyNext (.ref I)) (W.item i s _ _ (by omega) hst fun v s' hv hst' mv => ?_)
    obtain ⟨p, hp, rfl⟩ := hval i v hv
    have hkp' := still mv hkp
    have hx : IsTupleKey knd s'.heap p.2 p.1 := key_kept (hk p (List.mem_of_getElem? hp)) hkp'
    have R' : Of P w knd s'.heap S L es ep t := R.kept (fun o e => mv.heap S o apart e) fun q hq => key_kept (hk q (List.mem_of_mem_take (U.sub q hq))) hkp'
    refine wpAny_bind (m := holding [Value.ref p.1] (setAdd S (.ref p.1))) (wpAny_holding ?_)
    unfold setAdd
    refine wpAny_holding (wpAny_bind (wpAny_pyHash_tuple hu hx ?_))
    refine Of.add (s := { s' with toks := s'.toks + (p.2.length + 1) }) R' T hx hu (by have := U.len; omega) fun b h' L' es' ep' t' sb R2 c => ?_
    have kp2 : ∀ b o, h0.get? b = some o → h'.get? b = some o := fun b o e => (sb.2 b fun z => by rw [z, hS0] at e; cases e).trans (hkp' b o e)
    refine wpAny_pure ⟨plainId_quiet F.plain_set_update_loop _, ih (i + 1) _ L' es' ep' t' (by omega) (W.frame _ s' _ _ hst' (Nat.le_add_right _ _) fun b hb o e => ?_) kp2 R2 (U.next hp c) fun s2 L2 es2 ep2 t2 mv2 R3 U3 kp3 => ?_⟩
    · rw [sb.2 b fun z => hSf (z ▸ hb)]
      exact e
    · refine hR s2 L2 es2 ep2 t2 (Moved.trans W.gtrans ((mv.mono wider).then_heap (Nat.le_add_right _ _) fun b o hb e => ?_) mv2) R3 U3 kp3
      rw [sb.2 b fun z => hb (by rw [z]; exact List.mem_cons_self ..)]
      exact e
theorem set_tup (T : Plain knd) {l : Addr} {items : Array Value} (ks : List (Addr × List K)) {R2 : Value → Shared → Prop} (hh : A.handled = none) (hl : s.heap.IsTuple l items) (hit : items.toList = ks.map fun p => Value.ref p.1)
    (hk : ∀ p ∈ ks, IsTupleKey knd s.heap p.2 p.1) (hfew : ks.length ≤ 76) (hu : A.units + 3 < cLine)
    (hR : ∀ (h' : Heap) (tk : Nat) L es ep t, Of P w knd h' s.heap.objs.size L es ep t → Upto ks ks.length L → (∀ b o, s.heap.get? b = some o → h'.get? b = some o) → R2 (.ref s.heap.objs.size) { s with heap := h', toks := tk }) :
    wpAny (model P w) A (call (.type "set") [.ref l]) R2 E s := by
  have hisz : items.size = ks.length := by rw [← Array.length_toList, hit, List.length_map]
  obtain ⟨c, tl, hmro⟩ := F.called_set.mro
  have made := F.called_set.made
  have isub := F.called_set.sub
  have f1 := F.called_set.notType
  have f2 := F.called_set.canCreate
  have f3 := F.typeCall_set_1 (.ref l)
  refine wpAny_call (codeAny_of_tree ?_)
  refine wpAny_pure ⟨Code.quiet_builtin _ (by decide +kernel), codeAny_builtin F.entry_type_call ?_⟩
  rw [Around.under_plain (weight_type_call_type "set" [.ref l] []) rfl]
  repeat (any_goals (first | assumption | wp_step))
  refine codeAny_mono (code_set_led1 (.ref l) (E := E) (Q₁ := fun x s1 => x = .ref s.heap.objs.size ∧ s1 = { s with heap := s.heap.push (bare w) }) ⟨rfl, rfl⟩) fun r s1 hr => ?_
  match r, hr with
  | .error e, hr => exact hr
  | .ok (.ret obj), hr =>
    obtain ⟨rfl, rfl⟩ := hr
    have hS : (s.heap.push (bare w)).get? s.heap.objs.size = some (bare w) := Heap.get?_push_size _ rfl
    have ty : Shared.TypeIs { s with heap := s.heap.push (bare w) } (.ref s.heap.objs.size) "set" := ⟨_, hS, rfl⟩
    have i1 := F.called_set.init.lookup
    have i2 := F.called_set.init.bind (.ref s.heap.objs.size)
    repeat (any_goals (first | assumption | wp_step))
    refine codeAny_mono (codeAny_call_builtin (R := wants (fun r s2 => r = .none ∧ ∃ h' tk L es ep t, s2 = { s with heap := h', toks := tk } ∧ Of P w knd h' s.heap.objs.size L es ep t ∧ Upto ks ks.length L ∧ (∀ b o, s.heap.get? b = some o → h'.get? b = some o)) E) F.called_set.init.plain F.entry_set_init (check_set_init_1 ty ?_)) fun r2 s2 hr2 => ?_
    · have new : ∀ b, s.heap.objs.size ≤ b → s.heap.get? b = none := fun b hb => by
        cases z : s.heap.get? b with
        | none => rfl
        | some o => exact absurd (Heap.lt_size z) (Nat.not_lt.mpr hb)
      obtain ⟨ol, hol, hcl, nl, hdl⟩ := hl
      have hls : l < s.heap.objs.size := Heap.lt_size hol
      have sz : (s.heap.push (bare w)).objs.size = s.heap.objs.size + 1 := Heap.size_push ..
      have hol1 : (s.heap.push (bare w)).get? l = some ol := Heap.get?_push_of_some _ hol
      have hl1 : (s.heap.push (bare w)).IsTuple l items := ⟨ol, hol1, hcl, nl, hdl⟩
      have keep1 : ∀ b o, s.heap.get? b = some o → (s.heap.push (bare w)).get? b = some o := fun b o e => Heap.get?_push_of_some _ e
      have s1 := F.sub_tuple_set
      have s2 := F.sub_tuple_frozenset
      have s3 : (Value.type "tuple" == Value.type "dict") = false := by decide
      generalize s.heap.push (bare w) = hp1 at hS ty sz hol1 hl1 keep1 ⊢
      obtain ⟨oc, od, oe, oss⟩ := ol
      simp only at hcl hdl
      subst hcl
      subst hdl
      unfold Builtin.«set.__init__» noKeywords Builtin.Frozenset.updateFrom
      generalize hit' : pyIter = walk
      wp_walk
      subst hit'
      refine wpAny_pyIter_tuple hl1 (wpAny_bind (wpAny_runValue ?_))
      have h3 : A.in1.in1.in1.handled = none := by simp [hh]
      have ne : l ≠ hp1.objs.size := by rw [sz]; exact Nat.ne_of_lt (Nat.lt_succ_of_lt hls)
      have W := (Walks.tuple (prog := P) (w := w) h3 hp1.objs.size l ne items).toS
      rw [hisz] at W
      refine fill T (h0 := s.heap) (ks := ks) W (fun z => ?_) hfew (fun i v hv => ?_) hk (new _ (Nat.le_refl _)) (fun b hb => new b (by rw [List.mem_singleton.mp hb, sz]; exact Nat.le_succ _)) hu ks.length 0 _ [] _ _ _ (Nat.zero_add _) ⟨⟨_, Heap.get?_push_size _ rfl, rfl, rfl⟩, hl1.push _⟩ (fun b o e => Heap.get?_push_of_some _ (keep1 b o e)) (Of.bare (Heap.get?_push_of_some _ hS)) ⟨fun p hp => absurd hp (List.not_mem_nil), fun p hp => by simp at hp, Nat.le_refl _⟩ fun s' L es ep t mv R' U kp => ?_
      · simp only [List.mem_cons, List.not_mem_nil, or_false] at z
        rcases z with z | z
        · rw [sz] at z; exact absurd z (Nat.ne_of_lt (Nat.lt_succ_self _))
        · exact absurd z (Nat.ne_of_gt hls)
      · have q : items.toList[i]? = some v := by rw [Array.getElem?_toList]; exact hv
        rw [hit, List.getElem?_map] at q
        cases e : ks[i]? with
        | none => rw [e] at q; cases q
        | some p => rw [e] at q; exact ⟨p, rfl, (Option.some.inj q).symm⟩
      · obtain ⟨h', g2, d', tk', os'⟩ := s'
        cases (show g2 = s.gens from mv.gens)
        cases (show d' = s.drawn from mv.drawn)
        cases (show os' = s.os from mv.os)
        exact wpAny_pure (wpAny_pure ⟨rfl, h', tk', L, es, ep, t, rfl, R', U, kp⟩)
    · match r2, hr2 with
      | .error e, hr2 => exact hr2
      | .ok (.ret r), hr2 =>
        obtain ⟨rfl, h', tk, L, es, ep, t, rfl, R', U, kp⟩ := hr2
        repeat (any_goals (first | assumption | wp_step))
        exact hR _ _ _ _ _ _ R' U kp
  | .ok .next, hr => exact hr.elim
theorem Upto.count {ks L : List (Addr × List K)} (U : Upto ks ks.length L) (hd : (L.map Prod.snd).Nodup) : L.length ≤ ks.length ∧ (L.length = ks.length ↔ (ks.map Prod.snd).Nodup) := by
  have sub : ∀ x ∈ L.map Prod.snd, x ∈ ks.map Prod.snd := fun x hx => by
    obtain ⟨p, hp, rfl⟩ := List.mem_map.mp hx
    exact List.mem_map.mpr ⟨p, List.mem_of_mem_take (U.sub p hp), rfl⟩
  have all : ∀ x ∈ ks.map Prod.snd, x ∈ L.map Prod.snd := fun x hx => by
    obtain ⟨p, hp, rfl⟩ := List.mem_map.mp hx
    exact U.all p (by rw [List.take_length]; exact hp)
  have grow : ∀ (xs ys : List (List K)), xs.Nodup → (∀ x ∈ xs, x ∈ ys) → xs.length ≤ ys.length := by
    intro xs
    induction xs with
    | nil => exact fun _ _ _ => Nat.zero_le _
    | cons x xs ih =>
      intro ys hn hs
      obtain ⟨n1, n2⟩ := List.nodup_cons.mp hn
      have h1 := hs x (List.mem_cons_self ..)
      have h2 := ih (ys.erase x) n2 fun y hy => (List.mem_erase_of_ne fun e => n1 (by rw [← e]; exact hy)).mpr (hs y (List.mem_cons_of_mem _ hy))
      rw [List.length_erase_of_mem h1] at h2
      have := List.length_pos_of_mem h1
      rw [List.length_cons]
      omega
  refine ⟨U.len, fun e => ?_, fun hn => ?_⟩
  · -- a second time would make it shorter
    have short : ∀ ys : List (List K), ¬ ys.Nodup → ∃ zs : List (List K), zs.length < ys.length ∧ ∀ x ∈ ys, x ∈ zs := by
      intro ys
      induction ys with
      | nil => exact fun h => absurd List.nodup_nil h
      | cons y ys ih =>
        intro h
        by_cases c : y ∈ ys
        · exact ⟨ys, Nat.lt_succ_self _, fun x hx => (List.mem_cons.mp hx).elim (fun e => e ▸ c) id⟩
        · obtain ⟨zs, z1, z2⟩ := ih fun hn => h (List.nodup_cons.mpr ⟨c, hn⟩)
          exact ⟨y :: zs, Nat.succ_lt_succ z1, fun x hx => (List.mem_cons.mp hx).elim (fun e => e ▸ List.mem_cons_self ..) fun z => List.mem_cons_of_mem _ (z2 x z)⟩
    rcases Classical.em (ks.map Prod.snd).Nodup with c | c
    · exact c
    · obtain ⟨zs, z1, z2⟩ := short _ c
      have := grow (L.map Prod.snd) zs hd fun x hx => z2 x (sub x hx)
      rw [List.length_map] at this z1
      omega
  · have := grow (ks.map Prod.snd) (L.map Prod.snd) hn all
    rw [List.length_map, List.length_map] at this
    exact Nat.le_antisymm U.len this
end ST
namespace DL
open PySem PySem.Spec L2
variable {X : Cx} {W : WC}
theorem refs_at : ∀ {ps : List (Addr × List Key)} {us : List Value}, Vals (ps.map fun p => V.ref p.1) us → us = ps.map fun p => Value.ref p.1
  | [], _, .nil => rfl
  | p :: ps, _, .cons r t => by
    cases r
    rw [refs_at t]
    rfl
def tupsL : List PyData → Option (List (List Key))
  | [] => some []
  | .tuple ds :: r => match keyL ds, tupsL r with
    | some k, some ks => some (k :: ks)
    | _, _ => none
  | _ => none
theorem tups_at {K : PySem.W.Frag} {F : Hp} : ∀ {vs : List V} {ds : List PyData} {kss : List (List Key)}, AtL K F vs ds → tupsL ds = some kss → ∃ ps : List (Addr × List Key), vs = ps.map (fun p => V.ref p.1) ∧ ps.map Prod.snd = kss ∧ ∀ p ∈ ps, F p.1 = some (.tup (p.2.map kV))
  | [], _, kss, .nil, e => by cases e; exact ⟨[], rfl, rfl, fun p hp => absurd hp (List.not_mem_nil)⟩
  | v :: vs, d :: ds, kss, .cons h t, e => by
    cases d with
    | tuple xs =>
      unfold tupsL at e
      split at e
      · rename_i k ks e1 e2
        cases e
        obtain ⟨ps, rfl, rfl, hp⟩ := tups_at t e2
        cases h with
        | tup hs ha =>
          rename_i b ws
          rw [key_at ha e1] at hs
          exact ⟨(b, k) :: ps, rfl, rfl, fun p hm => (List.mem_cons.mp hm).elim (fun z => by rw [z]; exact hs) (hp p)⟩
      · cases e
    | _ => unfold tupsL at e; cases e
end DL
namespace DL
open PySem PySem.Spec L2
variable {X : Cx} {W : WC}
theorem perm_sub {α : Type} [DecidableEq α] : ∀ {xs L : List α}, xs.Nodup → (∀ x ∈ xs, x ∈ L) → L.length ≤ xs.length → xs.Perm L
  | [], L, _, _, h => by
    cases L with
    | nil => exact .refl _
    | cons _ _ => simp at h
  | x :: xs, L, hn, hs, h => by
    have h1 := List.nodup_cons.mp hn
    have hx := hs x (by simp)
    have hp := List.length_pos_of_mem hx
    have := perm_sub (L := L.erase x) h1.2 (fun y hy => (List.mem_erase_of_ne (fun e : y = x => h1.1 (e ▸ hy))).mpr (hs y (by simp [hy]))) (by
      rw [List.length_erase_of_mem hx]
      simp only [List.length_cons] at h
      omega)
    exact (this.cons x).trans (List.perm_cons_erase hx).symm
end DL
namespace SK
open PySem PySem.Spec PyProof.Rows L2
open ST (stp stp_add nth_nd stp_nd fits_of range_back)
variable {P : Program} {w : World} {K : Type} [DecidableEq K] {knd : HeapKind P w K} {A : Around} {E : Value → Shared → Prop} {s : Shared}
structure Plain (knd : HeapKind P w K) : Prop where
  cls : ∀ {A : Around} {E : Value → Shared → Prop} {s : Shared} {k : K} {b : Addr} {R : Bool → Shared → Prop}, knd.is s.heap k b → R false s → wpAny (model P w) A (ofAClassStatement 8 (.ref b)) R E s
  val : ∀ {A : Around} {E : Value → Shared → Prop} {s : Shared} {k : K} {b : Addr} {R : Bool → Shared → Prop}, knd.is s.heap k b → (∀ f, R f s) → wpAny (model P w) A (hashByValue 8 (.ref b)) R E s
  stays : ∀ {h h' : Heap} {k : K} {a : Addr}, (∀ b o vs n, h.get? b = some o → o.data = .seq vs n → h'.get? b = some o) → knd.is h k a → knd.is h' k a
  room : ∀ {A : Around}, A.units + 8 < cLine → knd.room A
theorem by_value (T : Plain knd) {ks : K} {b : Addr} {R : Bool → Shared → Prop} (hk : knd.is s.heap ks b) (hR : ∀ f, R f s) : wpAny (model P w) A (hashByValue 8 (.ref b)) R E s := T.val hk hR
theorem cls_no (T : Plain knd) {ks : K} {b : Addr} {R : Bool → Shared → Prop} (hk : knd.is s.heap ks b) (hR : R false s) : wpAny (model P w) A (ofAClassStatement 8 (.ref b)) R E s := T.cls hk hR
theorem unseen (T : Plain knd) {ks : K} {b : Addr} {R : Bool → Shared → Prop} (hk : knd.is s.heap ks b) {ys : List Value} (hy : ∀ y ∈ ys, ∃ c js, y = Value.ref c ∧ knd.is s.heap js c) (hR : R false s) :
    wpAny (model P w) A (searchCouldBeSeen (.ref b) ys) R E s := by
  unfold searchCouldBeSeen
  refine wpAny_bind ?_
  refine wpAny_forIn_list _ (fun left st s1 => (st.1 = none ∧ s1 = s) ∧ ∀ y ∈ left, ∃ c js, y = Value.ref c ∧ knd.is s.heap js c) _ (fun v left st s1 ⟨⟨e1, e2⟩, hv⟩ => ?_) (fun st s1 ⟨⟨e1, e2⟩, _⟩ => ?_) _ _ ⟨⟨rfl, rfl⟩, hy⟩
  · subst e2
    obtain ⟨c, js, rfl, hc⟩ := hv v (List.mem_cons_self ..)
    have more : ∀ y ∈ left, ∃ c js, y = Value.ref c ∧ knd.is s1.heap js c := fun x hx => hv x (List.mem_cons_of_mem _ hx)
    dsimp only
    rcases Bool.eq_false_or_eq_true (b == c || (carriedByValue (.ref b) && carriedByValue (.ref c))) with hq | hq
    · exact wp_if_pos hq (wpAny_pure ⟨⟨rfl, rfl⟩, more⟩)
    · refine wp_if_neg (by rw [hq]; exact Bool.false_ne_true) ?_
      refine wpAny_bind (knd.quiet hk ?_)
      simp only [Bool.not_true, Bool.false_eq_true, if_false]
      refine wpAny_bind (knd.quiet hc ?_)
      simp only [Bool.not_true, Bool.false_eq_true, if_false]
      refine wpAny_bind (cls_no T hk ?_)
      simp only [Bool.false_eq_true, if_false]
      refine wpAny_bind (cls_no T hc ?_)
      simp only [Bool.false_eq_true, if_false]
      exact wpAny_pure ⟨⟨rfl, rfl⟩, more⟩
  · subst e2
    obtain ⟨st1, st2⟩ := st
    have e1 : st1 = none := e1
    subst e1
    exact wpAny_pure hR
structure Of (P : Program) (w : World) (knd : HeapKind P w K) (h : Heap) (a : Addr) (L : List (Addr × K)) (es : Array (Int × Value)) (ep : Nat) (t : SetTable) : Prop where
  obj : ∃ o, h.get? a = some o ∧ o.ExactSet ∧ o.data = .set es ep t
  ent : es.toList = L.map fun p => (knd.hash p.2, Value.ref p.1)
  lay : TabOk t (L.map fun p => knd.hash p.2)
  dif : (L.map Prod.snd).Nodup
  key : ∀ p ∈ L, knd.is h p.2 p.1
  spare : L.length * 5 < t.mask * 3
  led : w.params.followText "set-order" = true ∨ t.led = true
  small : L.length ≤ 76
section
variable {a : Addr} {L : List (Addr × K)} {es : Array (Int × Value)} {ep : Nat} {t : SetTable}
theorem ent_size (h : es.toList = L.map fun p => (knd.hash p.2, Value.ref p.1)) : es.size = L.length := by
  rw [← Array.length_toList, h, List.length_map]
theorem ent_at (h : es.toList = L.map fun p => (knd.hash p.2, Value.ref p.1)) {i : Nat} {p : Addr × K} (e : L[i]? = some p) : es[i]? = some (knd.hash p.2, Value.ref p.1) := by
  rw [← Array.getElem?_toList, h, List.getElem?_map, e]
  rfl
theorem fits_of (h : t.place.size = es.size) (hd : t.dummies = #[]) (hm : es.size ≤ t.mask) : t.fits es.size = true := by
  unfold SetTable.fits SetTable.fill
  simp only [hd, Bool.and_eq_true, beq_iff_eq, decide_eq_true_eq]
  exact ⟨h, by show t.place.size + 0 ≤ _; omega⟩
theorem Of.psz (R : Of P w knd s.heap a L es ep t) : t.place.size = es.size := by
  rw [R.lay.sz, List.length_map, ent_size R.ent]
theorem Of.fits (R : Of P w knd s.heap a L es ep t) : t.fits es.size = true := fits_of R.psz R.lay.dm (by
  have := R.spare
  rw [ent_size R.ent]
  omega)
theorem Of.spot (R : Of P w knd s.heap a L es ep t) {i j : Nat} (h : t.place.toList[i]? = some j) : ∃ p, L[i]? = some p ∧ p ∈ L := by
  have h1 : i < t.place.toList.length := (List.getElem?_eq_some_iff.mp h).1
  rw [Array.length_toList, R.psz, ent_size R.ent] at h1
  exact ⟨L[i], List.getElem?_eq_getElem h1, List.getElem_mem h1⟩
theorem Of.seek (R : Of P w knd s.heap a L es ep t) (T : Plain knd) {x : Addr} {k : K} (hx : knd.is s.heap k x) (hu : A.units + 8 < cLine) {F : Nat} (hF : F < 10 * SetTable.turns t.mask)
    (free : way t.mask (knd.hash k) F ∉ t.place.toList) (busy : ∀ c, c < F → way t.mask (knd.hash k) c ∈ t.place.toList) {R2 : SetFound → Shared → Prop}
    (yes : k ∈ L.map Prod.snd → R2 (.there none) s) (no : k ∉ L.map Prod.snd → R2 (.free (way t.mask (knd.hash k) F) false) s) (fuel : Nat) :
    ∀ (c : Nat) (st : Option SetTable.Probe), st.getD (t.probeStart (knd.hash k)) = stp t.mask (knd.hash k) c → c ≤ F → F < fuel + c →
      (∀ (i : Nat) p, L[i]? = some p → p.2 = k → ∃ d, c ≤ d ∧ d < F ∧ t.place.toList[i]? = some (way t.mask (knd.hash k) d)) →
      wpAny (model P w) A (setSearchFrom a (.ref x) (knd.hash k) true fuel st) R2 E s := by
  induction fuel with
  | zero => exact fun c st _ h1 h2 _ => absurd h2 (by omega)
  | succ fuel ih =>
    intro c st hst hc hf hre
    obtain ⟨o, ho, -, hd⟩ := R.obj
    have gw : ¬ t.gaveWay = true := by
      unfold SetTable.gaveWay
      rw [mask_odd R.lay.mok]
      decide
    have hashes : ∀ (i : Nat) p, L[i]? = some p → ((es[i]?.map (·.1)).getD 0 : Int) = knd.hash p.2 := fun i p hp => by rw [ent_at R.ent hp]; rfl
    have spec := go_spec t R.lay.ris R.lay.dm (fun i => (es[i]?.map (·.1)).getD 0) (knd.hash k) (10 * SetTable.turns t.mask) (F - c) (stp t.mask (knd.hash k) c) stp_nd (by omega)
      (fun q hq => by rw [stp_add]; exact busy (c + q) (by omega)) (by rw [stp_add, show c + (F - c) = F by omega]; exact free)
    -- what is passed over isn't the tuple
    have past : ∀ (z : Nat), (∀ (k' i' : Nat), k' < z → t.place.toList[i']? = some (nth t.mask (stp t.mask (knd.hash k) c) k').j → (fun (i : Nat) => ((es[i]?.map (·.1)).getD 0 : Int)) i' ≠ knd.hash k) → ∀ (i : Nat) (p : Addr × K) (d : Nat), L[i]? = some p → p.2 = k → c ≤ d → d < c + z → t.place.toList[i]? ≠ some (way t.mask (knd.hash k) d) := fun z hz i p d hp hpk h1 h2 e => by
      refine hz (d - c) i (by omega) ?_ ?_
      · rw [stp_add, show c + (d - c) = d by omega]
        exact e
      · exact (hashes i p hp).trans (by rw [hpk])
    rw [setSearchFrom_succ]
    refine wpAny_bind (wpAny_setState_of ho hd R.fits ?_)
    dsimp only
    refine wp_if_neg gw ?_
    try refine wpAny_bind (wpAny_pure ?_)
    rw [hst]
    rcases spec with ⟨q, i, hq, hi, -, hno, hpr⟩ | ⟨hno, hpr⟩
    · rw [stp_add] at hi
      have hpr : t.probe (fun i => (es[i]?.map (·.1)).getD 0) (knd.hash k) (stp t.mask (knd.hash k) c) = some (.candidate (way t.mask (knd.hash k) (c + q)) i (stp t.mask (knd.hash k) (c + (q + 1)))) := by
        rw [stp_add, stp_add] at hpr
        exact hpr
      rw [hpr]
      dsimp only
      obtain ⟨p, hp, hpm⟩ := R.spot hi
      have go : wpAny (model P w) A (searchRest a (.ref x) (knd.hash k) true fuel es t (way t.mask (knd.hash k) (c + q)) i (stp t.mask (knd.hash k) (c + (q + 1)))) R2 E s := by
        unfold searchRest
        rw [ent_at R.ent hp]
        dsimp only
        refine wpAny_bind (wpAny_holding (knd.eqBool (T.room hu) (R.key p hpm) hx ?_))
        refine wpAny_bind (wpAny_setState_of ho hd R.fits ?_)
        dsimp only
        by_cases same : p.2 = k
        · exact wp_if_pos (by simp [same]) (wpAny_pure (yes (List.mem_map.mpr ⟨p, hpm, same⟩)))
        · refine wp_if_neg (by simp [same]) ?_
          try refine wpAny_bind (wpAny_pure ?_)
          rw [sameMem]
          dsimp only
          have live : t.slot (way t.mask (knd.hash k) (c + q)) = .live i := slot_live R.lay.ris hi
          simp only [if_true, live, ent_at R.ent hp]
          refine wpAny_bind (wpAny_isSame_ref_self (wpAny_bind (wpAny_pure ?_)))
          simp only [if_true]
          refine wp_if_neg (by simp [same]) ?_
          refine ih (c + (q + 1)) _ rfl (by omega) (by omega) fun i0 p0 h0 hk0 => ?_
          obtain ⟨d, d1, d2, d3⟩ := hre i0 p0 h0 hk0
          have n1 : ¬ d < c + q := fun z => past q hno i0 p0 d h0 hk0 d1 z d3
          have n2 : d ≠ c + q := fun z => by
            have l0 := slot_live R.lay.ris d3
            rw [z, live] at l0
            injection l0 with l0
            rw [← l0, hp] at h0
            exact same (Option.some.inj h0 ▸ hk0)
          exact ⟨d, by omega, d2, d3⟩
      by_cases hl : t.led = true
      · refine wp_if_neg (by simp [hl]) ?_
        try refine wpAny_bind (wpAny_pure ?_)
        exact go
      · refine wp_if_pos (by simp [hl]) ?_
        refine wpAny_bind (unseen T hx (fun y hy => ?_) ?_)
        · obtain ⟨e, he, rfl⟩ := List.mem_map.mp hy
          have he : e ∈ es.toList := by
            have : e ∈ es ∧ e.1 = knd.hash k := by simpa using he
            simpa using this.1
          rw [R.ent] at he
          obtain ⟨p2, hp2, rfl⟩ := List.mem_map.mp he
          exact ⟨p2.1, p2.2, rfl, R.key p2 hp2⟩
        · refine wp_if_neg (by decide) ?_
          try refine wpAny_bind (wpAny_pure ?_)
          exact go
    · have hpr : t.probe (fun i => (es[i]?.map (·.1)).getD 0) (knd.hash k) (stp t.mask (knd.hash k) c) = some (.empty (way t.mask (knd.hash k) F) none) := by
        rw [stp_add, show c + (F - c) = F by omega] at hpr
        exact hpr
      rw [hpr]
      dsimp only
      refine wpAny_pure (no fun hm => ?_)
      obtain ⟨p0, h0, hk0⟩ := List.mem_map.mp hm
      obtain ⟨i0, hi0, e0⟩ := List.getElem_of_mem h0
      have h00 : L[i0]? = some p0 := by rw [List.getElem?_eq_getElem hi0, e0]
      obtain ⟨d, d1, d2, d3⟩ := hre i0 p0 h00 hk0
      exact past (F - c) hno i0 p0 d h00 hk0 d1 (by omega) d3
theorem Of.search (R : Of P w knd s.heap a L es ep t) (T : Plain knd) {x : Addr} {k : K} (hx : knd.is s.heap k x) (hu : A.units + 8 < cLine) {R2 : SetFound → Shared → Prop}
    (yes : k ∈ L.map Prod.snd → R2 (.there none) s)
    (no : ∀ F, k ∉ L.map Prod.snd → way t.mask (knd.hash k) F ∉ t.place.toList → (∀ c, c < F → way t.mask (knd.hash k) c ∈ t.place.toList) → R2 (.free (way t.mask (knd.hash k) F) false) s) :
    wpAny (model P w) A (setSearch a (.ref x) (knd.hash k) true) R2 E s := by
  have hsp := R.spare
  obtain ⟨F, f1, f2, f3⟩ := R.lay.first (by rw [List.length_map]; omega) (knd.hash k)
  have hbig : 10 * SetTable.turns t.mask ≤ 1420 := by
    unfold SetTable.turns
    rcases R.lay.mok with e | e | e <;> omega
  unfold setSearch
  refine R.seek T hx hu f1 f2 f3 yes (fun hn => no F hn f2 f3) 100000 0 none rfl (Nat.zero_le _) (by omega) fun i p hp hpk => ?_
  have hh : (L.map fun p => knd.hash p.2)[i]? = some (knd.hash k) := by rw [List.getElem?_map, hp, ← hpk]; rfl
  have hil : i < t.place.toList.length := by
    rw [Array.length_toList, R.psz, ent_size R.ent]
    exact (List.getElem?_eq_some_iff.mp hp).1
  obtain ⟨d, d1, d2⟩ := R.lay.before f2 hh (List.getElem?_eq_getElem hil)
  exact ⟨d, Nat.zero_le _, d1, by rw [d2]; exact List.getElem?_eq_getElem hil⟩
theorem range_back (L : List (Addr × K)) : ∀ n, n ≤ L.length → (List.range n).filterMap (fun i => L[i]?) = L.take n
  | 0, _ => rfl
  | n + 1, h => by
    have e : L[n]? = some (L[n]'h) := List.getElem?_eq_getElem h
    rw [List.range_succ, List.filterMap_append, range_back L n (Nat.le_of_succ_le h), List.take_add_one, e]
    congr 1
    simp [e]
theorem moved (h : es.toList = L.map fun p => (knd.hash p.2, Value.ref p.1)) {order : Array Nat} (hp : order.toList.Perm (List.range L.length)) : ∃ L2 : List (Addr × K), (order.filterMap (es[·]?)).toList = (L2.map fun p => (knd.hash p.2, Value.ref p.1)) ∧ L2.Perm L ∧
    (order.toList.map fun i => (es.map (·.1)).getD i 0) = L2.map fun p => knd.hash p.2 := by
  have at' : ∀ i : Nat, es[i]? = (L[i]?).map fun (p : Addr × K) => (knd.hash p.2, Value.ref p.1) := fun i => by rw [← Array.getElem?_toList, h, List.getElem?_map]
  refine ⟨order.toList.filterMap fun i => L[i]?, ?_, ?_, ?_⟩
  · rw [Array.toList_filterMap, List.map_filterMap]
    congr 1
    funext i
    exact at' i
  · have := hp.filterMap fun i => L[i]?
    rw [range_back L L.length (Nat.le_refl _), List.take_length] at this
    exact this
  · have below : ∀ i ∈ order.toList, i < L.length := fun i hi => List.mem_range.mp (hp.mem_iff.mp hi)
    clear hp
    generalize order.toList = l at below
    induction l with
    | nil => rfl
    | cons i l ih =>
      have hi := below i (List.mem_cons_self ..)
      have e := List.getElem?_eq_getElem hi
      rw [List.map_cons, List.filterMap_cons, e, ih fun j hj => below j (List.mem_cons_of_mem _ hj)]
      dsimp only
      rw [List.map_cons]
      congr 1
      rw [Array.getD_eq_getD_getElem?, Array.getElem?_map, at', e]
      rfl
theorem key_on (T : Plain knd) {h h' : Heap} {ks : K} {a b : Addr} {o : Obj} (hb : knd.is h ks b) (ho : h.get? a = some o) (hd : o.data = .set es ep t) (hs : Heap.SameBut a h h') : knd.is h' ks b :=
  T.stays (fun c u vs n e hc => (hs.2 c fun z => by
    rw [z, ho] at e
    cases Option.some.inj e
    rw [hd] at hc
    cases hc).trans e) hb
structure Near (P : Program) (w : World) (knd : HeapKind P w K) (h : Heap) (a : Addr) (L : List (Addr × K)) (es : Array (Int × Value)) (ep : Nat) (t : SetTable) : Prop where
  obj : ∃ o, h.get? a = some o ∧ o.ExactSet ∧ o.data = .set es ep t
  ent : es.toList = L.map fun p => (knd.hash p.2, Value.ref p.1)
  lay : TabOk t (L.map fun p => knd.hash p.2)
  dif : (L.map Prod.snd).Nodup
  key : ∀ p ∈ L, knd.is h p.2 p.1
  led : w.params.followText "set-order" = true ∨ t.led = true
  small : L.length ≤ 76
  in_ : L.length ≤ t.mask
theorem Near.relay (R : Near P w knd s.heap a L es ep t) (T0 : Plain knd) {wanted M : Nat} (hw : SetTable.sizeAbove wanted - 1 = M) (hM : MaskOk M) (hn : L.length * 5 < M * 3) {R2 : Unit → Shared → Prop}
    (hR : ∀ h' L' es' ep' t', Heap.SameBut a s.heap h' → Of P w knd h' a L' es' ep' t' → L'.Perm L → R2 () { s with heap := h' }) : wpAny (model P w) A (setRelay a wanted) R2 E s := by
  obtain ⟨o, ho, hex, hd⟩ := R.obj
  have n1 := ent_size R.ent
  have n2 := R.small
  have n3 : t.place.size = es.size := by rw [R.lay.sz, List.length_map, n1]
  have hM2 : M ≤ 127 := by rcases hM with e | e | e <;> omega
  obtain ⟨t', order, e1, e2, T, e3, e4, -, -⟩ := relaid_ok t (hs := es.map (·.1)) (wanted := wanted) hw hM (by rw [Array.size_map, n1]; omega)
  rw [Array.size_map, n1] at e2
  obtain ⟨L2, m1, m2, m3⟩ := moved R.ent e2
  rw [m3] at T
  have n4 : (order.filterMap (es[·]?)).size = es.size := by rw [ent_size m1, m2.length_eq, n1]
  rw [setRelay_eq]
  refine wpAny_bind (wpAny_setState_of ho hd (fits_of n3 R.lay.dm (by rw [n1]; exact R.in_)) ?_)
  dsimp only
  refine wp_if_neg (by rw [sizeLine_eq]; omega) ?_
  try refine wpAny_bind (wpAny_pure ?_)
  rw [e1]
  refine wpAny_bind ?_
  refine wp_if_neg (by rw [n4]; simp) ?_
  try refine wpAny_bind (wpAny_pure ?_)
  refine wpAny_pure ?_
  refine wpAny_storeSet_of ho hd ?_ (by rw [n4, n1, sizeLine_eq]; omega)
  have sb : Heap.SameBut a s.heap (s.heap.update a (Obj.putSet (order.filterMap (es[·]?)) t')) := Heap.SameBut.update ..
  exact hR _ L2 _ (ep + 1) t' sb ⟨⟨_, store_at ho hd, ⟨hex.1, hex.2.1, hex.2.2⟩, rfl⟩, m1, T, (m2.map Prod.snd).nodup_iff.mpr R.dif, fun p hp => key_on T0 (R.key p (m2.mem_iff.mp hp)) ho hd sb, by rw [m2.length_eq, e3]; exact hn, by rw [e4]; exact R.led, by rw [m2.length_eq]; exact n2⟩ m2
theorem Of.add (R : Of P w knd s.heap a L es ep t) (T : Plain knd) {x : Addr} {k : K} (hx : knd.is s.heap k x) (hu : A.units + 8 < cLine) (hs : L.length < 76) {R2 : Bool → Shared → Prop}
    (hR : ∀ b h' L' es' ep' t', Heap.SameBut a s.heap h' → Of P w knd h' a L' es' ep' t' → (k ∈ L.map Prod.snd ∧ L' = L ∨ k ∉ L.map Prod.snd ∧ L'.Perm ((x, k) :: L)) → R2 b { s with heap := h' }) :
    wpAny (model P w) A (setAddHashed a (.ref x) (knd.hash k)) R2 E s := by
  obtain ⟨o, ho, hex, hd⟩ := R.obj
  have hsp := R.spare
  have n1 := ent_size R.ent
  unfold setAddHashed
  refine wpAny_holding ?_
  rw [show (100000 : Nat) = 99999 + 1 from rfl, setAddHashedIn_succ]
  refine wpAny_bind (wpAny_setState_of ho hd R.fits ?_)
  dsimp only
  refine wp_if_neg (by simp [byScan, Value.scannable]) ?_
  try refine wpAny_bind (wpAny_pure ?_)
  refine wpAny_bind (R.search T hx hu (fun hm => ?_) fun F hm free busy => ?_)
  · exact wpAny_pure (hR false s.heap L es ep t (Heap.SameBut.refl a s.heap) R (.inl ⟨hm, rfl⟩))
  dsimp only
  refine wpAny_bind (wpAny_setState_of ho hd R.fits ?_)
  dsimp only
  obtain ⟨q1, q2, q3, q4, q5, -, -, -, q9⟩ := R.lay.put free busy
  generalize hpt : t.put (way t.mask (knd.hash k) F) = pt at q1 q3 q4 q5 q9 ⊢
  obtain ⟨t1, at1⟩ := pt
  dsimp only at q1 q3 q4 q5 q9 ⊢
  subst q1
  generalize SetTable.below t.place (way t.mask (knd.hash k) F) = p at q2 q3 ⊢
  have pm : (L.take p ++ (x, k) :: L.drop p).Perm ((x, k) :: L) := put_perm L p (x, k)
  have hin : (SetTable.insertAt es p (knd.hash k, Value.ref x)).toList = (L.take p ++ (x, k) :: L.drop p).map fun p => (knd.hash p.2, Value.ref p.1) := by
    rw [SetTable.toList_insertAt, R.ent, List.map_append, List.map_cons, List.map_take, List.map_drop]
  have lay1 : TabOk t1 ((L.take p ++ (x, k) :: L.drop p).map fun p => knd.hash p.2) := by
    rw [List.map_append, List.map_cons, List.map_take, List.map_drop]
    exact q3
  have hlen : (L.take p ++ (x, k) :: L.drop p).length = L.length + 1 := pm.length_eq
  have dif1 : ((L.take p ++ (x, k) :: L.drop p).map Prod.snd).Nodup := (pm.map Prod.snd).nodup_iff.mpr (List.nodup_cons.mpr ⟨hm, R.dif⟩)
  generalize L.take p ++ (x, k) :: L.drop p = L1 at pm hin lay1 hlen dif1
  have hes := ent_size hin
  generalize SetTable.insertAt es p (knd.hash k, Value.ref x) = es1 at hin hes ⊢
  rw [List.length_map] at q9
  -- whatever is known of the hash
  have rest : ∀ t2 : SetTable, t2.place = t1.place → t2.dummies = t1.dummies → t2.mask = t1.mask → t2.led = t1.led → t2.fill = t1.fill → t2.tooFull = t1.tooFull →
      wpAny (model P w) A (do
        storeSet a es1 t2
        if !false && t2.tooFull then setRelay a (SetTable.grown (es.size + 1))
        return true) R2 E s := fun t2 p1 p2 p3 p4 p5 p6 => by
    have lay2 : TabOk t2 (L1.map fun p => knd.hash p.2) := by
      obtain ⟨r1, r2, r3, r4, r5, r6⟩ := lay1
      exact ⟨by rw [p1]; exact r1, by rw [p2]; exact r2, by rw [p1]; exact r3, by rw [p3]; exact r4, by rw [p1, p3]; exact r5, by rw [p1, p3]; exact r6⟩
    refine wpAny_bind (wpAny_storeSet_of ho hd ?_ (by rw [hes, hlen, sizeLine_eq]; omega))
    have sb : Heap.SameBut a s.heap (s.heap.update a (Obj.putSet es1 t2)) := Heap.SameBut.update ..
    have ho1 := store_at (es' := es1) (t' := t2) ho hd
    generalize s.heap.update a (Obj.putSet es1 t2) = h1 at sb ho1 ⊢
    have key1 : ∀ p ∈ L1, knd.is h1 p.2 p.1 := fun p hp => (List.mem_cons.mp (pm.mem_iff.mp hp)).elim (fun e => by rw [e]; exact key_on T hx ho hd sb) fun hp => key_on T (R.key p hp) ho hd sb
    have led1 : w.params.followText "set-order" = true ∨ t2.led = true := by rw [p4, q5]; exact R.led
    have full : t2.tooFull = decide ((L.length + 1) * 5 ≥ t2.mask * 3) := by unfold SetTable.tooFull; rw [p5, q9]
    have mk := R.lay.mok
    by_cases hf : (L.length + 1) * 5 ≥ t2.mask * 3
    · have yes : (!false && t2.tooFull) = true := by rw [full, decide_eq_true hf]; rfl
      first
        | (refine wp_if_pos yes ?_; refine wpAny_bind ?_)
        | (refine wpAny_bind ?_; refine wp_if_pos yes ?_)
      rw [n1]
      have two : (t.mask = 7 ∧ L.length = 4) ∨ (t.mask = 31 ∧ L.length = 18) := by
        rw [p3, q4] at hf
        rcases mk with e | e | e <;> rw [e] at hf hsp <;> omega
      have N : Near P w knd h1 a L1 es1 (ep + 1) t2 := ⟨⟨_, ho1, ⟨hex.1, hex.2.1, hex.2.2⟩, rfl⟩, hin, lay2, dif1, key1, led1, by omega, by rw [hlen, p3, q4]; omega⟩
      have go : ∀ M, SetTable.sizeAbove (SetTable.grown (L.length + 1)) - 1 = M → MaskOk M → (L.length + 1) * 5 < M * 3 →
          wpAny (model P w) A (setRelay a (SetTable.grown (L.length + 1))) (fun _ s' => wpAny (model P w) A (pure true) R2 E s') E { s with heap := h1 } := fun M g1 g2 g3 =>
        Near.relay (s := { s with heap := h1 }) N T g1 g2 (by rw [hlen]; exact g3) fun h2 L2 es2 ep2 t3 sb2 R3 pm2 => wpAny_pure (hR true h2 L2 es2 ep2 t3 (sb.trans sb2) R3 (.inr ⟨hm, pm2.trans pm⟩))
      rcases two with ⟨_, e⟩ | ⟨_, e⟩
      · exact go 31 (by rw [e, size_20]) (.inr (.inl rfl)) (by omega)
      · exact go 127 (by rw [e, size_76]) (.inr (.inr rfl)) (by omega)
    · have noo : ¬ (!false && t2.tooFull) = true := by rw [full, decide_eq_false hf]; decide
      first
        | refine wp_if_neg noo ?_
        | (refine wpAny_bind ?_; refine wp_if_neg noo ?_; refine wpAny_pure ?_)
      exact wpAny_pure (hR true h1 L1 es1 (ep + 1) t2 sb ⟨⟨_, ho1, ⟨hex.1, hex.2.1, hex.2.2⟩, rfl⟩, hin, lay2, dif1, key1, by rw [hlen]; omega, led1, by omega⟩ (.inr ⟨hm, pm⟩))
  rcases Bool.eq_false_or_eq_true t1.plain with hp1 | hp1
  · first
      | (refine wp_if_pos hp1 (wpAny_bind (by_value T hx fun f => ?_)))
      | (refine wpAny_bind ?_; refine wp_if_pos hp1 ?_; refine by_value T hx fun f => ?_)
    cases f with
    | true => exact rest t1 rfl rfl rfl rfl rfl rfl
    | false => exact rest { t1 with plain := false } rfl rfl rfl rfl rfl rfl
  · first
      | (refine wp_if_neg (by rw [hp1]; exact Bool.false_ne_true) ?_)
      | (refine wpAny_bind ?_; refine wp_if_neg (by rw [hp1]; exact Bool.false_ne_true) ?_; refine wpAny_pure ?_)
    refine wpAny_bind (wpAny_pure ?_)
    exact rest t1 rfl rfl rfl rfl rfl rfl
end
def bare (w : World) : Obj := { cls := .type "set", dict := none, data := .set #[] 0 (.fresh 0 0 (!w.params.followText "set-order")) }
theorem Of.bare {h : Heap} {a : Addr} (ho : h.get? a = some (bare w)) : Of P w knd h a [] #[] 0 (.fresh 0 0 (!w.params.followText "set-order")) :=
  ⟨⟨_, ho, ⟨rfl, rfl, rfl⟩, rfl⟩, rfl, ⟨List.Pairwise.nil, rfl, rfl, .inl rfl, fun x hx => absurd hx (List.not_mem_nil), fun i h j hi => by simp at hi⟩, List.nodup_nil, fun p hp => absurd hp (List.not_mem_nil), by show 0 * 5 < 7 * 3; decide,
    by show _ ∨ (!w.params.followText "set-order") = true; cases w.params.followText "set-order" <;> simp, by show 0 ≤ 76; decide⟩
structure Upto (ks : List (Addr × K)) (i : Nat) (L : List (Addr × K)) : Prop where
  sub : ∀ p ∈ L, p ∈ ks.take i
  all : ∀ p ∈ ks.take i, p.2 ∈ L.map Prod.snd
  len : L.length ≤ i
theorem Upto.next {ks L L' : List (Addr × K)} {i : Nat} {p : Addr × K} (U : Upto ks i L) (h : ks[i]? = some p) (c : p.2 ∈ L.map Prod.snd ∧ L' = L ∨ p.2 ∉ L.map Prod.snd ∧ L'.Perm (p :: L)) : Upto ks (i + 1) L' := by
  have e : ks.take (i + 1) = ks.take i ++ [p] := by rw [List.take_add_one, h]; rfl
  rcases c with ⟨hm, rfl⟩ | ⟨-, pm⟩
  · refine ⟨fun q hq => by rw [e]; exact List.mem_append_left _ (U.sub q hq), fun q hq => ?_, Nat.le_succ_of_le U.len⟩
    rw [e] at hq
    exact (List.mem_append.mp hq).elim (U.all q) fun z => by rw [List.mem_singleton.mp z]; exact hm
  · refine ⟨fun q hq => ?_, fun q hq => ?_, by rw [pm.length_eq]; exact Nat.succ_le_succ U.len⟩
    · rw [e]
      exact (List.mem_cons.mp (pm.mem_iff.mp hq)).elim (fun z => List.mem_append_right _ (by rw [z]; exact List.mem_singleton_self _)) fun z => List.mem_append_left _ (U.sub q z)
    · rw [e] at hq
      rw [(pm.map Prod.snd).mem_iff]
      exact (List.mem_append.mp hq).elim (fun z => List.mem_cons_of_mem _ (U.all q z)) fun z => by rw [List.mem_singleton.mp z]; exact List.mem_cons_self ..
theorem key_kept (T : Plain knd) {h h' : Heap} {ks : K} {b : Addr} (hb : knd.is h ks b) (hk : ∀ c o, h.get? c = some o → h'.get? c = some o) : knd.is h' ks b :=
  T.stays (fun c u _ _ e _ => hk c u e) hb
theorem Of.kept {h h' : Heap} {a : Addr} {L : List (Addr × K)} {es : Array (Int × Value)} {ep : Nat} {t : SetTable} (R : Of P w knd h a L es ep t) (h1 : ∀ o, h.get? a = some o → h'.get? a = some o) (h2 : ∀ p ∈ L, knd.is h' p.2 p.1) : Of P w knd h' a L es ep t := by
  obtain ⟨o, ho, r⟩ := R.obj
  exact { R with obj := ⟨o, h1 o ho, r⟩, key := h2 }
theorem fill (T : Plain knd) {I S : Addr} {fp wr : List Addr} {G : Array GenState → Array GenState → Prop} {Pv : Nat → Value → Prop} {St : Nat → Shared → Prop} {Rs : Result → Shared → Prop} {ks : List (Addr × K)}
    (W : WalksS P w A.in1 I fp wr G ks.length Pv St) (hSf : S ∉ fp) (hfew : ks.length ≤ 76) (hval : ∀ i v, Pv i v → ∃ p, ks[i]? = some p ∧ v = .ref p.1)
    {h0 : Heap} (hk : ∀ p ∈ ks, knd.is h0 p.2 p.1) (hS0 : h0.get? S = none) (hw0 : ∀ b ∈ wr, h0.get? b = none) (hu : A.in1.units + 8 < cLine) (m : Nat) :
    ∀ (i : Nat) (s : Shared) (L : List (Addr × K)) (es : Array (Int × Value)) (ep : Nat) (t : SetTable), i + m = ks.length → St i s → (∀ b o, h0.get? b = some o → s.heap.get? b = some o) → Of P w knd s.heap S L es ep t → Upto ks i L →
      (∀ s' L es ep t, Moved (S :: wr) G s s' → Of P w knd s'.heap S L es ep t → Upto ks ks.length L → (∀ b o, h0.get? b = some o → s'.heap.get? b = some o) → Rs (.ok (.ret .none)) s') →
      codeAny (model P w) A (.builtin "set.update.loop" ⟨[.ref S, .ref I], []⟩) Rs s := by
  have apart : S ∉ wr := fun z => hSf (W.sub _ z)
  have wider : ∀ b ∈ wr, b ∈ S :: wr := fun b hb => List.mem_cons_of_mem _ hb
  have still : ∀ {s s' : Shared}, Moved wr G s s' → (∀ b o, h0.get? b = some o → s.heap.get? b = some o) → ∀ b o, h0.get? b = some o → s'.heap.get? b = some o := fun mv k b o e =>
    mv.heap b o (fun z => by rw [hw0 b z] at e; cases e) (k b o e)
  induction m with
  | zero =>
    intro i s L es ep t hi hst hkp R U hR
    have hi : i = ks.length := by omega
    subst hi
    refine codeAny_builtin F.entry_set_update_loop ?_
    rw [Around.under_plainId F.plain_set_update_loop _]
    refine wpAny_bind (m := pyNext (.ref I)) (W.done s _ _ hst fun s' mv => ?_)
    have hkp' := still mv hkp
    exact wpAny_pure (hR s' L es ep t (mv.mono wider) (R.kept (fun o e => mv.heap S o apart e) fun p hp => key_kept T (hk p (List.mem_of_mem_take (U.sub p hp))) hkp') U hkp')
  | succ m ih =>
    intro i s L es ep t hi hst hkp R U hR
    refine codeAny_builtin F.entry_set_update_loop ?_
    rw [Around.under_plainId F.plain_set_update_loop _]
    refine wpAny_bind (m := pyNext (.ref I)) (W.item i s _ _ (by omega) hst fun v s' hv hst' mv => ?_)
    obtain ⟨p, hp, rfl⟩ := hval i v hv
    have hkp' := still mv hkp
    have hx : knd.is s'.heap p.2 p.1 := key_kept T (hk p (List.mem_of_getElem? hp)) hkp'
    have R' : Of P w knd s'.heap S L es ep t := R.kept (fun o e => mv.heap S o apart e) fun q hq => key_kept T (hk q (List.mem_of_mem_take (U.sub q hq))) hkp'
    refine wpAny_bind (m := holding [Value.ref p.1] (setAdd S (.ref p.1))) (wpAny_holding ?_)
    unfold setAdd
    refine wpAny_holding (wpAny_bind (knd.pyHash (T.room hu) hx ?_))
    refine Of.add (s := { s' with toks := s'.toks + (knd.draws p.2) }) R' T hx hu (by have := U.len; omega) fun b h' L' es' ep' t' sb R2 c => ?_
    have kp2 : ∀ b o, h0.get? b = some o → h'.get? b = some o := fun b o e => (sb.2 b fun z => by rw [z, hS0] at e; cases e).trans (hkp' b o e)
    refine wpAny_pure ⟨plainId_quiet F.plain_set_update_loop _, ih (i + 1) _ L' es' ep' t' (by omega) (W.frame _ s' _ _ hst' (Nat.le_add_right _ _) fun b hb o e => ?_) kp2 R2 (U.next hp c) fun s2 L2 es2 ep2 t2 mv2 R3 U3 kp3 => ?_⟩
    · rw [sb.2 b fun z => hSf (z ▸ hb)]
      exact e
    · refine hR s2 L2 es2 ep2 t2 (Moved.trans W.gtrans ((mv.mono wider).then_heap (Nat.le_add_right _ _) fun b o hb e => ?_) mv2) R3 U3 kp3
      rw [sb.2 b fun z => hb (by rw [z]; exact List.mem_cons_self ..)]
      exact e
theorem set_tup (T : Plain knd) {l : Addr} {items : Array Value} (ks : List (Addr × K)) {R2 : Value → Shared → Prop} (hh : A.handled = none) (hl : s.heap.IsTuple l items) (hit : items.toList = ks.map fun p => Value.ref p.1)
    (hk : ∀ p ∈ ks, knd.is s.heap p.2 p.1) (hfew : ks.length ≤ 76) (hu : A.units + 11 < cLine)
    (hR : ∀ (h' : Heap) (tk : Nat) L es ep t, Of P w knd h' s.heap.objs.size L es ep t → Upto ks ks.length L → (∀ b o, s.heap.get? b = some o → h'.get? b = some o) → R2 (.ref s.heap.objs.size) { s with heap := h', toks := tk }) :
    wpAny (model P w) A (call (.type "set") [.ref l]) R2 E s := by
  have hisz : items.size = ks.length := by rw [← Array.length_toList, hit, List.length_map]
  obtain ⟨c, tl, hmro⟩ := F.called_set.mro
  have made := F.called_set.made
  have isub := F.called_set.sub
  have f1 := F.called_set.notType
  have f2 := F.called_set.canCreate
  have f3 := F.typeCall_set_1 (.ref l)
  refine wpAny_call (codeAny_of_tree ?_)
  refine wpAny_pure ⟨Code.quiet_builtin _ (by decide +kernel), codeAny_builtin F.entry_type_call ?_⟩
  rw [Around.under_plain (weight_type_call_type "set" [.ref l] []) rfl]
  repeat (any_goals (first | assumption | wp_step))
  refine codeAny_mono (code_set_led1 (.ref l) (E := E) (Q₁ := fun x s1 => x = .ref s.heap.objs.size ∧ s1 = { s with heap := s.heap.push (bare w) }) ⟨rfl, rfl⟩) fun r s1 hr => ?_
  match r, hr with
  | .error e, hr => exact hr
  | .ok (.ret obj), hr =>
    obtain ⟨rfl, rfl⟩ := hr
    have hS : (s.heap.push (bare w)).get? s.heap.objs.size = some (bare w) := Heap.get?_push_size _ rfl
    have ty : Shared.TypeIs { s with heap := s.heap.push (bare w) } (.ref s.heap.objs.size) "set" := ⟨_, hS, rfl⟩
    have i1 := F.called_set.init.lookup
    have i2 := F.called_set.init.bind (.ref s.heap.objs.size)
    repeat (any_goals (first | assumption | wp_step))
    refine codeAny_mono (codeAny_call_builtin (R := wants (fun r s2 => r = .none ∧ ∃ h' tk L es ep t, s2 = { s with heap := h', toks := tk } ∧ Of P w knd h' s.heap.objs.size L es ep t ∧ Upto ks ks.length L ∧ (∀ b o, s.heap.get? b = some o → h'.get? b = some o)) E) F.called_set.init.plain F.entry_set_init (check_set_init_1 ty ?_)) fun r2 s2 hr2 => ?_
    · have new : ∀ b, s.heap.objs.size ≤ b → s.heap.get? b = none := fun b hb => by
        cases z : s.heap.get? b with
        | none => rfl
        | some o => exact absurd (Heap.lt_size z) (Nat.not_lt.mpr hb)
      obtain ⟨ol, hol, hcl, nl, hdl⟩ := hl
      have hls : l < s.heap.objs.size := Heap.lt_size hol
      have sz : (s.heap.push (bare w)).objs.size = s.heap.objs.size + 1 := Heap.size_push ..
      have hol1 : (s.heap.push (bare w)).get? l = some ol := Heap.get?_push_of_some _ hol
      have hl1 : (s.heap.push (bare w)).IsTuple l items := ⟨ol, hol1, hcl, nl, hdl⟩
      have keep1 : ∀ b o, s.heap.get? b = some o → (s.heap.push (bare w)).get? b = some o := fun b o e => Heap.get?_push_of_some _ e
      have s1 := F.sub_tuple_set
      have s2 := F.sub_tuple_frozenset
      have s3 : (Value.type "tuple" == Value.type "dict") = false := by decide
      generalize s.heap.push (bare w) = hp1 at hS ty sz hol1 hl1 keep1 ⊢
      obtain ⟨oc, od, oe, oss⟩ := ol
      simp only at hcl hdl
      subst hcl
      subst hdl
      unfold Builtin.«set.__init__» noKeywords Builtin.Frozenset.updateFrom
      generalize hit' : pyIter = walk
      wp_walk
      subst hit'
      refine wpAny_pyIter_tuple hl1 (wpAny_bind (wpAny_runValue ?_))
      have h3 : A.in1.in1.in1.handled = none := by simp [hh]
      have ne : l ≠ hp1.objs.size := by rw [sz]; exact Nat.ne_of_lt (Nat.lt_succ_of_lt hls)
      have W := (Walks.tuple (prog := P) (w := w) h3 hp1.objs.size l ne items).toS
      rw [hisz] at W
      refine fill T (h0 := s.heap) (ks := ks) W (fun z => ?_) hfew (fun i v hv => ?_) hk (new _ (Nat.le_refl _)) (fun b hb => new b (by rw [List.mem_singleton.mp hb, sz]; exact Nat.le_succ _)) hu ks.length 0 _ [] _ _ _ (Nat.zero_add _) ⟨⟨_, Heap.get?_push_size _ rfl, rfl, rfl⟩, hl1.push _⟩ (fun b o e => Heap.get?_push_of_some _ (keep1 b o e)) (Of.bare (Heap.get?_push_of_some _ hS)) ⟨fun p hp => absurd hp (List.not_mem_nil), fun p hp => by simp at hp, Nat.le_refl _⟩ fun s' L es ep t mv R' U kp => ?_
      · simp only [List.mem_cons, List.not_mem_nil, or_false] at z
        rcases z with z | z
        · rw [sz] at z; exact absurd z (Nat.ne_of_lt (Nat.lt_succ_self _))
        · exact absurd z (Nat.ne_of_gt hls)
      · have q : items.toList[i]? = some v := by rw [Array.getElem?_toList]; exact hv
        rw [hit, List.getElem?_map] at q
        cases e : ks[i]? with
        | none => rw [e] at q; cases q
        | some p => rw [e] at q; exact ⟨p, rfl, (Option.some.inj q).symm⟩
      · obtain ⟨h', g2, d', tk', os'⟩ := s'
        cases (show g2 = s.gens from mv.gens)
        cases (show d' = s.drawn from mv.drawn)
        cases (show os' = s.os from mv.os)
        exact wpAny_pure (wpAny_pure ⟨rfl, h', tk', L, es, ep, t, rfl, R', U, kp⟩)
    · match r2, hr2 with
      | .error e, hr2 => exact hr2
      | .ok (.ret r), hr2 =>
        obtain ⟨rfl, h', tk, L, es, ep, t, rfl, R', U, kp⟩ := hr2
        repeat (any_goals (first | assumption | wp_step))
        exact hR _ _ _ _ _ _ R' U kp
  | .ok .next, hr => exact hr.elim
theorem Upto.count {ks L : List (Addr × K)} (U : Upto ks ks.length L) (hd : (L.map Prod.snd).Nodup) : L.length ≤ ks.length ∧ (L.length = ks.length ↔ (ks.map Prod.snd).Nodup) := by
  have sub : ∀ x ∈ L.map Prod.snd, x ∈ ks.map Prod.snd := fun x hx => by
    obtain ⟨p, hp, rfl⟩ := List.mem_map.mp hx
    exact List.mem_map.mpr ⟨p, List.mem_of_mem_take (U.sub p hp), rfl⟩
  have all : ∀ x ∈ ks.map Prod.snd, x ∈ L.map Prod.snd := fun x hx => by
    obtain ⟨p, hp, rfl⟩ := List.mem_map.mp hx
    exact U.all p (by rw [List.take_length]; exact hp)
  have grow : ∀ (xs ys : List K), xs.Nodup → (∀ x ∈ xs, x ∈ ys) → xs.length ≤ ys.length := by
    intro xs
    induction xs with
    | nil => exact fun _ _ _ => Nat.zero_le _
    | cons x xs ih =>
      intro ys hn hs
      obtain ⟨n1, n2⟩ := List.nodup_cons.mp hn
      have h1 := hs x (List.mem_cons_self ..)
      have h2 := ih (ys.erase x) n2 fun y hy => (List.mem_erase_of_ne fun e => n1 (by rw [← e]; exact hy)).mpr (hs y (List.mem_cons_of_mem _ hy))
      rw [List.length_erase_of_mem h1] at h2
      have := List.length_pos_of_mem h1
      rw [List.length_cons]
      omega
  refine ⟨U.len, fun e => ?_, fun hn => ?_⟩
  · -- a second time would make it shorter
    have short : ∀ ys : List K, ¬ ys.Nodup → ∃ zs : List K, zs.length < ys.length ∧ ∀ x ∈ ys, x ∈ zs := by
      intro ys
      induction ys with
      | nil => exact fun h => absurd List.nodup_nil h
      | cons y ys ih =>
        intro h
        by_cases c : y ∈ ys
        · exact ⟨ys, Nat.lt_succ_self _, fun x hx => (List.mem_cons.mp hx).elim (fun e => e ▸ c) id⟩
        · obtain ⟨zs, z1, z2⟩ := ih fun hn => h (List.nodup_cons.mpr ⟨c, hn⟩)
          exact ⟨y :: zs, Nat.succ_lt_succ z1, fun x hx => (List.mem_cons.mp hx).elim (fun e => e ▸ List.mem_cons_self ..) fun z => List.mem_cons_of_mem _ (z2 x z)⟩
    rcases Classical.em (ks.map Prod.snd).Nodup with c | c
    · exact c
    · obtain ⟨zs, z1, z2⟩ := short _ c
      have := grow (L.map Prod.snd) zs hd fun x hx => z2 x (sub x hx)
      rw [List.length_map] at this z1
      omega
  · have := grow (ks.map Prod.snd) (L.map Prod.snd) hn all
    rw [List.length_map, List.length_map] at this
    exact Nat.le_antisymm U.len this
section
variable {s : Shared} {A : Around} {E : Value → Shared → Prop}
mutual
theorem cls_key : ∀ (k : NestedKey) (v : Value) (n : Nat), NestedIs s.heap k v → k.depth ≤ n → ∀ R : Bool → Shared → Prop, R false s → wpAny (model P w) A (ofAClassStatement n v) R E s
  | .none, _, n, x, _, R, hR => by
    cases x
    rw [show ofAClassStatement n Value.none = pure false by cases n <;> rfl]
    exact wpAny_pure hR
  | .num i, _, n, x, _, R, hR => by
    cases x with
    | bool e =>
      rename_i b
      rw [show ofAClassStatement n (Value.bool b) = pure false by cases n <;> rfl]
      exact wpAny_pure hR
    | int _ t =>
      rw [ofAClass_int n i t]
      exact wpAny_pure hR
  | .text y, _, n, x, _, R, hR => by
    cases x with
    | text _ t =>
      rw [show ofAClassStatement n (Value.str y t) = pure false by cases n <;> rfl]
      exact wpAny_pure hR
  | .tup ks, _, n, x, hn, R, hR => by
    cases x with
    | tup hg hc hd hk =>
      rename_i a o vs m
      simp only [NestedKey.depth] at hn
      cases n with
      | zero => omega
      | succ n =>
      have all := cls_keys ks _ n hk (by omega)
      have ty : s.TypeIs (.ref a) "tuple" := ⟨_, hg, hc⟩
      have yes : (("tuple" : String) == "tuple") = true := by decide
      unfold ofAClassStatement
      refine wpAny_bind (wpAny_typeOf ty ?_)
      simp only [yes, if_true, Bool.not_true, Bool.false_eq_true, if_false]
      try refine wpAny_bind (wpAny_pure ?_)
      try simp only [Bool.not_true, Bool.false_eq_true, if_false]
      refine wpAny_bind (m := seqItems? (.ref a)) (wpAny_seqItems hg hd ?_)
      dsimp only
      refine wpAny_bind ?_
      show wpAny _ _ (forIn vs _ _) _ _ s
      rw [← Array.forIn_toList]
      refine wpAny_forIn_list _ (fun left st s1 => (st.1 = none ∧ s1 = s) ∧ ∀ v ∈ left, ∀ R : Bool → Shared → Prop, R false s → wpAny (model P w) A (ofAClassStatement n v) R E s) _ (fun v left st s1 ⟨⟨e1, e2⟩, hv⟩ => ?_) (fun st s1 ⟨⟨e1, e2⟩, _⟩ => ?_) _ _ ⟨⟨rfl, rfl⟩, all⟩
      · subst e2
        refine wpAny_bind (hv v (List.mem_cons_self ..) _ ?_)
        simp only [Bool.false_eq_true, if_false]
        exact wpAny_pure ⟨⟨rfl, rfl⟩, fun x hx => hv x (List.mem_cons_of_mem _ hx)⟩
      · subst e2
        obtain ⟨st1, st2⟩ := st
        have e1 : st1 = none := e1
        subst e1
        exact wpAny_pure hR
theorem cls_keys : ∀ (ks : List NestedKey) (vs : List Value) (n : Nat), NestedAll s.heap ks vs → NestedKey.depthAll ks ≤ n → ∀ v ∈ vs, ∀ R : Bool → Shared → Prop, R false s → wpAny (model P w) A (ofAClassStatement n v) R E s
  | [], _, n, x, _, v, hv => by cases x; cases hv
  | k :: ks, _, n, x, hn, v, hv => by
    cases x with
    | cons x1 x2 =>
      simp only [NestedKey.depthAll] at hn
      rcases List.mem_cons.mp hv with e | hv
      · rw [e]; exact cls_key k _ n x1 (by omega)
      · exact cls_keys ks _ n x2 (by omega) v hv
end
mutual
theorem val_key : ∀ (k : NestedKey) (v : Value) (n : Nat), NestedIs s.heap k v → ∀ R : Bool → Shared → Prop, (∀ f, R f s) → wpAny (model P w) A (hashByValue n v) R E s
  | .none, _, n, x, R, hR => by
    cases x
    rw [show hashByValue n Value.none = pure true by cases n <;> rfl]
    exact wpAny_pure (hR _)
  | .num i, _, n, x, R, hR => by
    cases x with
    | bool e =>
      rename_i b
      rw [show hashByValue n (Value.bool b) = pure true by cases n <;> rfl]
      exact wpAny_pure (hR _)
    | int _ t =>
      rw [hashBy_int n i t]
      exact wpAny_pure (hR _)
  | .text y, _, n, x, R, hR => by
    cases x with
    | text _ t =>
      rw [show hashByValue n (Value.str y t) = pure false by cases n <;> rfl]
      exact wpAny_pure (hR _)
  | .tup ks, _, n, x, R, hR => by
    cases x with
    | tup hg hc hd hk =>
      rename_i a o vs m
      cases n with
      | zero => exact wpAny_pure (hR _)
      | succ n =>
      have all := val_keys ks _ n hk
      have ty : s.TypeIs (.ref a) "tuple" := ⟨_, hg, hc⟩
      unfold hashByValue
      refine wpAny_bind (wpAny_specialOf ty F.slot_tuple_hash.lookup ?_)
      refine wpAny_bind (m := seqItems? (.ref a)) (wpAny_seqItems hg hd ?_)
      refine wpAny_bind ?_
      show wpAny _ _ (forIn vs _ _) _ _ s
      rw [← Array.forIn_toList]
      refine wpAny_forIn_list _ (fun left st s1 => (st.1 = none ∨ st.1 = some false) ∧ s1 = s ∧ ∀ v ∈ left, ∀ R : Bool → Shared → Prop, (∀ f, R f s) → wpAny (model P w) A (hashByValue n v) R E s) _ (fun v left st s1 ⟨e1, e2, hv⟩ => ?_) (fun st s1 ⟨e1, e2, _⟩ => ?_) _ _ ⟨.inl rfl, rfl, all⟩
      · subst e2
        refine wpAny_bind (hv v (List.mem_cons_self ..) _ fun f => ?_)
        cases f with
        | true =>
          simp only [Bool.not_true, Bool.false_eq_true, if_false]
          exact wpAny_pure ⟨.inl rfl, rfl, fun x hx => hv x (List.mem_cons_of_mem _ hx)⟩
        | false =>
          simp only [Bool.not_false, if_true]
          exact wpAny_pure (wpAny_pure (hR false))
      · subst e2
        obtain ⟨st1, st2⟩ := st
        have e1 : st1 = none ∨ st1 = some false := e1
        rcases e1 with rfl | rfl
        · exact wpAny_pure (hR true)
        · exact wpAny_pure (hR false)
theorem val_keys : ∀ (ks : List NestedKey) (vs : List Value) (n : Nat), NestedAll s.heap ks vs → ∀ v ∈ vs, ∀ R : Bool → Shared → Prop, (∀ f, R f s) → wpAny (model P w) A (hashByValue n v) R E s
  | [], _, n, x, v, hv => by cases x; cases hv
  | k :: ks, _, n, x, v, hv => by
    cases x with
    | cons x1 x2 =>
      rcases List.mem_cons.mp hv with e | hv
      · rw [e]; exact val_key k _ n x1
      · exact val_keys ks _ n x2 v hv
end
end
end SK
namespace SK
open PySem PySem.Spec PyProof.Rows L2
variable {P : Program} {w : World} {K : Type} [DecidableEq K] {knd : HeapKind P w K} {A : Around} {E : Value → Shared → Prop} {s : Shared}
end SK
namespace DL
open PySem PySem.Spec L2
variable {X : Cx} {W : WC}
mutual
def keyN : PyData → Option NestedKey
  | .none => some .none
  | .bool b => some (.num (if b = true then 1 else 0))
  | .int i => some (.num i)
  | .str x => some (.text x)
  | .tuple ds => (keyNs ds).map .tup
  | .list _ => none
  | .dict _ => none
def keyNs : List PyData → Option (List NestedKey)
  | [] => some []
  | d :: ds => match keyN d, keyNs ds with
    | some k, some ks => some (k :: ks)
    | _, _ => none
end
section
variable {K : PySem.W.Frag} {F H : Hp} {h : Heap} {P : Program} {w : World}
mutual
theorem nest_at (ok : HOk P w H h) (hF : Same F H) : ∀ (d : PyData) (v : V) (u : Value) (k : NestedKey), At K F v d → RelV v u → keyN d = some k → NestedIs h k u
  | .none, _, u, k, a, r, e => by
    cases a
    cases r
    unfold keyN at e; cases e; exact .none
  | .bool b, _, u, k, a, r, e => by
    cases a
    cases r
    unfold keyN at e; cases e; exact .bool rfl
  | .int i, _, u, k, a, r, e => by
    cases a
    obtain ⟨t, rfl⟩ := r
    unfold keyN at e; cases e; exact .int i t
  | .str x, _, u, k, a, r, e => by
    cases a
    obtain ⟨t, rfl⟩ := r
    unfold keyN at e; cases e; exact .text x t
  | .list ds, _, u, k, a, r, e => by unfold keyN at e; cases e
  | .dict ds, _, u, k, a, r, e => by unfold keyN at e; cases e
  | .tuple ds, _, u, k, a, r, e => by
    unfold keyN at e
    cases ek : keyNs ds with
    | none => rw [ek] at e; cases e
    | some ks =>
      rw [ek] at e
      cases e
      cases a with
      | tup hs ha =>
        rename_i b vs
        cases r
        obtain ⟨_, its, rv, o, h1, h2, n, h3⟩ := (show ObjOk P w H h b (.tup vs) from ok b _ (hF _ _ hs))
        exact .tup h1 h2 h3 (nest_ats ok hF ds vs its ks ha rv ek)
theorem nest_ats (ok : HOk P w H h) (hF : Same F H) : ∀ (ds : List PyData) (vs : List V) (us : List Value) (ks : List NestedKey), AtL K F vs ds → Vals vs us → keyNs ds = some ks → NestedAll h ks us
  | [], vs, us, ks, a, r, e => by
    cases a
    cases r
    unfold keyNs at e; cases e; exact .nil
  | d :: ds, vs, us, ks, a, r, e => by
    unfold keyNs at e
    cases e1 : keyN d with
    | none => rw [e1] at e; cases e
    | some k =>
      cases e2 : keyNs ds with
      | none => rw [e1, e2] at e; cases e
      | some kr =>
        rw [e1, e2] at e
        cases e
        cases a with
        | cons a1 a2 =>
          cases r with
          | cons r1 r2 => exact .cons (nest_at ok hF d _ _ _ a1 r1 e1) (nest_ats ok hF ds _ _ _ a2 r2 e2)
end
end
end DL
namespace DL
open PySem PySem.Spec L2 PySem.W
variable {X : Cx} {W : WC}
theorem each_perm {α β : Type} {Rl : α → β → Prop} {us out : List α} (h : out.Perm us) : ∀ {ds : List β}, EachIs Rl us ds → ∃ ds', ds'.Perm ds ∧ EachIs Rl out ds' := by
  induction h with
  | nil => intro ds e; exact ⟨ds, .refl _, e⟩
  | cons x _ ih =>
    intro ds e
    cases e with
    | cons e1 e2 =>
      obtain ⟨ds', p, q⟩ := ih e2
      exact ⟨_ :: ds', p.cons _, .cons e1 q⟩
  | swap x y l =>
    intro ds e
    cases e with
    | cons e1 e2 =>
      cases e2 with
      | cons e2 e3 => exact ⟨_, .swap _ _ _, .cons e2 (.cons e1 e3)⟩
  | trans _ _ ih1 ih2 =>
    intro ds e
    obtain ⟨d1, p1, q1⟩ := ih2 e
    obtain ⟨d2, p2, q2⟩ := ih1 q1
    exact ⟨d2, p2.trans p1, q2⟩
theorem upto_perm {K : Type} [DecidableEq K] {ks L : List (Addr × List K)} (U : ST.Upto ks ks.length L) (hd : (L.map Prod.snd).Nodup) (hn : (ks.map Prod.snd).Nodup) : L.Perm ks := by
  have h1 : L.Nodup := List.Pairwise.of_map Prod.snd (fun a b h e => h (by rw [e])) hd
  have h2 : ks.Nodup := List.Pairwise.of_map Prod.snd (fun a b h e => h (by rw [e])) hn
  have hc := (U.count hd).2.mpr hn
  refine perm_sub h1 (fun p hp => ?_) (by rw [hc]; exact Nat.le_refl _)
  have := U.sub p hp
  rw [List.take_length] at this
  exact this
def tSortSetU (K : PySem.W.Frag) (ta : TE) : TE := fun σ H Q => ta σ H fun x H1 => ∃ (l : Addr) (vs : List V) (ds : List PyData) (F : Hp) (kss : List (List Key)), x = V.ref l ∧ SqT K H1 l vs ∧ Same F H1 ∧ AtL K F vs ds ∧ tupsL ds = some kss ∧ kss.Nodup ∧ kss.length ≤ 76 ∧ SrtOk ds ∧
  ∀ ds' ys p, ds'.Perm ds → AtL K F ys (sortX ds') → H1 p = none → Q (.ref p) (upd H1 p (.lst ys))
theorem pe_sortSetU {a : Expr} {ta : TE} {p p2 q pos : Pos} (hc : X.calm = true) (cx : CtxU X) (hg : Gl X "sorted") (hm : X.mg "sorted" = none) (hg2 : Gl X "set") (hm2 : X.mg "set" = none) (ha : PE X a ta)
    (na : starEach [a] X.env = (false, eval a X.env) :: starEach [] X.env := by rfl) : PE X (.Call (.Name "sorted" p) [.Call (.Name "set" p2) [a] [] q] [] pos) (tSortSetU X.K ta) := by
  refine ⟨fun pins s σ H Q I h => PyProof.Rows.Call_ (ld_blt I hg hm (u := .builtin "sorted") (by decide +kernel) ?_)⟩
  refine PyProof.Rows.callWith_builtin1 (PyProof.Rows.args_cons ?_ rfl) rfl rfl
  refine PyProof.Rows.Call_ (ld_blt I hg2 hm2 PyProof.Rows.boot_set ?_)
  refine PyProof.Rows.callWith_type1 (PyProof.Rows.args_cons (thn (ha.run pins s σ H _ I h) fun v s1 ⟨x, H1, I1, r1, l, vs, ds, F, kss, ex, hq, hF, hat, hk, hnd, hn, hso, hQ⟩ => PyProof.Rows.args_nil ?_) na) na rfl
  subst ex
  cases r1
  obtain ⟨its, rv, pl, hz⟩ := I1.tuple hq
  have hu := cx.un
  have e := each_inX rv hat
  obtain ⟨ps, rfl, rfl, hp⟩ := tups_at hat hk
  rw [List.length_map] at hn
  have hits := refs_at rv
  refine ST.set_tup ST.plain_mix ps (I1.ok.hd hc) pl (by simpa using hits) (fun p hm => key_of I1.hok (hF _ _ (hp p hm))) hn (by omega) fun h' tk L es ep t R U kp => PyProof.Rows.args_nil ?_
  obtain ⟨o, ho, hex, hd⟩ := R.obj
  have I2 : Inv X pins σ H1 { s1 with heap := h', toks := tk } := I1.kept kp
  have hsz := ST.ent_size R.ent
  have hU := U.len
  have hL := upto_perm U R.dif hnd
  have hes : es.toList.map (·.2) = L.map fun p => Value.ref p.1 := by rw [R.ent, List.map_map]; rfl
  refine Calls.call_function_entry PyProof.Rows.kind_sorted PyProof.Rows.plain_sorted PyProof.Rows.entry_sorted (PyProof.Rows.args_sorted1 _) ?_
  unfold Builtin.«sorted»
  refine wpAny_bind (m := checkCount "sorted" 1 1 _) (wpAny_pure ?_)
  refine wpAny_bind (collect_set (s := { s1 with heap := h', toks := tk }) (I1.ok.hd hc) ⟨o, ho, hex.1, hd⟩ (ST.Of.fits (s := { s1 with heap := h' }) R) (by rw [hsz]; unfold scanBound; omega) R.lay.ris R.led fun s' out k' sz' g' o' hperm => ?_)
  have hout : out.Perm its := by
    rw [hes] at hperm
    refine hperm.trans ((hL.map fun p => Value.ref p.1).trans ?_)
    rw [hits]
  have J : Inv X pins σ H1 s' := I2.call' (s' := s') (ch := []) o' (Un.kept k') (I2.hok.kept k') (by rw [g']; exact I2.bare) fun b z => by simp at z
  obtain ⟨ds', p1, e1⟩ := each_perm hout e
  have hso' : SrtOk ds' := ⟨fun d hd => hso.t d (p1.mem_iff.mp hd), fun d hd e he => hso.a d (p1.mem_iff.mp hd) e (p1.mem_iff.mp he), fun d hd => hso.n d (p1.mem_iff.mp hd), fun d hd => hso.z d (p1.mem_iff.mp hd)⟩
  have hl : out.length ≤ sizeLine := by rw [hout.length_eq, ← rv.length]; exact hz
  refine wpAny_bind (wpAny_newList ?_ (by simpa using hl))
  have hoL : (s'.heap.push (PyProof.Rows.seqObj "list" out.toArray 0)).get? s'.heap.objs.size = some (PyProof.Rows.seqObj "list" out.toArray 0) := Heap.get?_push_size _ rfl
  show wpAny _ _ _ _ _ { s' with heap := s'.heap.push (PyProof.Rows.seqObj "list" out.toArray 0) }
  have er' : EachIs (fun v b => ∃ as, Reads (sortingHeap (s'.heap.push (PyProof.Rows.seqObj "list" out.toArray 0)) s'.heap.objs.size out) v (encX b) as) out ds' := e1.mono fun v b ⟨⟨x, r1, h1⟩, hb⟩ => by
    obtain ⟨as, r⟩ := At.reads J hF b x v (hso.n b hb) h1 r1
    exact ⟨as, PyProof.Rows.Reads.keeps (fun c u e => sortingHeap_old (Nat.ne_of_lt (Heap.lt_size e)) (Heap.get?_push_of_some _ e)) r⟩
  have S := SortsAt.data (prog := X.prog) (w := X.w) (A := X.A.in1.in1) (s := { s' with heap := sortingHeap (s'.heap.push (PyProof.Rows.seqObj "list" out.toArray 0)) s'.heap.objs.size out }) (each_map (R := fun v d => ∃ as, Reads (sortingHeap (s'.heap.push (PyProof.Rows.seqObj "list" out.toArray 0)) s'.heap.objs.size out) v d as) encX er') (by rw [map_encX]; exact hso'.a) (by rw [map_encX]; exact .inl hso'.t) (bound_map fun b hb => by have := hso'.z b hb; have := cx.u64; show X.A.units + 2 + b.depth < _; omega)
  have eo := sortVals_data false e1 er' (by rw [map_encX]; exact hso'.a)
  obtain ⟨ys, k1, k2⟩ := each_outX eo
  refine wpAny_bind (wpAny_holding (wpAny_call_entry PyProof.Rows.slot_list_sort ⟨_, hoL, rfl⟩ PyProof.Rows.entry_list_sort
    (list_sort_vals (s := { s' with heap := s'.heap.push (PyProof.Rows.seqObj "list" out.toArray 0) }) hoL S hl ⟨_, rfl, ?_⟩) (PyProof.Rows.args_list_sort _)))
  obtain ⟨e', he'⟩ := PyProof.Rows.sortedHeap_at (vs := out) (out := (sortVals _ false out out).toArray) hoL
  have hlen : ys.length ≤ sizeLine := by
    have h2 := k2.length
    have h3 := p1.length_eq
    have h4 := hat.length
    rw [List.length_mergeSort] at h2
    rw [List.length_map] at h4
    have h5 := hout.length_eq
    have h6 := rv.length
    rw [List.length_map] at h6
    omega
  refine wpAny_pure ⟨_, rfl, .ref s'.heap.objs.size, upd H1 s'.heap.objs.size (.lst ys), J.laid (t' := s'.toks) (fun b u e => ?_) (Nat.le_refl _)
    (show ObjOk X.prog X.w _ _ _ (.lst ys) from ⟨hlen, _, e', k1, he'⟩), rfl, hQ ds' ys _ p1 k2 (J.hok.fresh (Nat.le_refl _))⟩
  have hb : b < s'.heap.objs.size := Heap.lt_size e
  rw [PyProof.Rows.sortedHeap_old (Nat.ne_of_lt hb) (by rw [PyProof.Rows.size_push']; exact Nat.lt_succ_of_lt hb)]
  exact Heap.get?_push_of_some _ e
def oSortSetU : D1 := fun x R => match x with
  | .d (.tuple ds) => ∃ kss, tupsL ds = some kss ∧ kss.Nodup ∧ kss.length ≤ 76 ∧ SrtOk ds ∧ ∀ ds', ds'.Perm ds → R (.own (sortX ds'))
  | _ => False
def mSortSetU (me : ME) : ME := fun ex δ R => me ex δ fun x => oSortSetU x R
theorem de_sortSetU {e : Expr} {me : ME} {u : Nat} {p p2 q pos : Pos} (hc : X.calm = true) (cx : CtxU X) (hg : Gl X "sorted") (hm : X.mg "sorted" = none) (hg2 : Gl X "set") (hm2 : X.mg "set" = none) (h : DE X W e me u)
    (na : starEach [e] X.env = (false, eval e X.env) :: starEach [] X.env := by rfl) : DE X W (.Call (.Name "sorted" p) [.Call (.Name "set" p2) [e] [] q] [] pos) (mSortSetU me) u :=
  ⟨PE.imp (pe_sortSetU hc cx hg hm hg2 hm2 h.pe na) fun σ H Q q => by
    obtain ⟨ex, G, F, δ, τ, ts, τ1, ts1, R, n, m, k⟩ := q
    refine ⟨ex, G, F, δ, τ, ts, τ1, ts1, _, n, m, fun x hx v F1 H1 g1 => ?_⟩
    have hx : oSortSetU x R := hx
    unfold oSortSetU at hx
    split at hx
    · rename_i ds h0
      obtain ⟨kss, hk, hnd, hl, hso, hx⟩ := hx
      obtain ⟨l, vs, rfl, h1, h2⟩ := tup_of g1.top g1.fh
      rw [show (G.up u).K = X.K from n.k] at h1 h2
      refine ⟨l, vs, ds, F1, kss, rfl, h1, g1.fh, h2, hk, hnd, hl, hso, fun ds' ys p hp hy hn => k _ (hx ds' hp) _ F1 _ (g1.pop.newO hn (by rw [show (G.up u).K = X.K from n.k]; exact hy))⟩
    · exact hx.elim⟩
end DL
namespace ST
open PySem PySem.Spec PyProof.Rows L2
variable {P : Program} {w : World} {K : Type} [DecidableEq K] {knd : KeyKind P w K} {A : Around} {E : Value → Shared → Prop} {s : Shared}
end ST
namespace DL
open PySem PySem.Spec L2 PySem.W
variable {X : Cx} {W : WC}
end DL
namespace DL
open PySem PySem.Spec L2
def pairsK : List PyData → Option (List (Key × PyData))
  | [] => some []
  | .tuple [.int i, d] :: r => (pairsK r).map fun ps => (.inl i, d) :: ps
  | .tuple [.str x, d] :: r => (pairsK r).map fun ps => (.inr x, d) :: ps
  | _ => none
def mergeDK (ks : List (PyData × PyData)) : List (Key × PyData) → List (PyData × PyData)
  | [] => ks
  | p :: r => mergeDK (putD ks p.1 p.2) r
section
variable {K : PySem.W.Frag} {F : Hp}
inductive AtPs (K : PySem.W.Frag) (F : Hp) : List (Key × V) → List (Key × PyData) → Prop
  | nil : AtPs K F [] []
  | cons {k : Key} {v : V} {d : PyData} {kvs : List (Key × V)} {ps : List (Key × PyData)} : At K F v d → AtPs K F kvs ps → AtPs K F ((k, v) :: kvs) ((k, d) :: ps)
theorem AtPs.merge : ∀ {mv : List (Key × V)} {md : List (Key × PyData)} {kvs : List (Key × V)} {ks : List (PyData × PyData)}, AtPs K F mv md → AtKv K F kvs ks → AtKv K F (mergeK kvs mv) (mergeDK ks md)
  | _, _, _, _, .nil, h => h
  | (k, v) :: mv, (_, d) :: md, kvs, ks, .cons h' t, h => by
    show AtKv K F (mergeK (putK kvs k v) mv) (mergeDK (putD ks k d) md)
    exact AtPs.merge t (AtKv.put h' k h)
theorem pairsK_at : ∀ {vs : List V} {ds : List PyData} {ps : List (Key × PyData)}, AtL K F vs ds → pairsK ds = some ps →
    ∃ (as : List Addr) (kvs : List (Key × V)), vs = as.map V.ref ∧ Paired (fun p kv => F p = some (.tup [kV kv.1, kv.2])) as kvs ∧ AtPs K F kvs ps
  | [], _, ps, .nil, e => by cases e; exact ⟨[], [], rfl, .nil, .nil⟩
  | v :: vs, d :: ds, ps, .cons h t, e => by
    unfold pairsK at e
    split at e
    · rename_i h0
      cases h0
    · rename_i i x r hdr
      cases hdr
      obtain ⟨ps', e1, rfl⟩ := Option.map_eq_some_iff.mp e
      obtain ⟨as, kvs, rfl, h2, h3⟩ := pairsK_at t e1
      cases h with
      | @tup a us _ hs ha =>
        cases ha with
        | cons hk hr =>
          cases hr with
          | @cons w2 _ _ _ hv hn =>
            cases hn
            cases hk
            exact ⟨a :: as, (.inl i, w2) :: kvs, rfl, .cons hs h2, .cons hv h3⟩
    · rename_i y x r hdr
      cases hdr
      obtain ⟨ps', e1, rfl⟩ := Option.map_eq_some_iff.mp e
      obtain ⟨as, kvs, rfl, h2, h3⟩ := pairsK_at t e1
      cases h with
      | @tup a us _ hs ha =>
        cases ha with
        | cons hk hr =>
          cases hr with
          | @cons w2 _ _ _ hv hn =>
            cases hn
            cases hk
            exact ⟨a :: as, (.inr y, w2) :: kvs, rfl, .cons hs h2, .cons hv h3⟩
    · cases e
end
def rDictP (K : PySem.W.Frag) : List V → Hp → VK → Prop := fun xs H Q => ∃ (a : Addr) (ps : List Addr) (kvs : List (Key × V)), xs = [.ref a] ∧ SqL K H a (ps.map V.ref) ∧ Paired (fun p kv => SqT K H p [kV kv.1, kv.2]) ps kvs ∧
    ∀ p, H p = none → Q (.ref p) (upd H p (.dK (mergeK [] kvs)))
def oDictP : D1 := fun x R => match x.lst with
  | some ds => match pairsK ds with
    | some ps => R (.odk (mergeDK [] ps))
    | none => False
  | none => False
theorem paired_mono {α β : Type} {P Q : α → β → Prop} (h : ∀ a b, P a b → Q a b) : ∀ {as : List α} {bs : List β}, Paired P as bs → Paired Q as bs
  | _, _, .nil => .nil
  | _, _, .cons a t => .cons (h _ _ a) (paired_mono h t)
theorem on_dictP {X : Cx} : OpN X (rDictP X.K) (o1 oDictP) := on_1 fun G F δ σ H v x R Q hK g hx h k => by
  unfold oDictP at h
  split at h
  · rename_i ds e
    split at h
    · rename_i ps e2
      obtain ⟨l, vs, rfl, h1, h2⟩ := lst_of hx g.fh e
      obtain ⟨as, kvs, rfl, h3, h4⟩ := pairsK_at h2 e2
      refine ⟨l, as, kvs, rfl, SqL.of h1, paired_mono (fun p kv hp => SqT.of (g.fh _ _ hp)) h3, fun q hq => ?_⟩
      exact k _ h _ _ _ (g.newK hq (AtPs.merge h4 .nil))
    · exact h.elim
  · exact h.elim
section
variable {u : Nat} {X : Cx} {W : WC} {e : Expr} {pos p : Pos} {mas : MA}
theorem de_dictP (hcalm : X.calm = true) (hg : Gl X "dict") (hm : X.mg "dict" = none) (ha : DA X W [e] mas u) (he : starEach [e] X.env = (false, eval e X.env) :: starEach [] X.env := by rfl) (hpl : (backTo pos (starEach [] X.env)).any (·.1) = false := by rfl) :
    DE X W (.Call (.Name "dict" p) [e] [] pos) (mCB (o1 oDictP) mas) u := de_callTy (call_dictP hcalm) on_dictP hg hm (by decide +kernel) ha (by decide) (by decide) he hpl
end
end DL
namespace DL
open PySem PySem.Spec L2
def rUpdK : V → List V → Hp → VK → Prop := fun x vs H Q => ∃ (a b : Addr) (kvs more : List (Key × V)), x = .ref a ∧ vs = [.ref b] ∧ a ≠ b ∧ H a = some (.dK kvs) ∧ Rd H b (.dK more) ∧ kvs.length + more.length ≤ sizeLine ∧ Q .non (upd H a (.dK (mergeK kvs more)))
theorem mt_update {X : Cx} : MtR X "dict.update" rUpdK := by
  intro pins s σ H x vs v us Q I rx rv h
  obtain ⟨a, b, kvs, more, ex, ev, hne, e, e2, hsz, q⟩ := h
  subst ex
  subst ev
  obtain rfl : v = Value.ref a := rx
  obtain ⟨u, eu, ru⟩ := vals1 rv
  subst eu
  obtain rfl : u = Value.ref b := ru
  obtain ⟨z, hd, vs1, rel, dd⟩ := dk_of I.hok e
  obtain ⟨z2, hd2, vs2, rel2, dd2⟩ := dk_rd I.hok e2
  have hl : (mergeK kvs more).length ≤ sizeLine := by
    have := length_mergeK more kvs
    omega
  refine call_meetsIn PySem.F.slot_dict_update dd.typeIs PySem.F.entry_dict_update (PySem.F.args_dict_update_2 _ _) (meets_dict_update (mixKind X.prog X.w) a b hne hd2)
    ⟨vs1, vs2, dd, dd2, by rw [← rel.length, ← rel2.length]; exact hsz, fun h' dd' _ hs => ?_⟩
  have he : ∃ q, h'.get? a = some q := let ⟨q, _, _, hq, _⟩ := dd'; ⟨q, hq⟩
  exact ⟨.non, _, d_write (t' := s.toks) I (by rw [e]; exact True.intro) hs he (dk_new hl hd (KV.merge rel2 rel) dd'), rfl, q⟩
def mergeD (ks : List (PyData × PyData)) : List (PyData × PyData) → List (PyData × PyData)
  | [] => ks
  | (.int i, d) :: r => mergeD (putD ks (.inl i) d) r
  | (.str x, d) :: r => mergeD (putD ks (.inr x) d) r
  | _ :: r => mergeD ks r
theorem mergeD_key (ks : List (PyData × PyData)) (k : Key) (d : PyData) (r : List (PyData × PyData)) : mergeD ks ((keyD k, d) :: r) = mergeD (putD ks k d) r := by
  cases k <;> rfl
theorem AtKv.mergeD {K : PySem.W.Frag} {F : Hp} : ∀ {mv : List (Key × V)} {md : List (PyData × PyData)} {kvs : List (Key × V)} {ks : List (PyData × PyData)}, AtKv K F mv md → AtKv K F kvs ks → AtKv K F (mergeK kvs mv) (DL.mergeD ks md)
  | _, _, _, _, .nil, h => h
  | (k, v) :: mv, (_, d) :: md, kvs, ks, .cons h' t, h => by
    rw [mergeD_key]
    show AtKv K F (mergeK (putK kvs k v) mv) _
    exact AtKv.mergeD t (AtKv.put h' k h)
def DV.upk : DV → Option (List (PyData × PyData))
  | .d (.dict ks) => if isObj ks then none else some ks
  | .odk ks => some ks
  | _ => none
theorem upk_dic : ∀ {x : DV} {ks : List (PyData × PyData)}, x.upk = some ks → x.dic = some ks
  | .d (.dict _), _, e => e
  | .odk _, _, e => e
theorem upk_bor : ∀ {x : DV} {ks : List (PyData × PyData)}, x.upk = some ks → x.isBor = false
  | .d (.dict _), _, _ => rfl
  | .odk _, _, _ => rfl
theorem tyD {K : PySem.W.Frag} {H : Hp} {l : Addr} {kvs : List (Key × V)} (h : H l = some (.dK kvs)) : tyV K "dict" (.ref l) H := .inr (.inr (.inl ⟨rfl, .inl ⟨kvs, h⟩⟩))
def mUpd (i : Nat) (ma : MA) : MS := fun ex E δ => isOdkAt δ i ∧ ma ex δ fun as => match δ[i]?, as with
  | some (some (.odk ks)), [y] => (match y.upk with
    | some ms => ks.length + ms.length ≤ sizeLine ∧ E.nx (δ.set i (some (.odk (mergeD ks ms))))
    | none => False)
  | _, _ => False
section
variable {u1 : Nat} {X : Cx} {W : WC} {e : Expr} {es : List Expr} {x : Str} {mas : MA} {p1 ap cp pos : Pos}
theorem ds_upd {i : Nat} (hv : PE X (.Name x p1) (tVar i)) (ha : DA X W [e] mas u1)
    (hbase : attributeBase (.Name x p1) "update" X.env (eval (.Name x p1) X.env) = eval (.Name x p1) X.env := by rfl)
    (hfew : ((backTo cp (starEach [e] X.env)).all (fun x => !x.1) && (backToKw cp (keywordEach [] X.env)).all (fun x => x.1.isSome)
      && decide (([e] : List Expr).length + ([] : List Keyword).length + (if ([] : List Keyword).isEmpty then 0 else 1) < 30)) = true := by rfl)
    (hline : (ap.endLine == cp.line) = true := by rfl) (hs : starEach [e] X.env = (false, eval e X.env) :: starEach [] X.env := by rfl) (hplain : (backTo cp (starEach [] X.env)).any (·.1) = false := by rfl) (hsw : swapsWith (.Call (.Attribute (.Name x p1) "update" ap) [e] [] cp) none pos.line X.env = pure false := by rfl) :
    DS X W (.Expr (.Call (.Attribute (.Name x p1) "update" ap) [e] [] cp) pos) (mUpd i mas) u1 :=
  ⟨PS.imp (ps_expr (pe_bm PySem.F.plainAttrs_dict PySem.F.slot_dict_update PySem.F.type_dict_update mt_update hv ha.pa hbase hfew hline hs hplain) hsw) fun D σ H q => by
    obtain ⟨ex, G, F, δ, τ, ts, E, n, nb, eo, ho1, h⟩ := q
    obtain ⟨ks, eX⟩ : ∃ ks, δ[i]? = some (some (.odk ks)) := by
      unfold isOdkAt at ho1
      split at ho1
      · rename_i ks e; exact ⟨ks, e⟩
      · exact ho1.elim
    have hiL : i < δ.length := (List.getElem?_eq_some_iff.mp eX).1
    obtain ⟨w0, ew0, hw0⟩ := n.g0.get (i := i) (dv := .odk ks) (by rw [List.getElem?_append_left hiL]; exact eX)
    obtain ⟨l, kvs0, rfl, hH0, _⟩ := hw0
    rw [List.getElem?_append_left (by have := n.l1; omega)] at ew0
    refine ⟨.ref l, ew0, tyD hH0, ex, G, F, δ, τ, ts, [], [], _, n, h, fun as has vs F1 H1 hlen g1 => ?_⟩
    rw [eX] at has
    split at has
    · rename_i ks1 y e1
      cases e1
      obtain ⟨v, rfl⟩ : ∃ v, vs = [v] := by
        match vs, hlen with
        | [v], _ => exact ⟨v, rfl⟩
      split at has
      · rename_i ms em
        obtain ⟨hsz, hz⟩ := has
        have g : Good (G.up u1) F1 (δ ++ τ ++ [some y]) (σ ++ ts ++ [some v]) H1 := by simpa using g1
        obtain ⟨b, more, rfl, q3, q4⟩ := dic_of g.top g.fh (upk_dic em)
        have ei : (δ ++ τ ++ [some y])[i]? = some (some (.odk ks)) := by rw [List.append_assoc, List.getElem?_append_left hiL]; exact eX
        have es0 : (σ ++ ts ++ [some (V.ref b)])[i]? = some (some (.ref l)) := by rw [List.append_assoc, List.getElem?_append_left (by have := n.l1; omega)]; exact ew0
        obtain ⟨w, ew, l', kvs, rfl, q1, q2, q5, q6⟩ := g.get ei
        rw [es0] at ew
        cases ew
        have hlN : (δ ++ τ).length = (σ ++ ts).length := by simp [n.l1, n.l2]
        have hne : l ≠ b := by
          rintro rfl
          match y, em with
          | .d (.dict ks'), em =>
            have em : (if isObj ks' then none else some ks') = some ms := em
            split at em
            · cases em
            · rename_i hno
              cases (show At G.K F1 (.ref l) (.dict ks') from g.top) with
              | dct hs' ha' =>
                rcases hs' with hs' | ⟨o, hs'⟩ <;> (rw [q5] at hs'; cases hs')
              | obj _ _ _ _ => exact absurd rfl hno
          | .odk ks', em =>
            have := g.di i (δ ++ τ).length (.odk ks) (.odk ks') l rfl rfl ei (by simp) es0 (by rw [hlN]; simp)
            rw [List.length_append] at this
            omega
        refine ⟨l, b, kvs, more, rfl, rfl, hne, q1, q3, by rw [q2.length, q4.length]; exact hsz, ?_⟩
        have g4 := g.writeK (n := i) (xs := ks) (ys := mergeD ks ms) (l := l) (kvs := mergeK kvs more) ?_ ei es0 (AtKv.mergeD q4 q2)
        · rw [List.append_assoc, List.set_append_left _ _ hiL, ← List.append_assoc] at g4
          refine eo.nx _ hz _ σ F1 _ (Nat.le_refl _) (by simpa using n.l1) ?_ g4.pop
          rw [← List.set_append_left _ _ hiL]
          exact noBor_set nb rfl
        · intro j z ez
          rcases Nat.lt_or_ge j (δ ++ τ).length with hj | hj
          · rw [List.getElem?_append_left hj] at ez
            exact nb j z ez
          · have hj3 : j = (δ ++ τ).length := by
              have := (List.getElem?_eq_some_iff.mp ez).1
              simp at this hj ⊢; omega
            rw [List.getElem?_append_right hj, hj3, Nat.sub_self] at ez
            cases ez
            exact upk_bor em
      · exact has.elim
    · exact has.elim⟩
end
end DL
namespace DL
open PySem PySem.Spec L2
def lkFree : Nat → Env → Bool
  | _, [] => true
  | 0, _ :: r => lkFree1 r
  | n + 1, x :: r => (match x with | some z => !z.isLk | none => true) && lkFree n r
where lkFree1 : Env → Bool
  | [] => true
  | x :: r => (match x with | some z => !z.isLk | none => true) && lkFree1 r
theorem lkFree1_get : ∀ {δ : Env} {j : Nat} {z : DV}, lkFree.lkFree1 δ = true → δ[j]? = some (some z) → z.isLk = false
  | [], j, z, h, e => by simp at e
  | x :: r, 0, z, h, e => by
    simp at e
    subst e
    unfold lkFree.lkFree1 at h
    simp at h
    exact h.1
  | x :: r, j + 1, z, h, e => by
    unfold lkFree.lkFree1 at h
    simp at h
    exact lkFree1_get h.2 (by simpa using e)
theorem lkFree_get : ∀ {δ : Env} {i j : Nat} {z : DV}, lkFree i δ = true → j ≠ i → δ[j]? = some (some z) → z.isLk = false
  | [], _, j, z, h, _, e => by simp at e
  | x :: r, 0, 0, z, h, hn, e => absurd rfl hn
  | x :: r, 0, j + 1, z, h, hn, e => lkFree1_get h (by simpa using e)
  | x :: r, i + 1, 0, z, h, hn, e => by
    simp at e
    subst e
    unfold lkFree at h
    simp at h
    exact h.1
  | x :: r, i + 1, j + 1, z, h, hn, e => by
    unfold lkFree at h
    simp at h
    exact lkFree_get (i := i) h.2 (fun q => hn (congrArg (· + 1) q)) (by simpa using e)
def unLk (i : Nat) (p : Unit → LkP) (ks : List (PyData × PyData)) (Q : Env → Prop) : Env → Prop := fun δ => δ[i]? = some (some (.ldk p ks)) ∧ lkFree i δ = true ∧ Q (δ.set i (some (.d (.dict ks))))
def unLkE (i : Nat) (p : Unit → LkP) (ks : List (PyData × PyData)) (E : DEnds) : DEnds := { nx := unLk i p ks E.nx, rt := fun _ => False, bk := unLk i p ks E.bk, ct := unLk i p ks E.ct }
def mLckS (i : Nat) (m : MS) : MS := fun _ E δ => match δ[i]? with
  | some (some (.d (.dict ks))) => isObj ks = false ∧ ∀ p : Unit → LkP, m ex0 (unLkE i p ks E) (δ.set i (some (.ldk p ks)))
  | _ => False
section
variable {u : Nat} {X : Cx} {W : WC} {st : Stmt} {m : MS}
theorem lckS_lift (i : Nat) (D : Ends) (σ : L2.St) (H : Hp) (q : liftS X.K X.mg W u (mLckS i m) D σ H) : tLock (liftS X.K X.mg W u m) D σ H ∨ liftS X.K X.mg W u m D σ H := by
  obtain ⟨ex, G, F, δ, τ, ts, E, n, nb, eo, m⟩ := q
  unfold mLckS at m
  have lk0 : ∀ {G' : Gm}, Link X.K X.mg W u G' τ ts ex0 := fun _ _ _ _ _ _ _ _ _ _ _ _ _ _ z => z.elim
  split at m
  · rename_i ks e0
    obtain ⟨hno, m⟩ := m
    have hi : i < δ.length := (List.getElem?_eq_some_iff.mp e0).1
    have n0 := n.g0
    have e1 : (δ ++ τ)[i]? = some (some (.d (.dict ks))) := by rw [List.getElem?_append_left hi]; exact e0
    obtain ⟨v, ev, hv⟩ := n0.get e1
    have hL : (δ ++ τ).length = (σ ++ ts).length := n0.len
    obtain ⟨l, kvs, rfl, hs, ha⟩ : ∃ l kvs, v = .ref l ∧ Rd F l (.dK kvs) ∧ AtKv G.K F kvs ks := by
      cases (show At G.K F v (.dict ks) from hv) with
      | dct hs ha => exact ⟨_, _, rfl, hs, ha⟩
      | obj _ _ _ _ => cases hno
    have cl : ¬ G.C l := fun c => by
      have := n0.cf l c
      rcases hs with hs | ⟨_, hs⟩ <;> (rw [hs] at this; cases this)
    rcases hs with hs | ⟨od, hs⟩
    · have hH := n0.fh _ _ hs
      refine .inl ⟨l, _, hH, True.intro, fun od => ?_⟩
      have g1 := n0.lockF hs od
      have g1 := g1.reslot (y := .ldk (lkP l od kvs) ks) e1 ev ⟨_, rfl, rfl, upd_same, AtKv.tr (tr_lock hs) _ _ ha⟩ (fun z => by cases z)
      rw [List.set_append_left _ _ hi] at g1
      have back : ∀ (Q : Env → Prop) (D' : L2.St → Hp → Prop) (ok : ∀ δ, Q δ → ∀ b σ F H, b ≤ u → δ.length = σ.length → NoBor (δ ++ τ) → Good (G.up b) F (δ ++ τ) (σ ++ ts) H → D' σ H) (δ' : Env), unLk i (lkP l od kvs) ks Q δ' → ∀ b σ' F' H', b ≤ u → δ'.length = σ'.length → NoBor (δ' ++ τ) → Good ((G.lk l (.frz od (.dK kvs))).up b) F' (δ' ++ τ) (σ' ++ ts) H' → H' l = some (.frz od (.dK kvs)) ∧ D' σ' (upd H' l (.dK kvs)) := by
        intro Q D' ok δ' h b σ' F' H' hb hl nb' g
        obtain ⟨h1, h2, h3⟩ := h
        have hi' : i < δ'.length := (List.getElem?_eq_some_iff.mp h1).1
        have e2 : (δ' ++ τ)[i]? = some (some (.ldk (lkP l od kvs) ks)) := by rw [List.getElem?_append_left hi']; exact h1
        obtain ⟨w, ew, hw⟩ := g.get e2
        obtain ⟨_, _, rfl, q1, q2⟩ := hw
        replace q1 : F' l = some (.frz od (.dK kvs)) := q1
        refine ⟨g.fh _ _ q1, ?_⟩
        have g3 := g.reslot (y := .d (.dict ks)) e2 ew (.dct (.inr ⟨_, q1⟩) q2) (fun z => by cases z)
        rw [List.set_append_left _ _ hi'] at g3
        have g4 := Good.unlockF (G := G.up b) (l := l) (o := od) (kvs := kvs) g3 n0.g.cb q1 (fun z hz => ?_) (fun z hz => ?_) (fun j z ez hz => ?_)
        · refine ok _ h3 b σ' _ _ hb (by simpa using hl) ?_ g4
          rw [← List.set_append_left _ _ hi']
          exact noBor_set nb' rfl
        · have := n0.f0 _ _ hz
          rw [hs] at this; exact (Option.some.inj this).symm
        · have := n0.bh _ _ cl hz
          rw [hH] at this; exact (Option.some.inj this).symm
        · intro es
          rcases Nat.lt_or_ge j (δ'.set i (some (.d (.dict ks)))).length with hj2 | hj2
          · rw [List.getElem?_append_left hj2] at ez
            by_cases hji : j = i
            · subst hji
              rw [List.getElem?_set_self hi'] at ez
              cases ez
              cases hz
            · rw [List.getElem?_set_ne (fun q => hji q.symm)] at ez
              rw [lkFree_get h2 hji ez] at hz; cases hz
          · rw [List.getElem?_append_right hj2] at ez
            simp at hj2
            rw [List.getElem?_append_right (by omega)] at es
            obtain ⟨w2, ew2, hw2⟩ := n0.sl (δ.length + (j - δ'.length)) z (by rw [List.getElem?_append_right (by omega), Nat.add_sub_cancel_left]; simpa using ez)
            rw [List.getElem?_append_right (by have := n.l1; omega)] at ew2
            rw [show δ.length + (j - δ'.length) - σ.length = j - σ'.length by have := n.l1; omega, es] at ew2
            cases ew2
            cases z with
            | olk p xs =>
              obtain ⟨_, _, r0, r1, _⟩ := hw2
              have r0 : l = (p ()).a := V.ref.inj r0
              rw [← r0, hH] at r1; cases r1
            | blk p xs =>
              obtain ⟨_, _, r0, r1, _⟩ := hw2
              have r0 : l = (p ()).a := V.ref.inj r0
              rw [← r0, hH] at r1; cases r1
            | ldk p xs =>
              obtain ⟨_, _, r0, r1, _⟩ := hw2
              have r0 : l = (p ()).a := V.ref.inj r0
              rw [← r0, hs] at r1; cases r1
            | _ => cases hz
      refine ⟨ex0, G.lk l (.frz od (.dK kvs)), _, δ.set i (some (.ldk (lkP l od kvs) ks)), τ, ts, unLkE i (lkP l od kvs) ks E, ⟨n.k, by simpa using n.l1, n.l2, by simpa using g1, lk0, n.ck⟩, ?_, ⟨back _ _ eo.nx, back _ _ eo.bk, back _ _ eo.ct, fun _ z => z.elim, fun _ _ z => z.elim⟩, m (lkP l od kvs)⟩
      rw [← List.set_append_left _ _ hi]
      exact noBor_set nb rfl
    · -- it is locked already
      have hH := n0.fh _ _ hs
      have g1 := n0.reslot (y := .ldk (lkP l od kvs) ks) e1 ev ⟨_, rfl, rfl, hs, ha⟩ (fun z => by cases z)
      rw [List.set_append_left _ _ hi] at g1
      have back : ∀ (Q : Env → Prop) (D' : L2.St → Hp → Prop) (ok : ∀ δ, Q δ → ∀ b σ F H, b ≤ u → δ.length = σ.length → NoBor (δ ++ τ) → Good (G.up b) F (δ ++ τ) (σ ++ ts) H → D' σ H) (δ' : Env), unLk i (lkP l od kvs) ks Q δ' → ∀ b σ' F' H', b ≤ u → δ'.length = σ'.length → NoBor (δ' ++ τ) → Good (G.up b) F' (δ' ++ τ) (σ' ++ ts) H' → D' σ' H' := by
        intro Q D' ok δ' h b σ' F' H' hb hl nb' g
        obtain ⟨h1, h2, h3⟩ := h
        have hi' : i < δ'.length := (List.getElem?_eq_some_iff.mp h1).1
        have e2 : (δ' ++ τ)[i]? = some (some (.ldk (lkP l od kvs) ks)) := by rw [List.getElem?_append_left hi']; exact h1
        obtain ⟨w, ew, hw⟩ := g.get e2
        obtain ⟨_, _, rfl, q1, q2⟩ := hw
        replace q1 : F' l = some (.frz od (.dK kvs)) := q1
        have g3 := g.reslot (y := .d (.dict ks)) e2 ew (.dct (.inr ⟨_, q1⟩) q2) (fun z => by cases z)
        rw [List.set_append_left _ _ hi'] at g3
        refine ok _ h3 b σ' _ _ hb (by simpa using hl) ?_ g3
        rw [← List.set_append_left _ _ hi']
        exact noBor_set nb' rfl
      refine .inr ⟨ex0, G, F, δ.set i (some (.ldk (lkP l od kvs) ks)), τ, ts, unLkE i (lkP l od kvs) ks E, ⟨n.k, by simpa using n.l1, n.l2, by simpa using g1, lk0, n.ck⟩, ?_, ⟨back _ _ eo.nx, back _ _ eo.bk, back _ _ eo.ct, fun _ z => z.elim, fun _ _ z => z.elim⟩, m (lkP l od kvs)⟩
      rw [← List.set_append_left _ _ hi]
      exact noBor_set nb rfl
  · exact m.elim
theorem ds_lck (i : Nat) (h : DS X W st m u) : DS X W st (mLckS i m) u := ⟨PS.imp (PS.or (ps_lock h.ps) h.ps) fun D σ H q => lckS_lift i D σ H q⟩
end
end DL
namespace DL
open PySem PySem.Spec L2 PySem.W
def topOf : List HP → HP
  | [] => (0, 0, "")
  | p :: ps => (hpOf (maxD (hpD p) (ps.map hpD))).getD (0, 0, "")
theorem top_max {ps : List HP} (h : 0 < ps.length) : topOf ps ∈ ps ∧ ∀ q ∈ ps, q.1 ≤ (topOf ps).1 := by
  cases ps with
  | nil => exact absurd h (by simp)
  | cons p ps =>
    obtain ⟨m, m1, m2, m3⟩ := maxD_hs ps p
    have e : topOf (p :: ps) = m := by
      show (hpOf (maxD (hpD p) (ps.map hpD))).getD (0, 0, "") = m
      rw [m3]
      rfl
    rw [e]
    exact ⟨m1, m2⟩
theorem top_eq {p : HP} {ps : List HP} : maxD (hpD p) (ps.map hpD) = hpD (topOf (p :: ps)) := by
  obtain ⟨m, m1, m2, m3⟩ := maxD_hs ps p
  show _ = hpD ((hpOf (maxD (hpD p) (ps.map hpD))).getD (0, 0, ""))
  rw [m3]
  rfl
def oMaxHd : D1 := fun x R => match x.lst with
  | some ds => match hpsL ds with
    | some ps => 0 < ps.length ∧ R (.d (hpD (topOf ps)))
    | none => False
  | none => False
theorem on_maxHd {X : Cx} : OpN X (rMaxH X.K) (o1 oMaxHd) := on_1 fun G F δ σ H v x R Q hK g hx h k => by
  unfold oMaxHd at h
  split at h
  · rename_i ds e
    split at h
    · rename_i ps e2
      obtain ⟨l, vs, rfl, h1, h2⟩ := lst_of hx g.fh e
      rw [hpsL_eq e2] at h2
      cases ps with
      | nil => exact absurd h.1 (by simp)
      | cons p ps =>
        refine ⟨l, vs, p, ps, F, rfl, SqL.of h1, g.fh, by rw [← hK]; exact h2, fun v hv => ?_⟩
        rw [top_eq] at hv
        exact k _ h.2 v F H (g.pushD (by rw [hK]; exact hv))
    · exact h.elim
  · exact h.elim
section
variable {u : Nat} {X : Cx} {W : WC} {e : Expr} {pos p : Pos} {mas : MA}
theorem de_maxHd (cx : CtxU X) (hc : X.calm = true) (hg : Gl X "max") (hm : X.mg "max" = none) (ha : DA X W [e] mas u) (he : starEach [e] X.env = (false, eval e X.env) :: starEach [] X.env := by rfl) (hpl : (backTo pos (starEach [] X.env)).any (·.1) = false := by rfl) :
    DE X W (.Call (.Name "max" p) [e] [] pos) (mCB (o1 oMaxHd) mas) u := de_callB (cr_maxH hc cx.u64) on_maxHd hg hm (by decide +kernel) ha (by decide) (by decide) he hpl
end
section
variable {xs : List PyData} {R : DV → Prop}
theorem oMaxHd_o : oMaxHd (.own xs) R = (match hpsL xs with | some ps => 0 < ps.length ∧ R (.d (hpD (topOf ps))) | none => False) := rfl
theorem oMaxHd_l : oMaxHd (.d (.list xs)) R = (match hpsL xs with | some ps => 0 < ps.length ∧ R (.d (hpD (topOf ps))) | none => False) := rfl
theorem oMaxHd_b : oMaxHd (.bor xs) R = (match hpsL xs with | some ps => 0 < ps.length ∧ R (.d (hpD (topOf ps))) | none => False) := rfl
end
end DL
namespace L2
open PySem PySem.Spec PyProof.Rows
variable {X : Cx}
end L2
namespace DL
open PySem PySem.Spec L2
variable {X : Cx} {W : WC} {u1 u2 u3 : Nat}
end DL
namespace DL
open PySem PySem.Spec L2
section
variable {X : Cx} {W : WC} {u u1 u2 : Nat} {o e a b : Expr} {ap pos p : Pos} {mo me ma mb : ME} {mas : MA}
def ents : List DictEntry → List (Str × Str) → Bool
  | [], [] => true
  | e :: es, (k, v) :: r => e.key.isStr k && e.val.isStr v && ents es r
  | _, _ => false
structure DctS (K : PySem.W.Frag) (w : World) (p : Addr) (kvs : List (Str × Str)) : Prop where
  ex : ∃ (es : Array DictEntry) (n : Nat), K.lookup p = some ⟨.type "dict", none, .dict es n, #[]⟩ ∧ PySem.W.KeysLit w.params es.toList ∧ ents es.toList kvs = true
  lo : (p == sysModules) = false
theorem oSl_tx {z : Str} {lo hi : Option Int} {R : DV → Prop} : oSl (.d (.str z)) lo hi R = (z.length ≤ sizeLine ∧ R (.d (.str (cutS z lo hi)))) := rfl
theorem oIx_tx {z : Str} {i : Int} {R : DV → Prop} : oIx (.d (.str z)) (.d (.int i)) R = (z.length ≤ sizeLine ∧ ∃ ch, atI z.cps.toList i = some ch ∧ R (.d (.str ⟨#[ch]⟩))) := rfl
end
end DL
namespace DL
open PySem PySem.Spec L2
section
variable {X : Cx} {W : WC} {u u1 u2 : Nat} {e a b : Expr} {p pos : Pos} {me ma mb : ME}
abbrev MJ := Str → XD → Env → (Str → Prop) → Prop
def liftJ (K : PySem.W.Frag) (mg : Str → Option Value) (W : WC) (u : Nat) (m : MJ) (acc : Str) (σ : L2.St) (H : Hp) (Q : Str → Hp → Prop) : Prop :=
  ∃ (ex : XD) (G : Gm) (F : Hp) (δ τ : Env) (ts : L2.St) (τ1 : Env) (ts1 : L2.St) (R : Str → Prop), Now K mg W u ex G F δ σ τ ts τ1 ts1 H ∧ m acc ex δ R ∧
    ∀ r, R r → ∀ F' H', Good (G.up u) F' (δ ++ τ ++ τ1) (σ ++ ts ++ ts1) H' → Q r H'
structure DFs (X : Cx) (W : WC) (es : List Expr) (m : MJ) (u : Nat) : Prop where
  ex : ∃ ts, PJ X es ts ∧ ∀ acc σ H Q, liftJ X.K X.mg W u m acc σ H Q → tJs ts acc σ H Q
variable {es : List Expr} {mj : MJ}
theorem vals_nil : vals [] = some [] := rfl
theorem vals_dc {x : PyData} {xs : List DV} : vals (.d x :: xs) = Option.map (x :: ·) (vals xs) := by
  show (match some x, vals xs with
    | some d, some ds => some (d :: ds)
    | _, _ => none) = _
  cases vals xs <;> rfl
theorem vals_oc {x : List PyData} {xs : List DV} : vals (.own x :: xs) = Option.map (.list x :: ·) (vals xs) := by
  show (match some (PyData.list x), vals xs with
    | some d, some ds => some (d :: ds)
    | _, _ => none) = _
  cases vals xs <;> rfl
theorem vals_kc {x : List (PyData × PyData)} {xs : List DV} : vals (.odk x :: xs) = Option.map (.dict x :: ·) (vals xs) := by
  show (match some (PyData.dict x), vals xs with
    | some d, some ds => some (d :: ds)
    | _, _ => none) = _
  cases vals xs <;> rfl
end
end DL
local macro_rules | `(tactic| walk_at "dl") => `(tactic| first | (simp only [DL.mSeq, DL.mNext, DL.mAsg, DL.mAug, DL.mBin, DL.mB, DL.mUn, DL.mTup, DL.mLst, DL.mCons, DL.mC, DL.mNil, DL.mVar, DL.mIfS, DL.mCB, DL.mCall, DL.mRet, DL.mSl, DL.mPN, DL.mPS, DL.mAnd, DL.mOr, DL.mNot, DL.mAndV, DL.o1, DL.o2, DL.mSto, DL.mMut]; try simp only [DL.oSl_tx, DL.oIx_tx, DL.oMaxHd_o, DL.oMaxHd_l, DL.oMaxHd_b, DL.mIEnumT, DL.enumD, DL.zipD, DL.mLck, DL.mIKeys, DL.mDisp1, DL.mIsi2, DL.num_i, DL.dct_ot, DL.dct_bt, DL.keyL_nil, DL.keyL_i, DL.keyL_s, DL.seen_lt, DL.isBor_lt, DL.keyD, DL.seen_ot, DL.seen_bt, DL.isBor_ot, DL.isBor_bt, DL.seen_k, DL.seen_bk, DL.seen_lk, DL.seen_bl, DL.seen_ld, DL.fix_k, DL.fix_bk, DL.isBor_k, DL.isBor_bk, DL.isBor_ld, DL.dic_d, DL.isObj_0, DL.isObj_s, DL.isObj_i, DL.dic_k, DL.dic_bk, DL.dic_bl, DL.dic_ld, DL.key_i, DL.key_s, DL.wlk_b, DL.wlk_l, DL.isLk_d, DL.isLk_o, DL.isOdk_0, DL.isOdk_s, Bool.false_bne, Bool.true_bne, DL.dr_nil, DL.dr_n, DL.dr_d, DL.dr_c, DL.dr_o, DL.dr_b, DL.dr_r, DL.dr_s, DL.mRaise1, DL.seen_e, DL.isBor_e, DL.oMaxA_t, DL.oMaxA_l, DL.oMaxA_o, DL.oMaxA_b, DL.bodyD, DL.startD, DL.mSeq, DL.mNext, DL.mFrz, DL.mRet, DL.mDrop, DL.mIfS, DL.gN, DL.gsN, DL.gT, DL.gL, DL.mAsg, DL.mPar2, DL.mPar3, DL.mAug, 
  DL.mMut, DL.mutRun, DL.isOwnAt, DL.mSto, DL.mCall, DL.argsD, DL.mVar, DL.mC, DL.mRaw, DL.mBin, DL.mB, DL.mChain, DL.mAnd, DL.mOr, DL.mNot, DL.mAndV, DL.mNotV, 
  DL.mNil, DL.mCons, DL.mCB, DL.mTup, DL.mLst, DL.vals_nil, DL.vals_dc, DL.vals_oc, DL.vals_kc, DL.mIL, DL.mIT, DL.mR1, DL.mR2, DL.mR3, DL.mFor, DL.mForN, DL.mLc, DL.oLt, DL.oLe, DL.oGt, DL.oGe, DL.mUn, 
  DL.o1, DL.o2, DL.oSortH_o, DL.oSortH_l, DL.oSortH_b, DL.oSum, DL.mSl, DL.mPN, DL.mPS, DL.mYes, DL.uApp, DL.uExt, DL.oEqE_l, DL.oEqE_o, DL.oEqE_b, DL.oNeE_l, DL.oNeE_o, DL.oNeE_b, DL.oEqE_t, DL.oNeE_t, DL.val_odk, DL.mMeth, DL.oIdx, DL.oReprD, DL.wipeD, DL.seenD, DL.oSub_i, DL.val_d, DL.val_o, 
  DL.seen_d, DL.seen_o, DL.seen_b, DL.seen_c, DL.seen_s, DL.fix_d, DL.fix_o, DL.fix_b, DL.fix_c, DL.isBor_d, DL.isBor_o, DL.isBor_b, DL.isBor_c, DL.isBor_s, DL.tru_b, DL.lst_dl, 
  DL.rd_dl, DL.lst_o, DL.rd_o, DL.lst_b, DL.rd_b, DL.seq_dl, DL.seq_dt, DL.seq_o, DL.seq_b, DL.rd_s, DL.pd_d, DL.pd_o, DL.pd_b, DL.oI_T, DL.oEq_ssf, DL.oEq_ndf, DL.oEq_nof, 
  DL.oEq_nrf, DL.oEq_dnf, DL.oEq_bdf, DL.oEq_bof, DL.oEq_brf, DL.oEq_dbf, DL.oEq_idf, DL.oEq_iof, DL.oEq_irf, DL.oEq_dif, DL.oEq_ldf, DL.oEq_lof, DL.oEq_lrf, DL.oEq_dlf, DL.oEq_tdf, 
  DL.oEq_tof, DL.oEq_trf, DL.oEq_dtf, DL.oEq_kdf, DL.oEq_kof, DL.oEq_krf, DL.oEq_dkf, DL.oEq_odf, DL.oEq_oof, DL.oEq_orf, DL.oEq_dof, DL.oEq_rdf, DL.oEq_rof, DL.oEq_rrf, DL.oEq_drf, 
  DL.oEq_sst, DL.oEq_ndt, DL.oEq_not, DL.oEq_nrt, DL.oEq_dnt, DL.oEq_bdt, DL.oEq_bot, DL.oEq_brt, DL.oEq_dbt, DL.oEq_idt, DL.oEq_iot, DL.oEq_irt, DL.oEq_dit, DL.oEq_ldt, DL.oEq_lot, 
  DL.oEq_lrt, DL.oEq_dlt, DL.oEq_tdt, DL.oEq_tot, DL.oEq_trt, DL.oEq_dtt, DL.oEq_kdt, DL.oEq_kot, DL.oEq_krt, DL.oEq_dkt, DL.oEq_odt, DL.oEq_oot, DL.oEq_ort, DL.oEq_dot, DL.oEq_rdt, 
  DL.oEq_rot, DL.oEq_rrt, DL.oEq_drt, DL.oI_i, DL.oC_i, DL.oAdd_i, DL.oAdd_s, DL.oAdd_t, DL.oAdd_ll, DL.oAdd_lo, DL.oAdd_lb, DL.oAdd_ol, 
  DL.oAdd_oo, DL.oAdd_ob, DL.oAdd_bl, DL.oAdd_bo, DL.oAdd_bb, DL.oMul_i, DL.oMul_l, DL.oMul_o, DL.oMul_b, DL.oNeg_i, DL.oIn_dtf, DL.oIn_dtt, DL.oIn_dlf, DL.oIn_dlt, DL.oIn_dof, 
  DL.oIn_dot, DL.oIn_dbf, DL.oIn_dbt, DL.oIn_otf, DL.oIn_ott, DL.oIn_olf, DL.oIn_olt, DL.oIn_oof, DL.oIn_oot, DL.oIn_obf, DL.oIn_obt, DL.oIn_btf, DL.oIn_btt, DL.oIn_blf, DL.oIn_blt, 
  DL.oIn_bof, DL.oIn_bot, DL.oIn_bbf, DL.oIn_bbt, DL.oIsN_nnf, DL.oIsN_if, DL.oIsN_bf, DL.oIsN_sf, DL.oIsN_tf, DL.oIsN_lf, DL.oIsN_of, DL.oIsN_rf, DL.oIsN_nnt, DL.oIsN_it, DL.oIsN_bt, 
  DL.oIsN_st, DL.oIsN_tt, DL.oIsN_lt, DL.oIsN_ot, DL.oIsN_rt, DL.oIx_t, DL.oLen_t, DL.oList_t, DL.oIx_l, DL.oLen_l, DL.oList_l, DL.oIx_o, DL.oLen_o, DL.oList_o, DL.oIx_b, DL.oLen_b, 
  DL.oList_b, DL.oLen_s, DL.oLen_x, DL.oAbs_i, DL.oMax2_i, DL.oMin2_i, DL.oInt_i, DL.oInt_b, DL.oTuple_t, DL.oTuple_l, DL.oTuple_o, DL.oTuple_b, DL.oInts_l, DL.oInts_o, DL.oInts_b, 
  DL.oIsi_d, DL.oIsi_o, DL.oIsi_b, DL.oSl_t, DL.oSl_l, DL.oSl_o, DL.oSl_b, DL.oSl_s, DL.oBack_t, DL.oBack_l, DL.oBack_o, DL.oBack_b, List.map_cons, List.map_nil, List.length_cons, 
  List.length_nil, List.replicate_succ, List.replicate_zero, List.cons_append, List.nil_append, List.append_nil, DL.ge0, DL.ges, List.set_cons_zero, List.set_cons_succ, Nat.reduceAdd, 
  Nat.reduceSub, Nat.reduceLT, Option.map_some, Option.map_none, and_true, true_and, List.getElem?_nil, forall_const, Bool.not_true, Bool.not_false, DL.at0, DL.at1, DL.at2, DL.at3, DL.at4, DL.at5, 
  Int.toNat_natCast, Int.toNat_one, Int.toNat_zero, DL.all_nil', DL.tf_t, DL.tf_f, DL.tf1, DL.tf2, DL.tf3, DL.tf4]) | simp only [DL.oSl_tx, DL.oIx_tx, DL.oMaxHd_o, DL.oMaxHd_l, DL.oMaxHd_b, DL.mIEnumT, DL.enumD, DL.zipD, DL.mLck, DL.mIKeys, DL.mDisp1, DL.mIsi2, DL.num_i, DL.dct_ot, DL.dct_bt, DL.keyL_nil, DL.keyL_i, DL.keyL_s, DL.seen_lt, DL.isBor_lt, DL.keyD, DL.seen_ot, DL.seen_bt, DL.isBor_ot, DL.isBor_bt, DL.seen_k, DL.seen_bk, DL.seen_lk, DL.seen_bl, DL.seen_ld, DL.fix_k, DL.fix_bk, DL.isBor_k, DL.isBor_bk, DL.isBor_ld, DL.dic_d, DL.isObj_0, DL.isObj_s, DL.isObj_i, DL.dic_k, DL.dic_bk, DL.dic_bl, DL.dic_ld, DL.key_i, DL.key_s, DL.wlk_b, DL.wlk_l, DL.isLk_d, DL.isLk_o, DL.isOdk_0, DL.isOdk_s, Bool.false_bne, Bool.true_bne, DL.dr_nil, DL.dr_n, DL.dr_d, DL.dr_c, DL.dr_o, DL.dr_b, DL.dr_r, DL.dr_s, DL.mRaise1, DL.seen_e, DL.isBor_e, DL.oMaxA_t, DL.oMaxA_l, DL.oMaxA_o, DL.oMaxA_b, DL.bodyD, DL.startD, DL.mSeq, DL.mNext, DL.mFrz, DL.mRet, DL.mDrop, DL.mIfS, DL.gN, DL.gsN, DL.gT, DL.gL, DL.mAsg, DL.mPar2, DL.mPar3, DL.mAug, 
  DL.mMut, DL.mutRun, DL.isOwnAt, DL.mSto, DL.mCall, DL.argsD, DL.mVar, DL.mC, DL.mRaw, DL.mBin, DL.mB, DL.mChain, DL.mAnd, DL.mOr, DL.mNot, DL.mAndV, DL.mNotV, 
  DL.mNil, DL.mCons, DL.mCB, DL.mTup, DL.mLst, DL.vals_nil, DL.vals_dc, DL.vals_oc, DL.vals_kc, DL.mIL, DL.mIT, DL.mR1, DL.mR2, DL.mR3, DL.mFor, DL.mForN, DL.mLc, DL.oLt, DL.oLe, DL.oGt, DL.oGe, DL.mUn, 
  DL.o1, DL.o2, DL.oSortH_o, DL.oSortH_l, DL.oSortH_b, DL.oSum, DL.mSl, DL.mPN, DL.mPS, DL.mYes, DL.uApp, DL.uExt, DL.oEqE_l, DL.oEqE_o, DL.oEqE_b, DL.oNeE_l, DL.oNeE_o, DL.oNeE_b, DL.oEqE_t, DL.oNeE_t, DL.val_odk, DL.mMeth, DL.oIdx, DL.oReprD, DL.wipeD, DL.seenD, DL.oSub_i, DL.val_d, DL.val_o, 
  DL.seen_d, DL.seen_o, DL.seen_b, DL.seen_c, DL.seen_s, DL.fix_d, DL.fix_o, DL.fix_b, DL.fix_c, DL.isBor_d, DL.isBor_o, DL.isBor_b, DL.isBor_c, DL.isBor_s, DL.tru_b, DL.lst_dl, 
  DL.rd_dl, DL.lst_o, DL.rd_o, DL.lst_b, DL.rd_b, DL.seq_dl, DL.seq_dt, DL.seq_o, DL.seq_b, DL.rd_s, DL.pd_d, DL.pd_o, DL.pd_b, DL.oI_T, DL.oEq_ssf, DL.oEq_ndf, DL.oEq_nof, 
  DL.oEq_nrf, DL.oEq_dnf, DL.oEq_bdf, DL.oEq_bof, DL.oEq_brf, DL.oEq_dbf, DL.oEq_idf, DL.oEq_iof, DL.oEq_irf, DL.oEq_dif, DL.oEq_ldf, DL.oEq_lof, DL.oEq_lrf, DL.oEq_dlf, DL.oEq_tdf, 
  DL.oEq_tof, DL.oEq_trf, DL.oEq_dtf, DL.oEq_kdf, DL.oEq_kof, DL.oEq_krf, DL.oEq_dkf, DL.oEq_odf, DL.oEq_oof, DL.oEq_orf, DL.oEq_dof, DL.oEq_rdf, DL.oEq_rof, DL.oEq_rrf, DL.oEq_drf, 
  DL.oEq_sst, DL.oEq_ndt, DL.oEq_not, DL.oEq_nrt, DL.oEq_dnt, DL.oEq_bdt, DL.oEq_bot, DL.oEq_brt, DL.oEq_dbt, DL.oEq_idt, DL.oEq_iot, DL.oEq_irt, DL.oEq_dit, DL.oEq_ldt, DL.oEq_lot, 
  DL.oEq_lrt, DL.oEq_dlt, DL.oEq_tdt, DL.oEq_tot, DL.oEq_trt, DL.oEq_dtt, DL.oEq_kdt, DL.oEq_kot, DL.oEq_krt, DL.oEq_dkt, DL.oEq_odt, DL.oEq_oot, DL.oEq_ort, DL.oEq_dot, DL.oEq_rdt, 
  DL.oEq_rot, DL.oEq_rrt, DL.oEq_drt, DL.oI_i, DL.oC_i, DL.oAdd_i, DL.oAdd_s, DL.oAdd_t, DL.oAdd_ll, DL.oAdd_lo, DL.oAdd_lb, DL.oAdd_ol, 
  DL.oAdd_oo, DL.oAdd_ob, DL.oAdd_bl, DL.oAdd_bo, DL.oAdd_bb, DL.oMul_i, DL.oMul_l, DL.oMul_o, DL.oMul_b, DL.oNeg_i, DL.oIn_dtf, DL.oIn_dtt, DL.oIn_dlf, DL.oIn_dlt, DL.oIn_dof, 
  DL.oIn_dot, DL.oIn_dbf, DL.oIn_dbt, DL.oIn_otf, DL.oIn_ott, DL.oIn_olf, DL.oIn_olt, DL.oIn_oof, DL.oIn_oot, DL.oIn_obf, DL.oIn_obt, DL.oIn_btf, DL.oIn_btt, DL.oIn_blf, DL.oIn_blt, 
  DL.oIn_bof, DL.oIn_bot, DL.oIn_bbf, DL.oIn_bbt, DL.oIsN_nnf, DL.oIsN_if, DL.oIsN_bf, DL.oIsN_sf, DL.oIsN_tf, DL.oIsN_lf, DL.oIsN_of, DL.oIsN_rf, DL.oIsN_nnt, DL.oIsN_it, DL.oIsN_bt, 
  DL.oIsN_st, DL.oIsN_tt, DL.oIsN_lt, DL.oIsN_ot, DL.oIsN_rt, DL.oIx_t, DL.oLen_t, DL.oList_t, DL.oIx_l, DL.oLen_l, DL.oList_l, DL.oIx_o, DL.oLen_o, DL.oList_o, DL.oIx_b, DL.oLen_b, 
  DL.oList_b, DL.oLen_s, DL.oLen_x, DL.oAbs_i, DL.oMax2_i, DL.oMin2_i, DL.oInt_i, DL.oInt_b, DL.oTuple_t, DL.oTuple_l, DL.oTuple_o, DL.oTuple_b, DL.oInts_l, DL.oInts_o, DL.oInts_b, 
  DL.oIsi_d, DL.oIsi_o, DL.oIsi_b, DL.oSl_t, DL.oSl_l, DL.oSl_o, DL.oSl_b, DL.oSl_s, DL.oBack_t, DL.oBack_l, DL.oBack_o, DL.oBack_b, List.map_cons, List.map_nil, List.length_cons, 
  List.length_nil, List.replicate_succ, List.replicate_zero, List.cons_append, List.nil_append, List.append_nil, DL.ge0, DL.ges, List.set_cons_zero, List.set_cons_succ, Nat.reduceAdd, 
  Nat.reduceSub, Nat.reduceLT, Option.map_some, Option.map_none, and_true, true_and, List.getElem?_nil, forall_const, Bool.not_true, Bool.not_false, DL.at0, DL.at1, DL.at2, DL.at3, DL.at4, DL.at5, 
  Int.toNat_natCast, Int.toNat_one, Int.toNat_zero, DL.all_nil', DL.tf_t, DL.tf_f, DL.tf1, DL.tf2, DL.tf3, DL.tf4])
local macro_rules | `(tactic| walk_at "dx") => `(tactic| first | (simp only [DL.mSeq, DL.mNext, DL.mAsg, DL.mAug, DL.mBin, DL.mB, DL.mUn, DL.mTup, DL.mLst, DL.mCons, DL.mC, DL.mNil, DL.mVar, DL.mIfS, DL.mCB, DL.mCall, DL.mRet, DL.mSl, DL.mPN, DL.mPS, DL.mAnd, DL.mOr, DL.mNot, DL.mAndV, DL.o1, DL.o2, DL.mSto, DL.mMut]; try simp only [DL.oSl_tx, DL.oIx_tx, DL.oMaxHd_o, DL.oMaxHd_l, DL.oMaxHd_b, DL.eqv_lr, DL.eqv_rl, DL.eqv_ll, DL.eqv_rr, DL.mIEnumT, DL.enumD, DL.zipD, DL.cp2, DL.pw2, DL.cp3, DL.pw3, DL.cp4, DL.pw4, DL.cp5, DL.pw5, DL.cp6, DL.pw6, DL.cp7, DL.pw7, DL.cp8, DL.pw8, DL.cp9, DL.pw9, DL.cp10, DL.pw10, DL.cp11, DL.pw11, DL.cp12, DL.pw12, DL.cp13, DL.pw13, DL.cp14, DL.pw14, DL.cp15, DL.pw15, DL.cp16, DL.pw16, DL.cp17, DL.pw17, DL.cp18, DL.pw18, DL.cp19, DL.pw19, DL.cp20, DL.pw20, DL.cp21, DL.pw21, DL.cp22, DL.pw22, DL.cp23, DL.pw23, DL.cp24, DL.pw24, DL.cp25, DL.pw25, DL.cp26, DL.pw26, DL.cp27, DL.pw27, DL.cp28, DL.pw28, DL.cp29, DL.pw29, DL.cp30, DL.pw30, DL.cp31, DL.pw31, DL.cp32, DL.pw32, DL.cp33, DL.pw33, DL.cp34, DL.pw34, DL.cp35, DL.pw35, DL.cp36, DL.pw36, DL.cp37, DL.pw37, DL.cp38, DL.pw38, DL.cp39, DL.pw39, DL.cp40, DL.pw40,
  DL.eqv_ii, DL.eqv_bb, DL.shaped_i, DL.shaped_b, DL.shaped_n, DL.shaped_nil, DL.shaped_nilt, DL.if_tt, DL.if_ff, decide_eq_true_eq, decide_eq_false_iff_not, Bool.not_eq_true', Bool.not_eq_false', Int.zero_add, Int.add_zero, ite_true, ite_false, eq_self_iff_true,
  DL.mLck, DL.mIKeys, DL.mDisp1, DL.mIsi2, DL.num_i, DL.dct_ot, DL.dct_bt, DL.keyL_nil, DL.keyL_i, DL.keyL_s, DL.seen_lt, DL.isBor_lt, DL.keyD, DL.seen_ot, DL.seen_bt, DL.isBor_ot, DL.isBor_bt, DL.seen_k, DL.seen_bk, DL.seen_lk, DL.seen_bl, DL.seen_ld, DL.fix_k, DL.fix_bk, DL.isBor_k, DL.isBor_bk, DL.isBor_ld, DL.dic_d, DL.isObj_0, DL.isObj_s, DL.isObj_i, DL.dic_k, DL.dic_bk, DL.dic_bl, DL.dic_ld, DL.key_i, DL.key_s, DL.wlk_b, DL.wlk_l, DL.isLk_d, DL.isLk_o, DL.isOdk_0, DL.isOdk_s, Bool.false_bne, Bool.true_bne, DL.dr_nil, DL.dr_n, DL.dr_d, DL.dr_c, DL.dr_o, DL.dr_b, DL.dr_r, DL.dr_s, DL.mRaise1, DL.seen_e, DL.isBor_e, DL.oMaxA_t, DL.oMaxA_l, DL.oMaxA_o, DL.oMaxA_b, DL.bodyD, DL.startD, DL.mSeq, DL.mNext, DL.mFrz, DL.mRet, DL.mDrop, DL.mIfS, DL.gN, DL.gsN, DL.gT, DL.gL, DL.mAsg, DL.mPar2, DL.mPar3, DL.mAug, 
  DL.mMut, DL.mutRun, DL.isOwnAt, DL.mSto, DL.mCall, DL.argsD, DL.mVar, DL.mC, DL.mRaw, DL.mBin, DL.mB, DL.mChain, DL.mAnd, DL.mOr, DL.mNot, DL.mAndV, DL.mNotV, 
  DL.mNil, DL.mCons, DL.mCB, DL.mTup, DL.mLst, DL.vals_nil, DL.vals_dc, DL.vals_oc, DL.vals_kc, DL.mIL, DL.mIT, DL.mR1, DL.mR2, DL.mR3, DL.mFor, DL.mForN, DL.mLc, DL.oLt, DL.oLe, DL.oGt, DL.oGe, DL.mUn, 
  DL.o1, DL.o2, DL.oSortH_o, DL.oSortH_l, DL.oSortH_b, DL.oSum, DL.mSl, DL.mPN, DL.mPS, DL.mYes, DL.uApp, DL.uExt, DL.oEqE_l, DL.oEqE_o, DL.oEqE_b, DL.oNeE_l, DL.oNeE_o, DL.oNeE_b, DL.oEqE_t, DL.oNeE_t, DL.val_odk, DL.mMeth, DL.oIdx, DL.oReprD, DL.wipeD, DL.seenD, DL.oSub_i, DL.val_d, DL.val_o, 
  DL.seen_d, DL.seen_o, DL.seen_b, DL.seen_c, DL.seen_s, DL.fix_d, DL.fix_o, DL.fix_b, DL.fix_c, DL.isBor_d, DL.isBor_o, DL.isBor_b, DL.isBor_c, DL.isBor_s, DL.tru_b, DL.lst_dl, 
  DL.rd_dl, DL.lst_o, DL.rd_o, DL.lst_b, DL.rd_b, DL.seq_dl, DL.seq_dt, DL.seq_o, DL.seq_b, DL.rd_s, DL.pd_d, DL.pd_o, DL.pd_b, DL.oI_T, DL.oEq_ssf, DL.oEq_ndf, DL.oEq_nof, 
  DL.oEq_nrf, DL.oEq_dnf, DL.oEq_bdf, DL.oEq_bof, DL.oEq_brf, DL.oEq_dbf, DL.oEq_idf, DL.oEq_iof, DL.oEq_irf, DL.oEq_dif, DL.oEq_ldf, DL.oEq_lof, DL.oEq_lrf, DL.oEq_dlf, DL.oEq_tdf, 
  DL.oEq_tof, DL.oEq_trf, DL.oEq_dtf, DL.oEq_kdf, DL.oEq_kof, DL.oEq_krf, DL.oEq_dkf, DL.oEq_odf, DL.oEq_oof, DL.oEq_orf, DL.oEq_dof, DL.oEq_rdf, DL.oEq_rof, DL.oEq_rrf, DL.oEq_drf, 
  DL.oEq_sst, DL.oEq_ndt, DL.oEq_not, DL.oEq_nrt, DL.oEq_dnt, DL.oEq_bdt, DL.oEq_bot, DL.oEq_brt, DL.oEq_dbt, DL.oEq_idt, DL.oEq_iot, DL.oEq_irt, DL.oEq_dit, DL.oEq_ldt, DL.oEq_lot, 
  DL.oEq_lrt, DL.oEq_dlt, DL.oEq_tdt, DL.oEq_tot, DL.oEq_trt, DL.oEq_dtt, DL.oEq_kdt, DL.oEq_kot, DL.oEq_krt, DL.oEq_dkt, DL.oEq_odt, DL.oEq_oot, DL.oEq_ort, DL.oEq_dot, DL.oEq_rdt, 
  DL.oEq_rot, DL.oEq_rrt, DL.oEq_drt, DL.oI_i, DL.oC_i, DL.oAdd_i, DL.oAdd_s, DL.oAdd_t, DL.oAdd_ll, DL.oAdd_lo, DL.oAdd_lb, DL.oAdd_ol, 
  DL.oAdd_oo, DL.oAdd_ob, DL.oAdd_bl, DL.oAdd_bo, DL.oAdd_bb, DL.oMul_i, DL.oMul_l, DL.oMul_o, DL.oMul_b, DL.oNeg_i, DL.oIn_dtf, DL.oIn_dtt, DL.oIn_dlf, DL.oIn_dlt, DL.oIn_dof, 
  DL.oIn_dot, DL.oIn_dbf, DL.oIn_dbt, DL.oIn_otf, DL.oIn_ott, DL.oIn_olf, DL.oIn_olt, DL.oIn_oof, DL.oIn_oot, DL.oIn_obf, DL.oIn_obt, DL.oIn_btf, DL.oIn_btt, DL.oIn_blf, DL.oIn_blt, 
  DL.oIn_bof, DL.oIn_bot, DL.oIn_bbf, DL.oIn_bbt, DL.oIsN_nnf, DL.oIsN_if, DL.oIsN_bf, DL.oIsN_sf, DL.oIsN_tf, DL.oIsN_lf, DL.oIsN_of, DL.oIsN_rf, DL.oIsN_nnt, DL.oIsN_it, DL.oIsN_bt, 
  DL.oIsN_st, DL.oIsN_tt, DL.oIsN_lt, DL.oIsN_ot, DL.oIsN_rt, DL.oIx_t, DL.oLen_t, DL.oList_t, DL.oIx_l, DL.oLen_l, DL.oList_l, DL.oIx_o, DL.oLen_o, DL.oList_o, DL.oIx_b, DL.oLen_b, 
  DL.oList_b, DL.oLen_s, DL.oLen_x, DL.oAbs_i, DL.oMax2_i, DL.oMin2_i, DL.oInt_i, DL.oInt_b, DL.oTuple_t, DL.oTuple_l, DL.oTuple_o, DL.oTuple_b, DL.oInts_l, DL.oInts_o, DL.oInts_b, 
  DL.oIsi_d, DL.oIsi_o, DL.oIsi_b, DL.oSl_t, DL.oSl_l, DL.oSl_o, DL.oSl_b, DL.oSl_s, DL.oBack_t, DL.oBack_l, DL.oBack_o, DL.oBack_b, List.map_cons, List.map_nil, List.length_cons, 
  List.length_nil, List.replicate_succ, List.replicate_zero, List.cons_append, List.nil_append, List.append_nil, DL.ge0, DL.ges, List.set_cons_zero, List.set_cons_succ, Nat.reduceAdd, 
  Nat.reduceSub, Nat.reduceLT, Option.map_some, Option.map_none, and_true, true_and, List.getElem?_nil, forall_const, Bool.not_true, Bool.not_false, DL.at0, DL.at1, DL.at2, DL.at3, DL.at4, DL.at5, 
  Int.toNat_natCast, Int.toNat_one, Int.toNat_zero, DL.all_nil', DL.tf_t, DL.tf_f, DL.tf1, DL.tf2, DL.tf3, DL.tf4]) | simp only [DL.oSl_tx, DL.oIx_tx, DL.oMaxHd_o, DL.oMaxHd_l, DL.oMaxHd_b, DL.eqv_lr, DL.eqv_rl, DL.eqv_ll, DL.eqv_rr, DL.mIEnumT, DL.enumD, DL.zipD, DL.cp2, DL.pw2, DL.cp3, DL.pw3, DL.cp4, DL.pw4, DL.cp5, DL.pw5, DL.cp6, DL.pw6, DL.cp7, DL.pw7, DL.cp8, DL.pw8, DL.cp9, DL.pw9, DL.cp10, DL.pw10, DL.cp11, DL.pw11, DL.cp12, DL.pw12, DL.cp13, DL.pw13, DL.cp14, DL.pw14, DL.cp15, DL.pw15, DL.cp16, DL.pw16, DL.cp17, DL.pw17, DL.cp18, DL.pw18, DL.cp19, DL.pw19, DL.cp20, DL.pw20, DL.cp21, DL.pw21, DL.cp22, DL.pw22, DL.cp23, DL.pw23, DL.cp24, DL.pw24, DL.cp25, DL.pw25, DL.cp26, DL.pw26, DL.cp27, DL.pw27, DL.cp28, DL.pw28, DL.cp29, DL.pw29, DL.cp30, DL.pw30, DL.cp31, DL.pw31, DL.cp32, DL.pw32, DL.cp33, DL.pw33, DL.cp34, DL.pw34, DL.cp35, DL.pw35, DL.cp36, DL.pw36, DL.cp37, DL.pw37, DL.cp38, DL.pw38, DL.cp39, DL.pw39, DL.cp40, DL.pw40,
  DL.eqv_ii, DL.eqv_bb, DL.shaped_i, DL.shaped_b, DL.shaped_n, DL.shaped_nil, DL.shaped_nilt, DL.if_tt, DL.if_ff, decide_eq_true_eq, decide_eq_false_iff_not, Bool.not_eq_true', Bool.not_eq_false', Int.zero_add, Int.add_zero, ite_true, ite_false, eq_self_iff_true,
  DL.mLck, DL.mIKeys, DL.mDisp1, DL.mIsi2, DL.num_i, DL.dct_ot, DL.dct_bt, DL.keyL_nil, DL.keyL_i, DL.keyL_s, DL.seen_lt, DL.isBor_lt, DL.keyD, DL.seen_ot, DL.seen_bt, DL.isBor_ot, DL.isBor_bt, DL.seen_k, DL.seen_bk, DL.seen_lk, DL.seen_bl, DL.seen_ld, DL.fix_k, DL.fix_bk, DL.isBor_k, DL.isBor_bk, DL.isBor_ld, DL.dic_d, DL.isObj_0, DL.isObj_s, DL.isObj_i, DL.dic_k, DL.dic_bk, DL.dic_bl, DL.dic_ld, DL.key_i, DL.key_s, DL.wlk_b, DL.wlk_l, DL.isLk_d, DL.isLk_o, DL.isOdk_0, DL.isOdk_s, Bool.false_bne, Bool.true_bne, DL.dr_nil, DL.dr_n, DL.dr_d, DL.dr_c, DL.dr_o, DL.dr_b, DL.dr_r, DL.dr_s, DL.mRaise1, DL.seen_e, DL.isBor_e, DL.oMaxA_t, DL.oMaxA_l, DL.oMaxA_o, DL.oMaxA_b, DL.bodyD, DL.startD, DL.mSeq, DL.mNext, DL.mFrz, DL.mRet, DL.mDrop, DL.mIfS, DL.gN, DL.gsN, DL.gT, DL.gL, DL.mAsg, DL.mPar2, DL.mPar3, DL.mAug, 
  DL.mMut, DL.mutRun, DL.isOwnAt, DL.mSto, DL.mCall, DL.argsD, DL.mVar, DL.mC, DL.mRaw, DL.mBin, DL.mB, DL.mChain, DL.mAnd, DL.mOr, DL.mNot, DL.mAndV, DL.mNotV, 
  DL.mNil, DL.mCons, DL.mCB, DL.mTup, DL.mLst, DL.vals_nil, DL.vals_dc, DL.vals_oc, DL.vals_kc, DL.mIL, DL.mIT, DL.mR1, DL.mR2, DL.mR3, DL.mFor, DL.mForN, DL.mLc, DL.oLt, DL.oLe, DL.oGt, DL.oGe, DL.mUn, 
  DL.o1, DL.o2, DL.oSortH_o, DL.oSortH_l, DL.oSortH_b, DL.oSum, DL.mSl, DL.mPN, DL.mPS, DL.mYes, DL.uApp, DL.uExt, DL.oEqE_l, DL.oEqE_o, DL.oEqE_b, DL.oNeE_l, DL.oNeE_o, DL.oNeE_b, DL.oEqE_t, DL.oNeE_t, DL.val_odk, DL.mMeth, DL.oIdx, DL.oReprD, DL.wipeD, DL.seenD, DL.oSub_i, DL.val_d, DL.val_o, 
  DL.seen_d, DL.seen_o, DL.seen_b, DL.seen_c, DL.seen_s, DL.fix_d, DL.fix_o, DL.fix_b, DL.fix_c, DL.isBor_d, DL.isBor_o, DL.isBor_b, DL.isBor_c, DL.isBor_s, DL.tru_b, DL.lst_dl, 
  DL.rd_dl, DL.lst_o, DL.rd_o, DL.lst_b, DL.rd_b, DL.seq_dl, DL.seq_dt, DL.seq_o, DL.seq_b, DL.rd_s, DL.pd_d, DL.pd_o, DL.pd_b, DL.oI_T, DL.oEq_ssf, DL.oEq_ndf, DL.oEq_nof, 
  DL.oEq_nrf, DL.oEq_dnf, DL.oEq_bdf, DL.oEq_bof, DL.oEq_brf, DL.oEq_dbf, DL.oEq_idf, DL.oEq_iof, DL.oEq_irf, DL.oEq_dif, DL.oEq_ldf, DL.oEq_lof, DL.oEq_lrf, DL.oEq_dlf, DL.oEq_tdf, 
  DL.oEq_tof, DL.oEq_trf, DL.oEq_dtf, DL.oEq_kdf, DL.oEq_kof, DL.oEq_krf, DL.oEq_dkf, DL.oEq_odf, DL.oEq_oof, DL.oEq_orf, DL.oEq_dof, DL.oEq_rdf, DL.oEq_rof, DL.oEq_rrf, DL.oEq_drf, 
  DL.oEq_sst, DL.oEq_ndt, DL.oEq_not, DL.oEq_nrt, DL.oEq_dnt, DL.oEq_bdt, DL.oEq_bot, DL.oEq_brt, DL.oEq_dbt, DL.oEq_idt, DL.oEq_iot, DL.oEq_irt, DL.oEq_dit, DL.oEq_ldt, DL.oEq_lot, 
  DL.oEq_lrt, DL.oEq_dlt, DL.oEq_tdt, DL.oEq_tot, DL.oEq_trt, DL.oEq_dtt, DL.oEq_kdt, DL.oEq_kot, DL.oEq_krt, DL.oEq_dkt, DL.oEq_odt, DL.oEq_oot, DL.oEq_ort, DL.oEq_dot, DL.oEq_rdt, 
  DL.oEq_rot, DL.oEq_rrt, DL.oEq_drt, DL.oI_i, DL.oC_i, DL.oAdd_i, DL.oAdd_s, DL.oAdd_t, DL.oAdd_ll, DL.oAdd_lo, DL.oAdd_lb, DL.oAdd_ol, 
  DL.oAdd_oo, DL.oAdd_ob, DL.oAdd_bl, DL.oAdd_bo, DL.oAdd_bb, DL.oMul_i, DL.oMul_l, DL.oMul_o, DL.oMul_b, DL.oNeg_i, DL.oIn_dtf, DL.oIn_dtt, DL.oIn_dlf, DL.oIn_dlt, DL.oIn_dof, 
  DL.oIn_dot, DL.oIn_dbf, DL.oIn_dbt, DL.oIn_otf, DL.oIn_ott, DL.oIn_olf, DL.oIn_olt, DL.oIn_oof, DL.oIn_oot, DL.oIn_obf, DL.oIn_obt, DL.oIn_btf, DL.oIn_btt, DL.oIn_blf, DL.oIn_blt, 
  DL.oIn_bof, DL.oIn_bot, DL.oIn_bbf, DL.oIn_bbt, DL.oIsN_nnf, DL.oIsN_if, DL.oIsN_bf, DL.oIsN_sf, DL.oIsN_tf, DL.oIsN_lf, DL.oIsN_of, DL.oIsN_rf, DL.oIsN_nnt, DL.oIsN_it, DL.oIsN_bt, 
  DL.oIsN_st, DL.oIsN_tt, DL.oIsN_lt, DL.oIsN_ot, DL.oIsN_rt, DL.oIx_t, DL.oLen_t, DL.oList_t, DL.oIx_l, DL.oLen_l, DL.oList_l, DL.oIx_o, DL.oLen_o, DL.oList_o, DL.oIx_b, DL.oLen_b, 
  DL.oList_b, DL.oLen_s, DL.oLen_x, DL.oAbs_i, DL.oMax2_i, DL.oMin2_i, DL.oInt_i, DL.oInt_b, DL.oTuple_t, DL.oTuple_l, DL.oTuple_o, DL.oTuple_b, DL.oInts_l, DL.oInts_o, DL.oInts_b, 
  DL.oIsi_d, DL.oIsi_o, DL.oIsi_b, DL.oSl_t, DL.oSl_l, DL.oSl_o, DL.oSl_b, DL.oSl_s, DL.oBack_t, DL.oBack_l, DL.oBack_o, DL.oBack_b, List.map_cons, List.map_nil, List.length_cons, 
  List.length_nil, List.replicate_succ, List.replicate_zero, List.cons_append, List.nil_append, List.append_nil, DL.ge0, DL.ges, List.set_cons_zero, List.set_cons_succ, Nat.reduceAdd, 
  Nat.reduceSub, Nat.reduceLT, Option.map_some, Option.map_none, and_true, true_and, List.getElem?_nil, forall_const, Bool.not_true, Bool.not_false, DL.at0, DL.at1, DL.at2, DL.at3, DL.at4, DL.at5, 
  Int.toNat_natCast, Int.toNat_one, Int.toNat_zero, DL.all_nil', DL.tf_t, DL.tf_f, DL.tf1, DL.tf2, DL.tf3, DL.tf4])
local macro_rules | `(tactic| walk_at "db") => `(tactic| simp only [DL.bodyD, DL.startD, List.map_cons, List.map_nil, List.length_cons, List.length_nil, List.replicate_succ, List.replicate_zero, List.cons_append, List.nil_append, List.append_nil, Nat.reduceAdd, Nat.reduceSub])
namespace Lk33
open PySem PySem.Spec L2 DL
def top (i : Nat) : Stmt := PySem.Challenge.pw_toppleline_k33_most_felled_stones.main.body.getD i (.Pass ⟨0, 0, 0, 0⟩)
abbrev s_is_integer : Stmt := top 6
abbrev s_right_ends : Stmt := top 7
abbrev s_mirrored : Stmt := top 8
abbrev s_stretches : Stmt := top 9
abbrev s_spans_of : Stmt := top 11
abbrev s_far_ends : Stmt := top 12
abbrev s_check_index : Stmt := top 13
abbrev s_best_from : Stmt := top 14
abbrev s_most_felled : Stmt := top 15
abbrev s__law_opened : Stmt := top 17
abbrev s__law_take : Stmt := top 18
abbrev s__law_stones : Stmt := top 19
abbrev s__law_right : Stmt := top 20
abbrev s__law_left : Stmt := top 21
abbrev s__law_pushes : Stmt := top 22
abbrev s__law_ends : Stmt := top 23
abbrev s__law_whole : Stmt := top 24
abbrev s__law_is_push : Stmt := top 25
abbrev s__law_felled : Stmt := top 26
abbrev s__law_power : Stmt := top 27
abbrev s__law_masks : Stmt := top 28
abbrev s__law_same : Stmt := top 29
abbrev s__law_bits : Stmt := top 30
abbrev s_law : Stmt := top 31
theorem sc_is_integer : FnScope ["value", "low", "high"] ["value", "low", "high"] (defScope s_is_integer) := ⟨rfl, rfl, rfl, by decide +kernel, rfl, by decide +kernel, by decide +kernel⟩
theorem sc_right_ends : FnScope ["row", "found", "stone", "last"] ["row"] (defScope s_right_ends) := ⟨rfl, rfl, rfl, by decide +kernel, rfl, by decide +kernel, by decide +kernel⟩
theorem sc_mirrored : FnScope ["row", "total", "place", "height"] ["row"] (defScope s_mirrored) := ⟨rfl, rfl, rfl, by decide +kernel, rfl, by decide +kernel, by decide +kernel⟩
theorem sc_stretches : FnScope ["row", "rights", "lefts", "last", "stone"] ["row"] (defScope s_stretches) := ⟨rfl, rfl, rfl, by decide +kernel, rfl, by decide +kernel, by decide +kernel⟩
theorem sc_spans_of : FnScope ["row", "found", "stone", "left", "right"] ["row"] (defScope s_spans_of) := ⟨rfl, rfl, rfl, by decide +kernel, rfl, by decide +kernel, by decide +kernel⟩
theorem sc_far_ends : FnScope ["row", "spans", "found", "stone", "push", "low", "high"] ["row"] (defScope s_far_ends) := ⟨rfl, rfl, rfl, by decide +kernel, rfl, by decide +kernel, by decide +kernel⟩
theorem sc_check_index : FnScope ["value", "many"] ["value", "many"] (defScope s_check_index) := ⟨rfl, rfl, rfl, by decide +kernel, rfl, by decide +kernel, by decide +kernel⟩
theorem sc_best_from : FnScope ["row", "many", "ends", "found", "turn", "best", "stone", "high"] ["row", "many"] (defScope s_best_from) := ⟨rfl, rfl, rfl, by decide +kernel, rfl, by decide +kernel, by decide +kernel⟩
theorem sc_most_felled : FnScope ["row", "many", "best", "ends", "stone", "left", "found"] ["row", "many"] (defScope s_most_felled) := ⟨rfl, rfl, rfl, by decide +kernel, rfl, by decide +kernel, by decide +kernel⟩
theorem sc__law_opened : FnScope ["_law_script", "_law_great", "_law_small", "_law_cell"] ["_law_script"] (defScope s__law_opened) := ⟨rfl, rfl, rfl, by decide +kernel, rfl, by decide +kernel, by decide +kernel⟩
theorem sc__law_take : FnScope ["_law_bag", "_law_many", "_law_digit", "_law_turn", "_law_much"] ["_law_bag", "_law_many"] (defScope s__law_take) := ⟨rfl, rfl, rfl, by decide +kernel, rfl, by decide +kernel, by decide +kernel⟩
theorem sc__law_stones : FnScope ["_law_bag", "_law_bound", "_law_wide", "_law_many", "_law_way", "_law_size", "_law_found", "_law_place", "_law_k", "_law_some"] ["_law_bag", "_law_bound", "_law_wide"] (defScope s__law_stones) := ⟨rfl, rfl, rfl, by decide +kernel, rfl, by decide +kernel, by decide +kernel⟩
theorem sc__law_right : FnScope ["_law_row", "_law_stone", "_law_far", "_law_last"] ["_law_row", "_law_stone"] (defScope s__law_right) := ⟨rfl, rfl, rfl, by decide +kernel, rfl, by decide +kernel, by decide +kernel⟩
theorem sc__law_left : FnScope ["_law_row", "_law_stone", "_law_near", "_law_low"] ["_law_row", "_law_stone"] (defScope s__law_left) := ⟨rfl, rfl, rfl, by decide +kernel, rfl, by decide +kernel, by decide +kernel⟩
theorem sc__law_pushes : FnScope ["_law_row", "_law_found", "_law_stone"] ["_law_row"] (defScope s__law_pushes) := ⟨rfl, rfl, rfl, by decide +kernel, rfl, by decide +kernel, by decide +kernel⟩
theorem sc__law_ends : FnScope ["_law_row", "_law_found", "_law_stone"] ["_law_row"] (defScope s__law_ends) := ⟨rfl, rfl, rfl, by decide +kernel, rfl, by decide +kernel, by decide +kernel⟩
theorem sc__law_whole : FnScope ["_law_value", "_law_low", "_law_high"] ["_law_value", "_law_low", "_law_high"] (defScope s__law_whole) := ⟨rfl, rfl, rfl, by decide +kernel, rfl, by decide +kernel, by decide +kernel⟩
theorem sc__law_is_push : FnScope ["_law_row", "_law_value"] ["_law_row", "_law_value"] (defScope s__law_is_push) := ⟨rfl, rfl, rfl, by decide +kernel, rfl, by decide +kernel, by decide +kernel⟩
theorem sc__law_felled : FnScope ["_law_row", "_law_cover", "_law_names", "_law_ends_here", "_law_found", "_law_spans", "_law_push", "_law_stone", "_law_low", "_law_high"] ["_law_row", "_law_cover"] (defScope s__law_felled) := ⟨rfl, rfl, rfl, by decide +kernel, rfl, by decide +kernel, by decide +kernel⟩
theorem sc__law_power : FnScope ["_law_number", "_law_found", "_law_k"] ["_law_number"] (defScope s__law_power) := ⟨rfl, rfl, rfl, by decide +kernel, rfl, by decide +kernel, by decide +kernel⟩
theorem sc__law_masks : FnScope ["_law_row", "_law_stone", "_law_low", "_law_high"] ["_law_row"] (defScope s__law_masks) := ⟨rfl, rfl, rfl, by decide +kernel, rfl, by decide +kernel, by decide +kernel⟩
theorem sc__law_same : FnScope ["_law_one", "_law_other", "_law_k"] ["_law_one", "_law_other"] (defScope s__law_same) := ⟨rfl, rfl, rfl, by decide +kernel, rfl, by decide +kernel, by decide +kernel⟩
theorem sc__law_bits : FnScope ["_law_number", "_law_found"] ["_law_number"] (defScope s__law_bits) := ⟨rfl, rfl, rfl, by decide +kernel, rfl, by decide +kernel, by decide +kernel⟩
theorem sc_law : FnScope ["_law_script", "_law_bag", "_law_turn", "_law_row", "_law_held", "_law_masks_here", "_law_states", "_law_many", "_law_told", "_law_best", "_law_some", "_law_felt", "_law_push", "_law_later", "_law_mask"] ["_law_script"] (defScope s_law) := ⟨rfl, rfl, rfl, by decide +kernel, rfl, by decide +kernel, by decide +kernel⟩
abbrev i_NoIndex : Stmt := inClass (top 2) 0
theorem si_NoIndex : FnScope ["self", "index"] ["self", "index"] (defScope i_NoIndex) := ⟨rfl, rfl, rfl, by decide +kernel, rfl, by decide +kernel, by decide +kernel⟩
theorem ini_NoIndex {P : Program} {w : World} {K : PySem.W.Frag} {mg : Str → Option Value} {base : Heap} {C f : Addr} {fd : FuncData} (F : L2.Fun K "__init__" "NoIndex.__init__" i_NoIndex f fd) (hO : OexC K C) (hno : PySem.W.findIn K (.ref C) "index" = some none) : FnOk P w K mg base L2.CX0 1 f fd ["self", "index"] (spInit K C "index") :=
  F.ok si_NoIndex (fun vs H Q E h => by obtain ⟨a, y, rfl, _⟩ := h; rfl) fun cdv A outer s H vs Q E hr h => ⟨_, pss_one (ps_ost (pv 0) (pv 1)), init_read hO hno rfl h⟩
structure Txt (K : PySem.W.Frag) (mg : Str → Option Value) : Prop where
  n_abs : mg "abs" = none
  n_bool : mg "bool" = none
  n_dict : mg "dict" = none
  n_enumerate : mg "enumerate" = none
  n_int : mg "int" = none
  n_isinstance : mg "isinstance" = none
  n_len : mg "len" = none
  n_list : mg "list" = none
  n_max : mg "max" = none
  n_min : mg "min" = none
  n_range : mg "range" = none
  n_repr : mg "repr" = none
  n_set : mg "set" = none
  n_sorted : mg "sorted" = none
  n_str : mg "str" = none
  n_sum : mg "sum" = none
  n_tuple : mg "tuple" = none
  c_LEFT : ∃ t, mg "LEFT" = some (.str "left" t)
  c_RIGHT : ∃ t, mg "RIGHT" = some (.str "right" t)
/-- the bag stands at c: a large number, a small one, how many were drawn -/
def bagK (g s d : Int) : List (Key × V) := [(.inr "great", .int g), (.inr "small", .int s), (.inr "drawn", .int d)]
def BagAt (c : Addr) (n : Nat) (H : Hp) : Prop := ∃ (g s d : Int), H c = some (.dK (bagK g s d)) ∧ 0 ≤ s ∧ s < 2 ^ 63 ∧ 0 ≤ d ∧ d ≤ n
def CK : CKT := fun C cv J lim => ∃ c, C = (fun p => p = c) ∧ cv = .ref c ∧ J = BagAt c ∧ lim = 2 ^ 40
def spBag (K : PySem.W.Frag) : Sp := fun vs H Q _ => ∃ (a : Addr) (ns : List Int), vs = [.ref a] ∧ ns.length ≤ 63 ∧ SqL K H a (ns.map V.int) ∧ ∀ c H', BagAt c 0 H' → Q (.ref c) H'
def mf__law_take : MF := fun as R _ => ∃ m : Int, as = [.cask, .d (.int m)] ∧ 0 < m ∧ m ≤ 2 ^ 100 ∧ ∀ r, 0 ≤ r → r < m → R (.d (.int r))
def spLaw (K : PySem.W.Frag) : Sp := fun vs H Q _ => ∃ (a : Addr) (ns : List Int), vs = [.ref a] ∧ ns.length ≤ 63 ∧ SqL K H a (ns.map V.int) ∧ ∀ H', Q (.bl true) H'
theorem law_ok {K : PySem.W.Frag} {H : Hp} {a : Addr} {ns : List Int} (hl : ns.length ≤ 63) (hS : SqL K H a (ns.map V.int)) : spLaw K [.ref a] H (fun v _ => v = .bl true) fun _ _ _ => False := ⟨a, ns, rfl, hl, hS, fun _ => rfl⟩
structure DBag (P : Program) (w : World) (K : PySem.W.Frag) (mg : Str → Option Value) (base : Heap) : Prop where
  ex : ∃ f fd ps, mg "_law_opened" = some (.ref f) ∧ PySem.W.keepIn K (.ref f) = true ∧ Binds K fd ps [] ∧ ps.length = 1 ∧ FnG P w K mg base 1 f fd ps (spBag K)
section
variable {P : Program} {w : World} {K : PySem.W.Frag} {mg : Str → Option Value} {base : Heap} 
def isInt (v : PyData) (lo hi : Int) : Bool := match v with
  | .int i => decide (lo ≤ i) && decide (i ≤ hi)
  | _ => false
def mf_is_integer : MF := fun as R _ => ∃ (v : PyData) (lo hi : Int), as = [.d v, .d (.int lo), .d (.int hi)] ∧ R (.d (.bool (isInt v lo hi)))
theorem d_is_integer {f : Addr} {fd : FuncData} (T : Txt K mg) (hm : mg "is_integer" = some (.ref f)) (F0 : L2.Fun K "is_integer" "is_integer" s_is_integer f fd) (hb : Binds K fd ["value", "low", "high"] []) : DFn P w K mg base CK "is_integer" 1 0 3 mf_is_integer :=
  (dfn_of hm F0 hb sc_is_integer (fun cdv A outer s H E cx =>
 (dss_one (ds_ret (de_and (de_isi (by rfl) T.n_isinstance (da_cons (de_pv 0) (da_cons (de_ty (T := "int") (by rfl) T.n_int (by decide +kernel)) da_nil))) (de_and (de_not (de_isi (by rfl) T.n_isinstance (da_cons (de_pv 0) (da_cons (de_ty (T := "bool") (by rfl) T.n_bool (by decide +kernel)) da_nil)))) (de_one (de_ch op_le op_le (de_pv 1) (de_pv 0) (de_pv 2))))))))
  (by
    rintro as R ex hl ⟨v, lo, hi, rfl, h⟩
    walk_at "dl"
    refine ⟨by decide, fun c => ⟨by decide, fun c2 => ?_, fun c2 => ?_⟩, fun c => ?_⟩
    · cases v with
      | int i =>
        walk_at "dl"
        refine if_dec (fun c3 => ?_) fun c3 => ?_
        · have e : isInt (.int i) lo hi = decide (i ≤ hi) := by simp [isInt, c3]
          rw [e] at h; exact h
        · have e : isInt (.int i) lo hi = false := by simp [isInt, c3]
          rw [e] at h; exact h
      | bool b => simp [isTy] at c2
      | none => simp [isTy] at c
      | str _ => simp [isTy] at c
      | list _ => simp [isTy] at c
      | tuple _ => simp [isTy] at c
      | dict _ => simp [isTy] at c
    · cases v with
      | int i => simp [isTy] at c2
      | bool b => exact h
      | none => simp [isTy] at c
      | str _ => simp [isTy] at c
      | list _ => simp [isTy] at c
      | tuple _ => simp [isTy] at c
      | dict _ => simp [isTy] at c
    · cases v with
      | int i => simp [isTy] at c
      | bool b => exact h
      | none => exact h
      | str _ => exact h
      | list _ => exact h
      | tuple _ => exact h
      | dict _ => exact h)).le (by decide +kernel)
def mf_right_ends : MF := fun as R _ => ∃ l : SRow, as = [.d (rowD l)] ∧ Inc l ∧ R (.d (.list ((ends l).map natD)))
theorem d_right_ends {f : Addr} {fd : FuncData} (T : Txt K mg) (hm : mg "right_ends" = some (.ref f)) (F0 : L2.Fun K "right_ends" "right_ends" s_right_ends f fd) (hb : Binds K fd ["row"] []) : DFn P w K mg base CK "right_ends" 1 0 1 mf_right_ends :=
  (dfn_of hm F0 hb sc_right_ends (fun cdv A outer s H E cx =>
 (dss_cons (ds_set (i := 1) sc_right_ends.nd rfl (by first | exact Or.inl rfl | exact Or.inr rfl) (de_mul (de_lst (da_cons de_int da_nil)) (de_len (by rfl) T.n_len (da_cons (de_pv 0) da_nil))))
 (dss_cons (ds_for (Ctx.passes rfl) (by rfl) (di_range3 (by rfl) T.n_range (da_cons (de_sub (de_len (by rfl) T.n_len (da_cons (de_pv 0) da_nil)) de_int) (da_cons (de_neg de_int) (da_cons (de_neg de_int) da_nil)))) (dg_name (i := 2) sc_right_ends.nd rfl (by first | exact Or.inl rfl | exact Or.inr rfl)) (dss_cons (ds_set (i := 3) sc_right_ends.nd rfl (by first | exact Or.inl rfl | exact Or.inr rfl) (de_pv 2))
 (dss_cons (ds_while (Ctx.passes rfl) (DW.dt (dw_and (dt_lt (de_add (de_pv 3) de_int) (de_len (by rfl) T.n_len (da_cons (de_pv 0) da_nil))) (dw_and1 (dt_le (de_ix (de_ix (de_pv 0) (de_add (de_pv 3) de_int)) de_int) (de_add (de_ix (de_ix (de_pv 0) (de_pv 2)) de_int) (de_ix (de_ix (de_pv 0) (de_pv 2)) de_int)))))) (dss_one (ds_set (i := 3) sc_right_ends.nd rfl (by first | exact Or.inl rfl | exact Or.inr rfl) (de_ix (de_pv 1) (de_add (de_pv 3) de_int)))))
 (dss_one (ds_sto (pv 1) (de_pv 2) (de_pv 3))))))
 (dss_one (ds_ret (de_pv 1))))))
  (by
    rintro as R ex hl ⟨l, rfl, I, h⟩
    unfold rowD
    walk_at "dl"
    have hn1 := I.n1
    have hn0 := I.n0
    rw [List.length_map]
    refine ⟨by walk_at "lim", by walk_at "lim", by walk_at "lim", ?_⟩
    have hdown : ((l.length : Nat) : Int) - 1 - -1 = (l.length : Nat) := by omega
    rw [hdown]
    walk_at "dl"
    refine ⟨by walk_at "lim", by walk_at "lim", ?_⟩
    refine for_down (fun k δ => ∃ (fs : List Nat) (a b : Option DV), δ = [some (.d (.tuple (l.map stD))), some (.own (fs.map natD)), a, b] ∧ fs.length = l.length ∧ ∀ s m, l.length - k ≤ s → fs[s]? = some m → IsEnd l s m) ?_ ?_ ?_
    · refine ⟨List.replicate l.length 0, none, none, ?_, by simp, fun s m hs e => ?_⟩
      · have : (List.replicate l.length [PyData.int 0]).flatten = (List.replicate l.length 0).map natD := by
          rw [List.map_replicate]
          generalize l.length = n
          induction n with
          | zero => rfl
          | succ n ih => rw [List.replicate_succ, List.flatten_cons, ih, List.replicate_succ]; rfl
        rw [this]
      · rw [List.getElem?_replicate] at e
        split at e
        · omega
        · cases e
    · rintro δ ⟨fs, a, b, rfl, hf, hs⟩
      walk_at "dl"
      rw [AllEnds.eq I (fs := fs) ⟨hf, fun s m e => hs s m (by omega) e⟩]
      exact h
    · rintro k δ K hk ⟨fs, a, b, rfl, hf, hs⟩ hK
      walk_at "dl"
      obtain ⟨s, hs'⟩ : ∃ s : Nat, s = l.length - 1 - k := ⟨_, rfl⟩
      have es : ((l.length : Nat) : Int) - 1 - (k : Nat) = (s : Nat) := by omega
      rw [es]
      refine ⟨fun n δ => ∃ m : Nat, δ = [some (.d (.tuple (l.map stD))), some (.own (fs.map natD)), some (.d (.int (s : Nat))), some (.d (.int (m : Nat)))] ∧ Seek l s m ∧ n = l.length - m, ⟨_, s, rfl, Seek.start (by omega), rfl⟩, ?_⟩
      rintro n δ ⟨m, rfl, hsk, rfl⟩
      have hm := hsk.lt
      have fin : (m + 1 < l.length → pl l s + ht l s < pl l (m + 1)) → K [some (.d (.tuple (l.map stD))), some (.own ((fs.map natD).set s (.int (m : Nat)))), some (.d (.int (s : Nat))), some (.d (.int (m : Nat)))] := fun hq => by
        refine hK _ ⟨fs.set s m, _, _, by rw [List.map_set]; rfl, by simpa using hf, fun s' m' h1 e => ?_⟩
        rcases Nat.lt_or_ge s s' with q | q
        · rw [List.getElem?_set_ne (by omega)] at e
          exact hs s' m' (by omega) e
        · have : s' = s := by omega
          subst this
          rw [List.getElem?_set_self (by omega)] at e
          cases e
          exact hsk.done hq
      have hss : s < (fs.map natD).length := by rw [List.length_map]; omega
      walk_at "dl"
      rw [List.length_map, ixN_nat hss]
      refine if_dec (fun c1 => ?_) fun c1 => ?_
      · have hm1 : m + 1 < l.length := by omega
        rw [atI_row (m + 1) (by omega) hm1, atI_row s rfl (by omega)]
        walk_at "dl"
        refine if_dec (fun c2 => ?_) fun c2 => fin fun _ => by omega
        obtain ⟨e, he⟩ : ∃ e, fs[m + 1]? = some e := ⟨_, List.getElem?_eq_getElem (by omega)⟩
        rw [atI_map (m + 1) (by omega) he]
        have hE := hs (m + 1) e (by have := hsk.le; omega) he
        exact ⟨l.length - e, by have := hE.le; have := hE.lt; omega, e, rfl, hsk.step I c2 hE, rfl⟩
      · walk_at "dl"
        exact fin fun hq => absurd hq (by omega))).le (by decide +kernel)
def mf_mirrored : MF := fun as R _ => ∃ l : SRow, as = [.d (rowD l)] ∧ 0 < l.length ∧ l.length ≤ 1000 ∧ R (.d (rowD (mirror l)))
theorem d_mirrored {f : Addr} {fd : FuncData} (T : Txt K mg) (hm : mg "mirrored" = some (.ref f)) (F0 : L2.Fun K "mirrored" "mirrored" s_mirrored f fd) (hb : Binds K fd ["row"] []) : DFn P w K mg base CK "mirrored" 1 0 1 mf_mirrored :=
  (dfn_of hm F0 hb sc_mirrored (fun cdv A outer s H E cx =>
 (dss_cons (ds_set (i := 1) sc_mirrored.nd rfl (by first | exact Or.inl rfl | exact Or.inr rfl) (de_add (de_ix (de_ix (de_pv 0) de_int) de_int) (de_ix (de_ix (de_pv 0) (de_neg de_int)) de_int)))
 (dss_one (ds_ret (de_tupleC (by rfl) T.n_tuple (da_cons (de_lc (own := [("place", 2), ("height", 3)]) (dom := [2, 3]) (by rfl) sc_mirrored.nd (di_tup (de_back (de_pv 0))) (blkOk_by (by kernel_rfl)) (by decide) (fun _ _ _ _ _ => (dg_tup (by rfl) (dgs_cons (dg_name (i := 2) sc_mirrored.nd rfl (by first | exact Or.inl rfl | exact Or.inr rfl)) (dgs_cons (dg_name (i := 3) sc_mirrored.nd rfl (by first | exact Or.inl rfl | exact Or.inr rfl)) dgs_nil)))) (fun _ _ _ _ _ => dts_nil) (fun _ _ _ _ _ => (de_tup (da_cons (de_sub (de_pv 1) (de_pv 2)) (da_cons (de_pv 3) da_nil))))) da_nil))))))
  (by
    rintro as R ex hl ⟨l, rfl, hn0, hn1, h⟩
    unfold rowD
    walk_at "dl"
    have hlast : l[l.length - 1]? = some (pl l (l.length - 1), ht l (l.length - 1)) := by
      unfold pl ht
      rw [List.getD_eq_getElem?_getD, List.getElem?_eq_getElem (by omega)]
      rfl
    rw [atI_row (i := 0) 0 rfl (by omega), atI_end hlast]
    unfold stD
    walk_at "dl"
    refine lc_ind (fun d => match d with
      | .tuple [.int a, .int b] => some (stD (pl l 0 + pl l (l.length - 1) - a, b))
      | _ => none) _ _ (fun d hd K1 K0 h1 h0 => ?_) (by walk_at "lim") ?_
    · obtain ⟨p, hp, rfl⟩ := List.mem_map.mp (List.mem_reverse.mp hd)
      walk_at "dl"
      refine ⟨by decide, ?_⟩
      exact h1 _ rfl
    · walk_at "dl"
      have e : ((l.map fun p => PyData.tuple [.int p.1, .int p.2]).reverse.filterMap fun d => match d with
          | .tuple [.int a, .int b] => some (stD (pl l 0 + pl l (l.length - 1) - a, b))
          | _ => none) = (mirror l).map stD := by
        unfold mirror
        rw [← List.map_reverse, List.filterMap_map, List.map_map]
        generalize l.reverse = r
        induction r with
        | nil => rfl
        | cons a r ih => simp only [List.filterMap_cons, List.map_cons, Function.comp] at ih ⊢; rw [ih]
      rw [e]
      exact h)).le (by decide +kernel)
noncomputable def spanD (l : SRow) (s : Nat) : PyData := .tuple [.tuple [.int (startOf l s : Nat), .int (s : Nat)], .tuple [.int (s : Nat), .int (endOf l s : Nat)]]
noncomputable def spansD (l : SRow) : PyData := .tuple ((List.range l.length).map (spanD l))
def mf_stretches : MF := fun as R _ => ∃ l : SRow, as = [.d (rowD l)] ∧ Inc l ∧ R (.d (spansD l))
theorem ends_at {l : SRow} {s : Nat} (h : s < l.length) : atI ((ends l).map natD) (s : Nat) = some (.int (endOf l s : Nat)) := atI_map (f := natD) s rfl (ends_get h)
theorem starts_at {l : SRow} {s : Nat} (h : s < l.length) : atI ((ends (mirror l)).map natD).reverse (s : Nat) = some (.int (endOf (mirror l) (l.length - 1 - s) : Nat)) := by
  rw [← List.map_reverse]
  refine atI_map (f := natD) s rfl ?_
  have hl : (ends (mirror l)).length = l.length := by rw [ends_len, mirror_len]
  rw [List.getElem?_reverse (by rw [hl]; exact h), hl, ends_get (by rw [mirror_len]; omega)]
theorem d_stretches {f : Addr} {fd : FuncData} (T : Txt K mg) (hm : mg "stretches" = some (.ref f)) (F0 : L2.Fun K "stretches" "stretches" s_stretches f fd) (hb : Binds K fd ["row"] []) (F_right_ends : DFn P w K mg base CK "right_ends" 1 0 1 mf_right_ends) (F_mirrored : DFn P w K mg base CK "mirrored" 1 0 1 mf_mirrored) : DFn P w K mg base CK "stretches" 2 0 1 mf_stretches :=
  (dfn_of hm F0 hb sc_stretches (fun cdv A outer s H E cx =>
 (dss_cons (ds_tup2 (i := 1) (j := 2) (by rfl) sc_stretches.nd rfl rfl (by decide) (by first | exact Or.inl rfl | exact Or.inr rfl) (by first | exact Or.inl rfl | exact Or.inr rfl) (da_cons (de_call cx F_right_ends (by decide) (by rfl) (da_cons (de_pv 0) da_nil)) (da_cons (de_back (de_call cx F_right_ends (by decide) (by rfl) (da_cons (de_call cx F_mirrored (by decide) (by rfl) (da_cons (de_pv 0) da_nil)) da_nil))) da_nil)))
 (dss_cons (ds_set (i := 3) sc_stretches.nd rfl (by first | exact Or.inl rfl | exact Or.inr rfl) (de_sub (de_len (by rfl) T.n_len (da_cons (de_pv 0) da_nil)) de_int))
 (dss_one (ds_ret (de_tupleC (by rfl) T.n_tuple (da_cons (de_lc (own := [("stone", 4)]) (dom := [4]) (by rfl) sc_stretches.nd (di_range1 (by rfl) T.n_range (da_cons (de_len (by rfl) T.n_len (da_cons (de_pv 0) da_nil)) da_nil)) (blkOk_by (by kernel_rfl)) (by decide) (fun _ _ _ _ _ => (dg_name (i := 4) sc_stretches.nd rfl (by first | exact Or.inl rfl | exact Or.inr rfl))) (fun _ _ _ _ _ => dts_nil) (fun _ _ _ _ _ => (de_tup (da_cons (de_tup (da_cons (de_sub (de_pv 3) (de_ix (de_pv 2) (de_pv 4))) (da_cons (de_pv 4) da_nil))) (da_cons (de_tup (da_cons (de_pv 4) (da_cons (de_ix (de_pv 1) (de_pv 4)) da_nil))) da_nil))))) da_nil)))))))
  (by
    rintro as R ex hl ⟨l, rfl, I, h⟩
    have hn0 := I.n0
    have hn1 := I.n1
    walk_at "dl"
    refine ⟨l, rfl, I, ?_⟩
    walk_at "dl"
    refine ⟨l, rfl, hn0, hn1, ?_⟩
    walk_at "dl"
    refine ⟨mirror l, rfl, I.mirror, ?_⟩
    unfold rowD
    walk_at "dl"
    rw [List.length_map]
    refine ⟨by walk_at "lim", by walk_at "lim", ?_⟩
    refine lc_ind (fun d => match d with
      | .int i => some (spanD l i.toNat)
      | _ => none) _ _ (fun d hd K1 K0 h1 h0 => ?_) (by rw [rangeD_len]; walk_at "lim") ?_
    · obtain ⟨s, hs, rfl⟩ := mem_range_int.mp hd
      rw [Int.zero_add]
      walk_at "dl"
      rw [starts_at hs, ends_at hs]
      walk_at "dl"
      refine ⟨by walk_at "lim", by walk_at "lim", by walk_at "lim", ?_⟩
      have hE := (endOf_ok I.mirror (s := l.length - 1 - s) (by rw [mirror_len]; omega)).lt
      rw [mirror_len] at hE
      have e : ((l.length : Nat) : Int) - 1 - (endOf (mirror l) (l.length - 1 - s) : Nat) = (startOf l s : Nat) := by
        unfold startOf
        omega
      rw [e]
      refine h1 _ ?_
      show some (spanD l ((0 : Int) + (s : Nat)).toNat) = _
      rw [Int.zero_add, Int.toNat_natCast]
      rfl
    · walk_at "dl"
      have e : (rangeD 0 l.length).filterMap (fun d => match d with
          | .int i => some (spanD l i.toNat)
          | _ => none) = (List.range l.length).map (spanD l) := by
        unfold rangeD
        rw [List.filterMap_map]
        generalize List.range l.length = r
        induction r with
        | nil => rfl
        | cons a r ih =>
          simp only [List.filterMap_cons, List.map_cons, Function.comp, Int.zero_add, Int.toNat_natCast] at ih ⊢
          rw [ih]
      rw [e]
      exact h)).le (by decide +kernel)
/-! the greedy walk over far ends -/
def gr (f : Nat → Nat) (n : Nat) : Nat → Nat → Nat
  | 0, _ => 0
  | F + 1, i => if i < n then 1 + gr f n F (f i + 1) else 0
theorem gr_le {f f' : Nat → Nat} {n : Nat} (h1 : ∀ i, i < n → i ≤ f i) (h2 : ∀ i, i < n → i ≤ f' i) (hm : ∀ i j, i ≤ j → j < n → f i ≤ f' j) : ∀ (F F' i j : Nat), i ≤ j → n - i ≤ F → n - j ≤ F' → gr f' n F' j ≤ gr f n F i
  | 0, F', i, j, hij, hF, hF' => by
    cases F' with
    | zero => exact Nat.le_refl _
    | succ F' =>
      unfold gr
      rw [if_neg (by omega)]
      exact Nat.zero_le _
  | F + 1, F', i, j, hij, hF, hF' => by
    cases F' with
    | zero => exact Nat.zero_le _
    | succ F' =>
      unfold gr
      by_cases c : j < n
      · rw [if_pos c, if_pos (by omega)]
        have := h1 i (by omega)
        have := h2 j c
        have := hm i j hij c
        exact Nat.add_le_add_left (gr_le h1 h2 hm F F' _ _ (by omega) (by omega) (by omega)) 1
      · rw [if_neg c]
        exact Nat.zero_le _
/-- one stone more at p: behind it nothing is worse -/
theorem gr_ins1 {f f' : Nat → Nat} {n p : Nat} (h1 : ∀ i, i < n → i ≤ f i) (h2 : ∀ i, i < n + 1 → i ≤ f' i) (hm : ∀ i j, p ≤ i → i + 1 ≤ j → j < n + 1 → f i + 1 ≤ f' j) : ∀ (F F' i j : Nat), p ≤ i → i + 1 ≤ j → n - i ≤ F → n + 1 - j ≤ F' → gr f' (n + 1) F' j ≤ gr f n F i
  | 0, F', i, j, hp, hij, hF, hF' => by
    cases F' with
    | zero => exact Nat.le_refl _
    | succ F' =>
      unfold gr
      rw [if_neg (by omega)]
      exact Nat.zero_le _
  | F + 1, F', i, j, hp, hij, hF, hF' => by
    cases F' with
    | zero => exact Nat.zero_le _
    | succ F' =>
      unfold gr
      by_cases c : j < n + 1
      · rw [if_pos c, if_pos (by omega)]
        have := h1 i (by omega)
        have := h2 j c
        have := hm i j hp hij c
        exact Nat.add_le_add_left (gr_ins1 h1 h2 hm F F' _ _ (by omega) (by omega) (by omega) (by omega)) 1
      · rw [if_neg c]
        exact Nat.zero_le _
def iota (p i : Nat) : Nat := if i < p then i else i + 1
theorem gr_ins {f f' : Nat → Nat} {n p : Nat} (h1 : ∀ i, i < n → i ≤ f i) (h2 : ∀ i, i < n + 1 → i ≤ f' i) (hpn : p ≤ n) (hm : ∀ i j, i < n → iota p i ≤ j → j < n + 1 → iota p (f i) ≤ f' j) : ∀ (F F' i j : Nat), i ≤ p → i ≤ j → n - i ≤ F → n + 1 - j ≤ F' → gr f' (n + 1) F' j ≤ gr f n F i + 1 := by
  have hm1 : ∀ i j, p ≤ i → i + 1 ≤ j → j < n + 1 → f i + 1 ≤ f' j := fun i j a b c => by
    have h := hm i j (by omega) (by unfold iota; rw [if_neg (by omega)]; exact b) c
    have := h1 i (by omega)
    unfold iota at h
    rw [if_neg (by omega)] at h
    exact h
  intro F
  induction F with
  | zero =>
    intro F' i j hip hij hF hF'
    cases F' with
    | zero => exact Nat.zero_le _
    | succ F' =>
      unfold gr
      by_cases c : j < n + 1
      · rw [if_pos c]
        have := h2 j c
        have := gr_ins1 h1 h2 hm1 0 F' i (f' j + 1) (by omega) (by omega) (by omega) (by omega)
        rw [show gr f n 0 i = 0 from rfl] at this
        omega
      · rw [if_neg c]
        exact Nat.zero_le _
  | succ F ih =>
    intro F' i j hip hij hF hF'
    cases F' with
    | zero => exact Nat.zero_le _
    | succ F' =>
      by_cases c : j < n + 1
      · have hj := h2 j c
        rcases Nat.lt_or_ge i p with q | q
        · have e1 : gr f n (F + 1) i = 1 + gr f n F (f i + 1) := by
            conv => lhs; unfold gr
            rw [if_pos (by omega)]
          have e2 : gr f' (n + 1) (F' + 1) j = 1 + gr f' (n + 1) F' (f' j + 1) := by
            conv => lhs; unfold gr
            rw [if_pos c]
          have hi := h1 i (by omega)
          have h := hm i j (by omega) (by unfold iota; rw [if_pos q]; exact hij) c
          rw [e1, e2]
          rcases Nat.lt_or_ge (f i) p with r | r
          · unfold iota at h
            rw [if_pos r] at h
            have := ih F' (f i + 1) (f' j + 1) (by omega) (by omega) (by omega) (by omega)
            omega
          · unfold iota at h
            rw [if_neg (by omega)] at h
            have := gr_ins1 h1 h2 hm1 F F' (f i + 1) (f' j + 1) (by omega) (by omega) (by omega) (by omega)
            omega
        · have e2 : gr f' (n + 1) (F' + 1) j = 1 + gr f' (n + 1) F' (f' j + 1) := by
            conv => lhs; unfold gr
            rw [if_pos c]
          rw [e2]
          have := gr_ins1 h1 h2 hm1 (F + 1) F' i (f' j + 1) q (by omega) (by omega) (by omega)
          omega
      · unfold gr
        rw [if_neg c]
        exact Nat.zero_le _
/-! the stretches of a row, and the far end over a stone -/
noncomputable def spN (l : SRow) : List (Nat × Nat) := (List.range l.length).flatMap fun s => [(startOf l s, s), (s, endOf l s)]
noncomputable def overN (l : SRow) (i : Nat) : List Nat := ((spN l).filter fun q => decide (q.1 ≤ i) && decide (i ≤ q.2)).map (·.2)
noncomputable def farE (l : SRow) (i : Nat) : Nat := (overN l i).foldl max 0
noncomputable def fewN (l : SRow) : Nat := gr (farE l) l.length l.length 0
theorem fold_max : ∀ (xs : List Nat) (a : Nat), (∀ x ∈ xs, x ≤ xs.foldl max a) ∧ a ≤ xs.foldl max a ∧ (xs.foldl max a = a ∨ xs.foldl max a ∈ xs)
  | [], a => ⟨by simp, Nat.le_refl _, .inl rfl⟩
  | x :: xs, a => by
    obtain ⟨h1, h2, h3⟩ := fold_max xs (max a x)
    rw [List.foldl_cons]
    refine ⟨fun y hy => ?_, by omega, ?_⟩
    · rcases List.mem_cons.mp hy with rfl | hy
      · omega
      · exact h1 y hy
    · rcases h3 with h3 | h3
      · rcases Nat.le_total a x with q | q
        · exact .inr (by rw [h3, Nat.max_eq_right q]; exact List.mem_cons_self)
        · exact .inl (by rw [h3, Nat.max_eq_left q])
      · exact .inr (List.mem_cons_of_mem _ h3)
theorem sp_mem {l : SRow} {q : Nat × Nat} : q ∈ spN l ↔ ∃ s, s < l.length ∧ (q = (startOf l s, s) ∨ q = (s, endOf l s)) := by
  unfold spN
  simp only [List.mem_flatMap, List.mem_range, List.mem_cons, List.not_mem_nil, or_false]
theorem over_mem {l : SRow} {i m : Nat} : m ∈ overN l i ↔ ∃ q ∈ spN l, q.1 ≤ i ∧ i ≤ q.2 ∧ q.2 = m := by
  unfold overN
  simp only [List.mem_map, List.mem_filter, Bool.and_eq_true, decide_eq_true_eq]
  constructor
  · rintro ⟨q, ⟨h1, h2, h3⟩, h4⟩
    exact ⟨q, h1, h2, h3, h4⟩
  · rintro ⟨q, h1, h2, h3, h4⟩
    exact ⟨q, ⟨h1, h2, h3⟩, h4⟩
theorem far_ge {l : SRow} {i : Nat} {q : Nat × Nat} (hq : q ∈ spN l) (h1 : q.1 ≤ i) (h2 : i ≤ q.2) : q.2 ≤ farE l i :=
  (fold_max (overN l i) 0).1 _ (over_mem.mpr ⟨q, hq, h1, h2, rfl⟩)
theorem far_own {l : SRow} (I : Inc l) {i : Nat} (hi : i < l.length) : i ≤ farE l i := by
  have h := endOf_ok I hi
  exact Nat.le_trans h.le (far_ge (q := (i, endOf l i)) (sp_mem.mpr ⟨i, hi, .inr rfl⟩) (Nat.le_refl _) h.le)
theorem far_ex {l : SRow} (I : Inc l) {i : Nat} (hi : i < l.length) : ∃ q ∈ spN l, q.1 ≤ i ∧ i ≤ q.2 ∧ q.2 = farE l i := by
  have h := endOf_ok I hi
  have hm : endOf l i ∈ overN l i := over_mem.mpr ⟨(i, endOf l i), sp_mem.mpr ⟨i, hi, .inr rfl⟩, Nat.le_refl _, h.le, rfl⟩
  obtain ⟨h1, h2, h3⟩ := fold_max (overN l i) 0
  rcases h3 with h3 | h3
  · have := h1 _ hm
    have e : endOf l i = farE l i := by show _ = List.foldl max 0 (overN l i); omega
    exact ⟨(i, endOf l i), sp_mem.mpr ⟨i, hi, .inr rfl⟩, Nat.le_refl _, h.le, e⟩
  · exact over_mem.mp h3
theorem sp_bd {l : SRow} (I : Inc l) {q : Nat × Nat} (hq : q ∈ spN l) : q.1 ≤ q.2 ∧ q.2 < l.length := by
  obtain ⟨s, hs, rfl | rfl⟩ := sp_mem.mp hq
  · exact ⟨(startOf_ok I hs).le, hs⟩
  · exact ⟨(endOf_ok I hs).le, (endOf_ok I hs).lt⟩
theorem far_lt {l : SRow} (I : Inc l) {i : Nat} (hi : i < l.length) : farE l i < l.length := by
  obtain ⟨q, h1, _, _, h4⟩ := far_ex I hi
  have := (sp_bd I h1).2
  omega
/-- the greatest of the ends over a stone -/
theorem far_of {l : SRow} {i m : Nat} (hm : m ∈ overN l i) (h : ∀ x ∈ overN l i, x ≤ m) : m = farE l i := by
  obtain ⟨h1, h2, h3⟩ := fold_max (overN l i) 0
  have e := h1 m hm
  rcases h3 with h3 | h3
  · show m = List.foldl max 0 (overN l i)
    omega
  · have := h _ h3
    show m = List.foldl max 0 (overN l i)
    omega
noncomputable def sidesD (l : SRow) (s : Nat) : List PyData := [.tuple [.tuple [.int (s : Nat), .str "left"], .tuple [.int (startOf l s : Nat), .int (s : Nat)]], .tuple [.tuple [.int (s : Nat), .str "right"], .tuple [.int (s : Nat), .int (endOf l s : Nat)]]]
noncomputable def sidesL (l : SRow) (n : Nat) : List PyData := (List.range n).flatMap (sidesD l)
theorem sides_succ {l : SRow} {n : Nat} : sidesL l (n + 1) = sidesL l n ++ sidesD l n := by unfold sidesL; rw [List.range_succ, List.flatMap_append]; simp
theorem sides_len {l : SRow} : ∀ {n : Nat}, (sidesL l n).length = 2 * n
  | 0 => rfl
  | n + 1 => by rw [sides_succ, List.length_append, sides_len (n := n)]; simp [sidesD]; omega
def mf_spans_of : MF := fun as R _ => ∃ l : SRow, as = [.d (rowD l)] ∧ Inc l ∧ R (.d (.list (sidesL l l.length)))
theorem d_spans_of {f : Addr} {fd : FuncData} (T : Txt K mg) (hm : mg "spans_of" = some (.ref f)) (F0 : L2.Fun K "spans_of" "spans_of" s_spans_of f fd) (hb : Binds K fd ["row"] []) (F_stretches : DFn P w K mg base CK "stretches" 2 0 1 mf_stretches) : DFn P w K mg base CK "spans_of" 3 0 1 mf_spans_of :=
  (dfn_of hm F0 hb sc_spans_of (fun cdv A outer s H E cx =>
 (dss_cons (ds_set (i := 1) sc_spans_of.nd rfl (by first | exact Or.inl rfl | exact Or.inr rfl) (de_lst da_nil))
 (dss_cons (ds_for (Ctx.passes rfl) (by rfl) (di_enumT (by rfl) T.n_enumerate (da_cons (de_call cx F_stretches (by decide) (by rfl) (da_cons (de_pv 0) da_nil)) da_nil)) (dg_tup (by rfl) (dgs_cons (dg_name (i := 2) sc_spans_of.nd rfl (by first | exact Or.inl rfl | exact Or.inr rfl)) (dgs_cons (dg_tup (by rfl) (dgs_cons (dg_name (i := 3) sc_spans_of.nd rfl (by first | exact Or.inl rfl | exact Or.inr rfl)) (dgs_cons (dg_name (i := 4) sc_spans_of.nd rfl (by first | exact Or.inl rfl | exact Or.inr rfl)) dgs_nil))) dgs_nil))) (dss_one (ds_mut PySem.F.slot_list_extend PySem.F.type_list_extend mt_extend mut_ext (pv 1) (da_cons (de_lst (da_cons (de_tup (da_cons (de_tup (da_cons (de_pv 2) (da_cons (de_gs (by rfl) T.c_LEFT) da_nil))) (da_cons (de_pv 3) da_nil))) (da_cons (de_tup (da_cons (de_tup (da_cons (de_pv 2) (da_cons (de_gs (by rfl) T.c_RIGHT) da_nil))) (da_cons (de_pv 4) da_nil))) da_nil))) da_nil))))
 (dss_one (ds_ret (de_pv 1))))))
  (by
    rintro as R ex hl ⟨l, rfl, I, h⟩
    have hn0 := I.n0
    have hn1 := I.n1
    walk_at "dx"
    refine ⟨by walk_at "lim", l, rfl, I, ?_⟩
    unfold spansD
    walk_at "dx"
    refine ⟨fun x hx => by cases List.mem_singleton.mp hx; rfl, ?_⟩
    refine for_at (fun k δ => ∃ (a b c : Option DV), k ≤ l.length ∧ δ = [some (.d (rowD l)), some (.own (sidesL l k)), a, b, c]) ⟨none, none, none, Nat.zero_le _, rfl⟩ ?_ ?_
    · rintro δ ⟨a, b, c, hk, rfl⟩
      have hz : (enumD 0 ((List.range l.length).map (spanD l))).length = l.length := by rw [enumD_len]; simp
      rw [hz]
      walk_at "dx"
      exact h
    · rintro k d δ K hd ⟨a, b, c, hk, rfl⟩ hK
      rw [enumD_get, List.getElem?_map] at hd
      have hkl : k < l.length := by
        rcases Nat.lt_or_ge k l.length with q | q
        · exact q
        · rw [List.getElem?_eq_none (by simpa using q)] at hd; cases hd
      rw [List.getElem?_range hkl] at hd
      cases hd
      unfold spanD
      rw [Nat.zero_add]
      walk_at "dx"
      refine ⟨by walk_at "lim", by walk_at "lim", by walk_at "lim", by walk_at "lim", by walk_at "lim", ?_⟩
      rw [if_pos (show (sidesL l k).length + 2 ≤ sizeLine from by rw [sides_len]; walk_at "lim")]
      exact hK _ ⟨_, _, _, hkl, by rw [sides_succ]; rfl⟩)).le (by decide +kernel)
def onSpH (i : Nat) : PyData → Option HP
  | .tuple [.tuple [.int s, .str x], .tuple [.int a, .int b]] => if decide (a ≤ (i : Nat)) && decide ((i : Nat) ≤ b) then some (b, s, x) else none
  | _ => none
def onSp (i : Nat) (d : PyData) : Option PyData := (onSpH i d).map hpD
noncomputable def overH (l : SRow) (i : Nat) : List HP := (sidesL l l.length).filterMap (onSpH i)
theorem over_lc {l : SRow} {i : Nat} : (sidesL l l.length).filterMap (onSp i) = (overH l i).map hpD := by
  unfold overH
  rw [List.map_filterMap]
  rfl
theorem sides_mem {l : SRow} {n : Nat} {d : PyData} : d ∈ sidesL l n ↔ ∃ s, s < n ∧ (d = .tuple [.tuple [.int (s : Nat), .str "left"], .tuple [.int (startOf l s : Nat), .int (s : Nat)]] ∨ d = .tuple [.tuple [.int (s : Nat), .str "right"], .tuple [.int (s : Nat), .int (endOf l s : Nat)]]) := by
  unfold sidesL sidesD
  simp only [List.mem_flatMap, List.mem_range, List.mem_cons, List.not_mem_nil, or_false]
theorem overH_in {l : SRow} {i : Nat} {m : HP} (h : m ∈ overH l i) : ∃ k ∈ overN l i, m.1 = (k : Nat) := by
  obtain ⟨d, hd, e⟩ := List.mem_filterMap.mp h
  obtain ⟨s, hs, rfl | rfl⟩ := sides_mem.mp hd
  · simp only [onSpH] at e
    split at e
    · rename_i c
      cases e
      simp only [Bool.and_eq_true, decide_eq_true_eq] at c
      exact ⟨s, over_mem.mpr ⟨(startOf l s, s), sp_mem.mpr ⟨s, hs, .inl rfl⟩, by simp only; omega, by simp only; omega, rfl⟩, rfl⟩
    · cases e
  · simp only [onSpH] at e
    split at e
    · rename_i c
      cases e
      simp only [Bool.and_eq_true, decide_eq_true_eq] at c
      exact ⟨endOf l s, over_mem.mpr ⟨(s, endOf l s), sp_mem.mpr ⟨s, hs, .inr rfl⟩, by simp only; omega, by simp only; omega, rfl⟩, rfl⟩
    · cases e
theorem overH_of {l : SRow} {i k : Nat} (h : k ∈ overN l i) : ∃ m ∈ overH l i, m.1 = (k : Nat) := by
  obtain ⟨q, hq, h1, h2, rfl⟩ := over_mem.mp h
  obtain ⟨s, hs, rfl | rfl⟩ := sp_mem.mp hq
  · refine ⟨((s : Nat), (s : Nat), "left"), List.mem_filterMap.mpr ⟨_, sides_mem.mpr ⟨s, hs, .inl rfl⟩, ?_⟩, rfl⟩
    simp only [onSpH]
    rw [if_pos]
    simp only at h1 h2
    simp only [Bool.and_eq_true, decide_eq_true_eq]
    omega
  · refine ⟨((endOf l s : Nat), (s : Nat), "right"), List.mem_filterMap.mpr ⟨_, sides_mem.mpr ⟨s, hs, .inr rfl⟩, ?_⟩, rfl⟩
    simp only [onSpH]
    rw [if_pos]
    simp only at h1 h2
    simp only [Bool.and_eq_true, decide_eq_true_eq]
    omega
theorem overH_max {l : SRow} {i : Nat} {m : HP} (hm : m ∈ overH l i) (h : ∀ q ∈ overH l i, q.1 ≤ m.1) : m.1 = (farE l i : Nat) := by
  obtain ⟨k, hk, e⟩ := overH_in hm
  rw [e, far_of hk fun x hx => ?_]
  obtain ⟨q, hq, e2⟩ := overH_of hx
  have := h q hq
  omega
theorem overH_pos {l : SRow} (I : Inc l) {i : Nat} (hi : i < l.length) : 0 < (overH l i).length := by
  have h := endOf_ok I hi
  obtain ⟨m, hm, _⟩ := overH_of (l := l) (i := i) (over_mem.mpr ⟨(i, endOf l i), sp_mem.mpr ⟨i, hi, .inr rfl⟩, Nat.le_refl _, h.le, rfl⟩)
  exact List.length_pos_of_mem hm
theorem overH_len {l : SRow} {i : Nat} : (overH l i).length ≤ 2 * l.length := by
  have := List.length_filterMap_le (onSpH i) (sidesL l l.length)
  rw [sides_len] at this
  exact this
/-- a push and its span -/
noncomputable def spanOf (l : SRow) (p : Nat × Bool) : Nat × Nat := if p.2 then (p.1, endOf l p.1) else (startOf l p.1, p.1)
def sideOf (b : Bool) : Str := if b then "right" else "left"
def hpOf (e : Nat) (p : Nat × Bool) : HP := ((e : Nat), (p.1 : Nat), sideOf p.2)
theorem span_sp {l : SRow} {p : Nat × Bool} (hp : p.1 < l.length) : spanOf l p ∈ spN l := by
  obtain ⟨s, b⟩ := p
  refine sp_mem.mpr ⟨s, hp, ?_⟩
  cases b
  · exact .inl rfl
  · exact .inr rfl
theorem overH_push {l : SRow} {i : Nat} {m : HP} (h : m ∈ overH l i) : ∃ p : Nat × Bool, p.1 < l.length ∧ (spanOf l p).1 ≤ i ∧ i ≤ (spanOf l p).2 ∧ m = hpOf (spanOf l p).2 p := by
  obtain ⟨d, hd, e⟩ := List.mem_filterMap.mp h
  obtain ⟨s, hs, rfl | rfl⟩ := sides_mem.mp hd
  · simp only [onSpH] at e
    split at e
    · rename_i c
      cases e
      simp only [Bool.and_eq_true, decide_eq_true_eq] at c
      exact ⟨(s, false), hs, by show startOf l s ≤ i; omega, by show i ≤ s; omega, rfl⟩
    · cases e
  · simp only [onSpH] at e
    split at e
    · rename_i c
      cases e
      simp only [Bool.and_eq_true, decide_eq_true_eq] at c
      exact ⟨(s, true), hs, by show s ≤ i; omega, by show i ≤ endOf l s; omega, rfl⟩
    · cases e
/-- of the pushes over i one that goes farthest -/
def Far (l : SRow) (i : Nat) (p : Nat × Bool) : Prop := p.1 < l.length ∧ (spanOf l p).1 ≤ i ∧ (spanOf l p).2 = farE l i ∧ topOf (overH l i) = hpOf (farE l i) p
structure Ends (l : SRow) (n : Nat) (es : List HP) : Prop where
  len : es.length = n
  at' : ∀ (i : Nat) (e : HP), es[i]? = some e → ∃ p, Far l i p ∧ e = hpOf (farE l i) p
def pushOf (p : Nat × Bool) : PyData := .tuple [.int (p.1 : Nat), .str (sideOf p.2)]
theorem Ends.get {l : SRow} {n : Nat} {es : List HP} (h : Ends l n es) {i : Nat} (hi : i < n) : ∃ p, Far l i p ∧ atI (es.map hpD) (i : Nat) = some (.tuple [.int (farE l i : Nat), pushOf p]) := by
  have hl : i < es.length := by rw [h.len]; exact hi
  obtain ⟨p, hp, e⟩ := h.at' i _ (List.getElem?_eq_getElem hl)
  refine ⟨p, hp, ?_⟩
  rw [atI_map (f := hpD) i rfl (List.getElem?_eq_getElem hl), e]
  rfl
def mf_far_ends : MF := fun as R _ => ∃ l : SRow, as = [.d (rowD l)] ∧ Inc l ∧ ∀ es : List HP, Ends l l.length es → R (.d (.list (es.map hpD)))
theorem d_far_ends {f : Addr} {fd : FuncData} (T : Txt K mg) (hm : mg "far_ends" = some (.ref f)) (F0 : L2.Fun K "far_ends" "far_ends" s_far_ends f fd) (hb : Binds K fd ["row"] []) (F_spans_of : DFn P w K mg base CK "spans_of" 3 0 1 mf_spans_of) : DFn P w K mg base CK "far_ends" 4 0 1 mf_far_ends :=
  (dfn_of hm F0 hb sc_far_ends (fun cdv A outer s H E cx =>
 (dss_cons (ds_par2 (i := 1) (j := 2) (by rfl) sc_far_ends.nd rfl rfl (by decide) rfl rfl (da_cons (de_call cx F_spans_of (by decide) (by rfl) (da_cons (de_pv 0) da_nil)) (da_cons (de_lst da_nil) da_nil)) (by rfl))
 (dss_cons (ds_for (Ctx.passes rfl) (by rfl) (di_range1 (by rfl) T.n_range (da_cons (de_len (by rfl) T.n_len (da_cons (de_pv 0) da_nil)) da_nil)) (dg_name (i := 3) sc_far_ends.nd rfl (by first | exact Or.inl rfl | exact Or.inr rfl)) (dss_one (ds_mut PySem.F.slot_list_append PySem.F.type_list_append mt_append mut_app (pv 2) (da_cons (de_maxHd cx.u (by rfl) (by rfl) T.n_max (da_cons (de_lc (own := [("push", 4), ("low", 5), ("high", 6)]) (dom := [4, 5, 6]) (by rfl) sc_far_ends.nd (di_list (de_pv 1)) (blkOk_by (by kernel_rfl)) (by decide) (fun _ _ _ _ _ => (dg_tup (by rfl) (dgs_cons (dg_name (i := 4) sc_far_ends.nd rfl (by first | exact Or.inl rfl | exact Or.inr rfl)) (dgs_cons (dg_tup (by rfl) (dgs_cons (dg_name (i := 5) sc_far_ends.nd rfl (by first | exact Or.inl rfl | exact Or.inr rfl)) (dgs_cons (dg_name (i := 6) sc_far_ends.nd rfl (by first | exact Or.inl rfl | exact Or.inr rfl)) dgs_nil))) dgs_nil)))) (fun _ _ _ _ _ => (dts_one (dt_ch op_le op_le (de_pv 5) (de_pv 3) (de_pv 6)))) (fun _ _ _ _ _ => (de_tup (da_cons (de_pv 6) (da_cons (de_pv 4) da_nil))))) da_nil)) da_nil))))
 (dss_one (ds_ret (de_pv 2))))))
  (by
    rintro as R ex hl ⟨l, rfl, I, h⟩
    have hn0 := I.n0
    have hn1 := I.n1
    have hlen : oLen (.d (rowD l)) = fun R => R (.d (.int l.length)) := by
      unfold rowD
      funext R
      walk_at "dx"
      rw [List.length_map]
    walk_at "dx"
    refine ⟨l, rfl, I, by walk_at "lim", ?_⟩
    walk_at "dx"
    rw [hlen]
    walk_at "dx"
    refine ⟨by omega, by omega, ?_⟩
    refine for_range (fun k δ => ∃ (es : List HP) (a b c d : Option DV), Ends l k es ∧ δ = [some (.d (rowD l)), some (.d (.list (sidesL l l.length))), some (.own (es.map hpD)), a, b, c, d]) ⟨[], _, _, _, _, ⟨rfl, fun i e h => by cases h⟩, rfl⟩ ?_ ?_
    · rintro δ ⟨es, a, b, c, d, hE, rfl⟩
      walk_at "dx"
      exact h es hE
    · rintro k δ K hk ⟨es, a, b, c, d, hE, rfl⟩ hK
      rw [show (0 : Int) + (k : Nat) = (k : Nat) from Int.zero_add _]
      walk_at "dx"
      refine lc_ind (onSp k) _ _ (fun x hx K1 K0 q1 q0 => ?_) (by rw [sides_len]; walk_at "lim") ?_
      · obtain ⟨s, hs, rfl | rfl⟩ := sides_mem.mp hx
        · walk_at "dx"
          have e : onSp k (.tuple [.tuple [.int (s : Nat), .str "left"], .tuple [.int (startOf l s : Nat), .int (s : Nat)]]) = Option.map hpD (if decide (((startOf l s : Nat) : Int) ≤ (k : Nat)) && decide (((k : Nat) : Int) ≤ (s : Nat)) then some (((s : Nat) : Int), ((s : Nat) : Int), "left") else none) := rfl
          rw [e] at q1 q0
          refine ⟨fun c1 => ⟨fun c2 => ⟨by walk_at "lim", q1 _ ?_⟩, fun c2 => q0 ?_⟩, fun c1 => q0 ?_⟩
          · rw [decide_eq_true c1, decide_eq_true c2]; rfl
          · rw [decide_eq_false c2, Bool.and_false]; rfl
          · rw [decide_eq_false c1, Bool.false_and]; rfl
        · walk_at "dx"
          have e : onSp k (.tuple [.tuple [.int (s : Nat), .str "right"], .tuple [.int (s : Nat), .int (endOf l s : Nat)]]) = Option.map hpD (if decide (((s : Nat) : Int) ≤ (k : Nat)) && decide (((k : Nat) : Int) ≤ (endOf l s : Nat)) then some (((endOf l s : Nat) : Int), ((s : Nat) : Int), "right") else none) := rfl
          rw [e] at q1 q0
          refine ⟨fun c1 => ⟨fun c2 => ⟨by walk_at "lim", q1 _ ?_⟩, fun c2 => q0 ?_⟩, fun c1 => q0 ?_⟩
          · rw [decide_eq_true c1, decide_eq_true c2]; rfl
          · rw [decide_eq_false c2, Bool.and_false]; rfl
          · rw [decide_eq_false c1, Bool.false_and]; rfl
      · rw [List.nil_append, over_lc]
        walk_at "dx"
        rw [hpsL_map]
        dsimp only
        refine ⟨overH_pos I hk, ?_⟩
        obtain ⟨hm, hq⟩ := top_max (overH_pos I hk)
        obtain ⟨m, hmt⟩ : ∃ m, m = topOf (overH l k) := ⟨_, rfl⟩
        rw [← hmt] at hm hq ⊢
        rw [if_pos (show (es.map hpD).length < sizeLine from by rw [List.length_map, hE.len]; walk_at "lim")]
        refine hK _ ⟨es ++ [m], _, _, _, _, ⟨by rw [List.length_append, hE.len]; rfl, fun i e he => ?_⟩, by rw [List.map_append]; rfl⟩
        rcases Nat.lt_or_ge i es.length with c | c
        · rw [List.getElem?_append_left c] at he
          exact hE.at' i e he
        · rw [List.getElem?_append_right c] at he
          have : i = k := by
            have := (List.getElem?_eq_some_iff.mp he).1
            rw [hE.len] at this c
            simp only [List.length_singleton] at this
            omega
          subst this
          rw [hE.len, Nat.sub_self] at he
          cases he
          have e1 := overH_max hm hq
          obtain ⟨p, p1, p2, p3, p4⟩ := overH_push hm
          have e2 : (spanOf l p).2 = farE l i := by
            rw [p4] at e1
            exact Int.ofNat.inj e1
          exact ⟨p, ⟨p1, p2, e2, by rw [← hmt, p4, e2]⟩, by rw [← e2]; exact p4⟩)).le (by decide +kernel)
def noIndex (v : PyData) : DExc := ⟨"NoIndex", some ("index", v)⟩
def mf_check_index : MF := fun as R ex => ∃ (v : PyData) (n : Int), as = [.d v, .d (.int n)] ∧ (isInt v 0 (n - 1) = true → R (.d .none)) ∧ (isInt v 0 (n - 1) = false → ex (noIndex v))
theorem d_check_index {f : Addr} {fd : FuncData} (T : Txt K mg) (hm : mg "check_index" = some (.ref f)) (F0 : L2.Fun K "check_index" "check_index" s_check_index f fd) (hb : Binds K fd ["value", "many"] []) (F_is_integer : DFn P w K mg base CK "is_integer" 1 0 3 mf_is_integer) (X_NoIndex : XMk P w K mg base "NoIndex" "index") : DFn P w K mg base CK "check_index" 3 0 2 mf_check_index :=
  (dfn_of hm F0 hb sc_check_index (fun cdv A outer s H E cx =>
 (dss_one (ds_if (dt_not (dt_val (de_call cx F_is_integer (by decide) (by rfl) (da_cons (de_pv 0) (da_cons de_int (da_cons (de_sub (de_pv 1) de_int) da_nil)))))) (dss_one (ds_raise1 cx X_NoIndex (by decide) (by rfl) (by rfl) (da_cons (de_pv 0) da_nil))) dss_nil)))
  (by
    rintro as R ex hl ⟨v, n, rfl, h1, h2⟩
    walk_at "dx"
    refine ⟨v, 0, _, rfl, ?_⟩
    cases hs : isInt v 0 (n - 1) with
    | false =>
      walk_at "dx"
      exact h2 hs
    | true =>
      walk_at "dx"
      exact h1 hs)).le (by decide +kernel)
def tupN (ks : List Nat) : PyData := .tuple (ks.map natD)
/-- the greedy walk from i on: its pushes and its stones -/
inductive GrC (l : SRow) : Nat → List (Nat × Bool) → List Nat → Prop
  | nil {i : Nat} : l.length ≤ i → GrC l i [] []
  | cons {i : Nat} {p : Nat × Bool} {cs : List (Nat × Bool)} {ds : List Nat} : i < l.length → Far l i p → GrC l (farE l i + 1) cs ds → GrC l i (p :: cs) (i :: ds)
inductive GrW (l : SRow) : Nat → List (Nat × Bool) → List Nat → Nat → Prop
  | nil {i : Nat} : GrW l i [] [] i
  | snoc {i j : Nat} {p : Nat × Bool} {cs : List (Nat × Bool)} {ds : List Nat} : GrW l i cs ds j → j < l.length → Far l j p → GrW l i (cs ++ [p]) (ds ++ [j]) (farE l j + 1)
theorem GrW.to {l : SRow} {i j : Nat} {cs : List (Nat × Bool)} {ds : List Nat} (h : GrW l i cs ds j) : ∀ {cs' : List (Nat × Bool)} {ds' : List Nat}, GrC l j cs' ds' → GrC l i (cs ++ cs') (ds ++ ds') := by
  induction h with
  | nil => exact fun h => h
  | snoc _ hj hf ih =>
    intro cs' ds' h
    rw [List.append_assoc, List.append_assoc]
    exact ih (.cons hj hf h)
def mf_cover_certificate : MF := fun as R _ => ∃ l : SRow, as = [.d (rowD l)] ∧ Inc l ∧ ∀ (cs : List (Nat × Bool)) (ds : List Nat), GrC l 0 cs ds → R (.d (.tuple [.tuple (cs.map pushOf), tupN ds]))
def covB (P : List (Nat × Nat)) (x : Nat) : Bool := P.any fun q => decide (q.1 ≤ x) && decide (x ≤ q.2)
theorem cov_iff {P : List (Nat × Nat)} {x : Nat} : covB P x = true ↔ ∃ q ∈ P, q.1 ≤ x ∧ x ≤ q.2 := by
  unfold covB
  simp only [List.any_eq_true, Bool.and_eq_true, decide_eq_true_eq]
noncomputable def spansP (l : SRow) (ps : List (Nat × Bool)) : List (Nat × Nat) := ps.map (spanOf l)
theorem side_inj {b d : Bool} (h : PyData.eqv (.str (sideOf b)) (.str (sideOf d)) = true) : b = d := by
  cases b <;> cases d <;> first | rfl | exact absurd h (by decide +kernel)
theorem push_eqv {p q : Nat × Bool} : PyData.eqv (pushOf p) (pushOf q) = decide (p = q) := by
  obtain ⟨a, b⟩ := p
  obtain ⟨c, d⟩ := q
  by_cases e : a = c
  · subst e
    by_cases e2 : b = d
    · subst e2
      rw [decide_eq_true rfl]
      show PyData.eqv (.tuple [.int (a : Nat), .str (sideOf b)]) _ = true
      simp [pushOf, PyData.eqv, PyData.eqvAll]
    · rw [decide_eq_false (by simp [e2])]
      cases h : PyData.eqv (pushOf (a, b)) (pushOf (a, d)) with
      | false => rfl
      | true =>
        simp only [pushOf, PyData.eqv, PyData.eqvAll, Bool.and_eq_true, Bool.and_true] at h
        exact absurd (side_inj (by simpa [PyData.eqv] using h.2)) e2
  · rw [decide_eq_false (by simp [e])]
    simp only [pushOf, PyData.eqv, PyData.eqvAll]
    rw [show (((a : Nat) : Int) == ((c : Nat) : Int)) = false by rw [beq_eq_false_iff_ne]; omega, Bool.false_and]
theorem shp_str (b : Bool) (n : Nat) : Shp (.str (sideOf b)) n := by
  cases b
  · exact ⟨by decide +kernel, by simp [PyData.depth]⟩
  · exact ⟨by decide +kernel, by simp [PyData.depth]⟩
theorem shp_push (p : Nat × Bool) : Shp (pushOf p) 1 := shp_tup fun x hx => by
  simp only [List.mem_cons, List.not_mem_nil, or_false] at hx
  rcases hx with rfl | rfl
  · exact shp_int _ _
  · exact shp_str _ _
/-! the most stones that so many pushes fell: from the left end of the rest (W), and by the first stones (V) -/
def wRow (f : Nat → Nat) (n : Nat) (prev : Nat → Nat) : Nat → Nat
  | 0 => 0
  | d + 1 => max (wRow f n prev d) (f (n - (d + 1)) - (n - (d + 1)) + 1 + prev (n - (f (n - (d + 1)) + 1)))
/-- with t pushes, of the last d stones -/
def wT (f : Nat → Nat) (n : Nat) : Nat → Nat → Nat
  | 0 => fun _ => 0
  | t + 1 => wRow f n (wT f n t)
def vSome (S : List (Nat × Nat)) (prev : Nat → Nat) (j : Nat) : List Nat := (S.filter fun q => decide (q.1 ≤ j) && decide (j ≤ q.2)).map fun q => prev q.1 + (j + 1 - q.1)
def vRow (S : List (Nat × Nat)) (prev : Nat → Nat) : Nat → Nat
  | 0 => 0
  | j + 1 => (vSome S prev j).foldl max (vRow S prev j)
/-- with t pushes, of the first j stones -/
def vT (S : List (Nat × Nat)) : Nat → Nat → Nat
  | 0 => fun _ => 0
  | t + 1 => vRow S (vT S t)
structure Cov (f : Nat → Nat) (S : List (Nat × Nat)) (n : Nat) : Prop where
  bd : ∀ q ∈ S, q.1 ≤ q.2 ∧ q.2 < n
  own : ∀ i, i < n → i ≤ f i ∧ f i < n
  ex : ∀ i, i < n → ∃ q ∈ S, q.1 ≤ i ∧ q.2 = f i
  ge : ∀ q ∈ S, ∀ i, q.1 ≤ i → i ≤ q.2 → q.2 ≤ f i
theorem cov_of {l : SRow} (I : Inc l) : Cov (farE l) (spN l) l.length := by
  refine ⟨fun q hq => sp_bd I hq, fun i hi => ⟨far_own I hi, far_lt I hi⟩, fun i hi => ?_, fun q hq i h1 h2 => far_ge hq h1 h2⟩
  obtain ⟨q, h1, h2, _, h4⟩ := far_ex I hi
  exact ⟨q, h1, h2, h4⟩
section
variable {f : Nat → Nat} {S : List (Nat × Nat)} {n : Nat}
theorem Cov.mono (C : Cov f S n) {i j : Nat} (h : i ≤ j) (hj : j < n) : f i ≤ f j := by
  obtain ⟨q, h1, h2, h3⟩ := C.ex i (by omega)
  have := (C.own j hj).1
  rcases Nat.lt_or_ge q.2 j with c | c
  · omega
  · have := C.ge q h1 j (by omega) c
    omega
theorem w_zero' {d : Nat} : wT f n 0 d = 0 := rfl
theorem w_nil {t : Nat} : wT f n t 0 = 0 := by cases t <;> rfl
theorem w_step {t i : Nat} (hi : i < n) : wT f n (t + 1) (n - i) = max (wT f n (t + 1) (n - (i + 1))) (f i - i + 1 + wT f n t (n - (f i + 1))) := by
  obtain ⟨d, hd⟩ : ∃ d, n - i = d + 1 := ⟨n - i - 1, by omega⟩
  rw [hd, show n - (i + 1) = d by omega]
  show max (wRow f n (wT f n t) d) (f (n - (d + 1)) - (n - (d + 1)) + 1 + wT f n t (n - (f (n - (d + 1)) + 1))) = _
  rw [show n - (d + 1) = i by omega]
  rfl
theorem w_mono {t : Nat} : ∀ d, wT f n t d ≤ wT f n (t + 1) d := by
  induction t with
  | zero => exact fun d => Nat.zero_le _
  | succ t ih =>
    intro d
    induction d with
    | zero => exact Nat.le_refl _
    | succ d ih2 =>
      show max (wRow f n (wT f n t) d) _ ≤ max (wRow f n (wT f n (t + 1)) d) _
      have h1 : wRow f n (wT f n t) d ≤ wRow f n (wT f n (t + 1)) d := ih2
      have h2 := ih (n - (f (n - (d + 1)) + 1))
      omega
theorem w_up {t d : Nat} : wT f n t d ≤ wT f n t (d + 1) := by
  cases t with
  | zero => exact Nat.le_refl _
  | succ t => exact Nat.le_max_left _ _
theorem w_upn {t d : Nat} : ∀ {e : Nat}, d ≤ e → wT f n t d ≤ wT f n t e
  | 0, h => by rw [show d = 0 by omega]; exact Nat.le_refl _
  | e + 1, h => by
    rcases Nat.eq_or_lt_of_le h with c | c
    · rw [c]; exact Nat.le_refl _
    · exact Nat.le_trans (w_upn (show d ≤ e by omega)) w_up
theorem w_many {t u d : Nat} (h : t ≤ u) : wT f n t d ≤ wT f n u d := by
  induction h with
  | refl => exact Nat.le_refl _
  | step _ ih => exact Nat.le_trans ih (w_mono d)
theorem w_lip1 (C : Cov f S n) : ∀ (t i : Nat), i < n → wT f n t (n - i) ≤ wT f n t (n - (i + 1)) + 1
  | 0, i, hi => Nat.zero_le _
  | t + 1, i, hi => by
    rw [w_step hi]
    have lip : ∀ (m a : Nat), a + m ≤ n → wT f n t (n - a) ≤ wT f n t (n - (a + m)) + m := by
      intro m
      induction m with
      | zero => exact fun a _ => Nat.le_refl _
      | succ m ih =>
        intro a ha
        have h1 := w_lip1 C t a (by omega)
        have h2 := ih (a + 1) (by omega)
        rw [show a + 1 + m = a + (m + 1) by omega] at h2
        omega
    have hf := C.own i hi
    have h2 : f i - i + 1 + wT f n t (n - (f i + 1)) ≤ wT f n (t + 1) (n - (i + 1)) + 1 := by
      rcases Nat.eq_or_lt_of_le hf.1 with c | c
      · have := w_mono (f := f) (n := n) (t := t) (n - (f i + 1))
        rw [← c] at this ⊢
        omega
      · have hi1 : i + 1 < n := by omega
        have h3 := C.mono (show i ≤ i + 1 by omega) hi1
        have h4 := C.own (i + 1) hi1
        rw [w_step hi1]
        have h5 := lip (f (i + 1) - f i) (f i + 1) (by omega)
        rw [show f i + 1 + (f (i + 1) - f i) = f (i + 1) + 1 by omega] at h5
        omega
    omega
theorem w_lip (C : Cov f S n) {t : Nat} : ∀ (m a : Nat), a + m ≤ n → wT f n t (n - a) ≤ wT f n t (n - (a + m)) + m
  | 0, a, _ => Nat.le_refl _
  | m + 1, a, ha => by
    have h1 := w_lip1 C t a (by omega)
    have h2 := w_lip C (t := t) m (a + 1) (by omega)
    rw [show a + 1 + m = a + (m + 1) by omega] at h2
    omega
theorem v_ge {t j : Nat} : vT S (t + 1) j ≤ vT S (t + 1) (j + 1) ∧ ∀ q ∈ S, q.1 ≤ j → j ≤ q.2 → vT S t q.1 + (j + 1 - q.1) ≤ vT S (t + 1) (j + 1) := by
  obtain ⟨h1, h2, _⟩ := fold_max (vSome S (vT S t) j) (vRow S (vT S t) j)
  refine ⟨h2, fun q hq a b => h1 _ (List.mem_map.mpr ⟨q, List.mem_filter.mpr ⟨hq, ?_⟩, rfl⟩)⟩
  rw [decide_eq_true a, decide_eq_true b]
  rfl
theorem v_cases {t j : Nat} : vT S (t + 1) (j + 1) = vT S (t + 1) j ∨ ∃ q ∈ S, q.1 ≤ j ∧ j ≤ q.2 ∧ vT S (t + 1) (j + 1) = vT S t q.1 + (j + 1 - q.1) := by
  obtain ⟨_, _, h3⟩ := fold_max (vSome S (vT S t) j) (vRow S (vT S t) j)
  rcases h3 with h3 | h3
  · exact .inl h3
  · obtain ⟨q, hq, e⟩ := List.mem_map.mp h3
    obtain ⟨h4, h5⟩ := List.mem_filter.mp hq
    simp only [Bool.and_eq_true, decide_eq_true_eq] at h5
    exact .inr ⟨q, h4, h5.1, h5.2, e.symm⟩
theorem v_nil {t : Nat} : vT S t 0 = 0 := by cases t <;> rfl
theorem v_mono {t : Nat} : ∀ j, vT S t j ≤ vT S (t + 1) j := by
  induction t with
  | zero => exact fun _ => Nat.zero_le _
  | succ t ih =>
    intro j
    induction j with
    | zero => exact Nat.le_refl _
    | succ j ih2 =>
      rcases v_cases (S := S) (t := t) (j := j) with e | ⟨q, h1, h2, h3, e⟩
      · rw [e]
        exact Nat.le_trans ih2 v_ge.1
      · rw [e]
        have := (v_ge (S := S) (t := t + 1)).2 q h1 h2 h3
        have := ih q.1
        omega
theorem v_many {t u j : Nat} (h : t ≤ u) : vT S t j ≤ vT S u j := by
  induction h with
  | refl => exact Nat.le_refl _
  | step _ ih => exact Nat.le_trans ih (v_mono j)
theorem v_up {t j : Nat} : vT S t j ≤ vT S t (j + 1) := by
  cases t with
  | zero => exact Nat.le_refl _
  | succ t => exact v_ge.1
theorem v_upn {t j : Nat} : ∀ {e : Nat}, j ≤ e → vT S t j ≤ vT S t e
  | 0, h => by rw [show j = 0 by omega]; exact Nat.le_refl _
  | e + 1, h => by
    rcases Nat.eq_or_lt_of_le h with c | c
    · rw [c]; exact Nat.le_refl _
    · exact Nat.le_trans (v_upn (show j ≤ e by omega)) v_up
theorem v_lip1 {t j : Nat} : vT S t (j + 1) ≤ vT S t j + 1 := by
  cases t with
  | zero => exact Nat.zero_le _
  | succ t =>
    rcases v_cases (S := S) (t := t) (j := j) with e | ⟨q, h1, h2, h3, e⟩
    · rw [e]; omega
    · rw [e]
      rcases Nat.eq_or_lt_of_le h2 with c | c
      · rw [c]
        have := v_mono (S := S) (t := t) j
        omega
      · obtain ⟨k, rfl⟩ : ∃ k, j = k + 1 := ⟨j - 1, by omega⟩
        have := (v_ge (S := S) (t := t)).2 q h1 (show q.1 ≤ k by omega) (by omega)
        omega
theorem v_lip {t j : Nat} : ∀ m, vT S t (j + m) ≤ vT S t j + m
  | 0 => Nat.le_refl _
  | m + 1 => by
    have h1 := v_lip (t := t) (j := j) m
    have h2 := v_lip1 (S := S) (t := t) (j := j + m)
    rw [show j + (m + 1) = j + m + 1 by omega]
    omega
theorem v_le_w (C : Cov f S n) : ∀ (t : Nat) (u j : Nat), j ≤ n → vT S t j + wT f n u (n - j) ≤ wT f n (t + u) n
  | 0, u, j, hj => by
    rw [show vT S 0 j = 0 from rfl, Nat.zero_add, Nat.zero_add]
    exact w_upn (by omega)
  | t + 1, u, 0, hj => by
    rw [v_nil, Nat.zero_add, Nat.sub_zero]
    exact w_many (by omega)
  | t + 1, u, j + 1, hj => by
    rcases v_cases (S := S) (t := t) (j := j) with e | ⟨q, h1, h2, h3, e⟩
    · have h4 := v_le_w C (t + 1) u j (by omega)
      have h5 : wT f n u (n - (j + 1)) ≤ wT f n u (n - j) := w_upn (by omega)
      rw [e]
      omega
    · have hq := C.bd q h1
      have hf := C.own q.1 (by omega)
      have hg := C.ge q h1 q.1 (Nat.le_refl _) hq.1
      have h4 := v_le_w C t (u + 1) q.1 (by omega)
      have h5 := w_step (f := f) (n := n) (t := u) (i := q.1) (by omega)
      have h6 := w_lip C (t := u) (f q.1 + 1 - (j + 1)) (j + 1) (by omega)
      rw [show j + 1 + (f q.1 + 1 - (j + 1)) = f q.1 + 1 by omega] at h6
      rw [show t + 1 + u = t + (u + 1) by omega, e]
      omega
theorem w_le_v (C : Cov f S n) : ∀ (t u d i : Nat), i + d = n → wT f n t (n - i) + vT S u i ≤ vT S (t + u) n
  | 0, u, d, i, hd => by
    rw [w_zero', Nat.zero_add, Nat.zero_add]
    exact v_upn (by omega)
  | t + 1, u, 0, i, hd => by
    have e : i = n := by omega
    subst e
    rw [Nat.sub_self, w_nil, Nat.zero_add]
    exact v_many (by omega)
  | t + 1, u, d + 1, i, hd => by
    rw [w_step (by omega)]
    have h1 := w_le_v C (t + 1) u d (i + 1) (by omega)
    have h2 := v_up (S := S) (t := u) (j := i)
    have hf := C.own i (by omega)
    have h3 := w_le_v C t (u + 1) (n - (f i + 1)) (f i + 1) (by omega)
    obtain ⟨q, q1, q2, q3⟩ := C.ex i (by omega)
    have h4 := (v_ge (S := S) (t := u)).2 q q1 (show q.1 ≤ f i by omega) (by omega)
    have h5 := v_lip (S := S) (t := u) (j := q.1) (i - q.1)
    rw [show q.1 + (i - q.1) = i by omega] at h5
    rw [show t + (u + 1) = t + 1 + u by omega] at h3
    omega
theorem w_eq_v (C : Cov f S n) (t : Nat) : wT f n t n = vT S t n := by
  have h1 := v_le_w C t 0 n (Nat.le_refl _)
  have h2 := w_le_v C t 0 n 0 (by omega)
  rw [Nat.sub_zero, show vT S 0 0 = 0 from rfl] at h2
  rw [w_zero', Nat.add_zero, Nat.add_zero] at h1
  rw [Nat.add_zero, Nat.add_zero] at h2
  omega
/-! how many stones some spans fell -/
def cntC (P : List (Nat × Nat)) (j : Nat) : Nat := ((List.range j).filter (covB P)).length
theorem cnt_succ {P : List (Nat × Nat)} {j : Nat} : cntC P (j + 1) = cntC P j + if covB P j then 1 else 0 := by
  unfold cntC
  rw [List.range_succ, List.filter_append, List.length_append]
  cases h : covB P j <;> simp [h]
theorem cnt_up {P : List (Nat × Nat)} {i : Nat} : ∀ m, cntC P i ≤ cntC P (i + m) ∧ cntC P (i + m) ≤ cntC P i + m
  | 0 => ⟨Nat.le_refl _, Nat.le_refl _⟩
  | m + 1 => by
    have := cnt_up (P := P) (i := i) m
    rw [show i + (m + 1) = i + m + 1 by omega, cnt_succ]
    split <;> omega
theorem cnt_sub {P Q : List (Nat × Nat)} : ∀ {j : Nat}, (∀ x, x < j → covB P x = true → covB Q x = true) → cntC P j ≤ cntC Q j
  | 0, _ => Nat.le_refl _
  | j + 1, h => by
    rw [cnt_succ, cnt_succ]
    have := cnt_sub (P := P) (Q := Q) (j := j) fun x hx => h x (by omega)
    have := h j (by omega)
    cases c : covB P j <;> cases d : covB Q j <;> simp_all <;> omega
theorem cnt_le_v : ∀ (t j : Nat) (P : List (Nat × Nat)), P.length = t → (∀ q ∈ P, q ∈ S) → cntC P j ≤ vT S t j
  | t, 0, P, _, _ => Nat.zero_le _
  | 0, j + 1, P, h, _ => by
    have : P = [] := List.eq_nil_of_length_eq_zero h
    subst this
    have : cntC [] (j + 1) = 0 := by
      unfold cntC
      rw [List.filter_eq_nil_iff.mpr fun x _ => by simp [covB]]
      rfl
    rw [this]
    exact Nat.zero_le _
  | t + 1, j + 1, P, h, hS => by
    cases c : covB P j with
    | false =>
      rw [cnt_succ, c]
      exact Nat.le_trans (cnt_le_v (t + 1) j P h hS) v_ge.1
    | true =>
      obtain ⟨q, hq, h1, h2⟩ := cov_iff.mp c
      have h3 := cnt_le_v t q.1 (P.erase q) (by rw [List.length_erase_of_mem hq, h]; rfl) fun z hz => hS z (List.mem_of_mem_erase hz)
      have h4 := (v_ge (S := S) (t := t)).2 q (hS q hq) h1 h2
      have h5 : cntC P q.1 ≤ cntC (P.erase q) q.1 := cnt_sub fun x hx hc => by
        obtain ⟨z, hz, z1, z2⟩ := cov_iff.mp hc
        exact cov_iff.mpr ⟨z, (List.mem_erase_of_ne (fun e => by rw [e] at z1; omega)).mpr hz, z1, z2⟩
      have h6 := (cnt_up (P := P) (i := q.1) (j + 1 - q.1)).2
      rw [show q.1 + (j + 1 - q.1) = j + 1 by omega] at h6
      omega
termination_by t j => (t, j)
theorem cnt_grow {P : List (Nat × Nat)} {q : Nat × Nat} {i : Nat} (h1 : q.1 ≤ i) (h2 : i ≤ q.2) : cntC P i + (q.2 + 1 - i) ≤ cntC (P ++ [q]) (q.2 + 1) := by
  have h3 : cntC P i ≤ cntC (P ++ [q]) i := cnt_sub fun x _ hc => by
    obtain ⟨z, hz, z1⟩ := cov_iff.mp hc
    exact cov_iff.mpr ⟨z, List.mem_append_left _ hz, z1⟩
  have h4 : ∀ m, i + m ≤ q.2 + 1 → cntC (P ++ [q]) i + m ≤ cntC (P ++ [q]) (i + m) := by
    intro m
    induction m with
    | zero => exact fun _ => Nat.le_refl _
    | succ m ih =>
      intro hm
      rw [show i + (m + 1) = i + m + 1 by omega, cnt_succ, if_pos (cov_iff.mpr ⟨q, List.mem_append_right _ (List.mem_singleton.mpr rfl), by omega, by omega⟩)]
      have := ih (by omega)
      omega
  have := h4 (q.2 + 1 - i) (by omega)
  rw [show i + (q.2 + 1 - i) = q.2 + 1 by omega] at this
  omega
end
noncomputable def wRowL (l : SRow) (t : Nat) : List Nat := (List.range (l.length + 1)).map fun i => wT (farE l) l.length t (l.length - i)
theorem wRowL_len {l : SRow} {t : Nat} : (wRowL l t).length = l.length + 1 := by unfold wRowL; simp
theorem wRowL_get {l : SRow} {t i : Nat} (hi : i ≤ l.length) : (wRowL l t)[i]? = some (wT (farE l) l.length t (l.length - i)) := by
  unfold wRowL
  rw [List.getElem?_map, List.getElem?_range (by omega)]
  rfl
theorem wRowL_of {l : SRow} {t : Nat} {bs : List Nat} (h : bs.length = l.length + 1) (hb : ∀ i, i ≤ l.length → bs[i]? = some (wT (farE l) l.length t (l.length - i))) : bs = wRowL l t := by
  refine List.ext_getElem? fun i => ?_
  rcases Nat.lt_or_ge l.length i with c | c
  · rw [List.getElem?_eq_none (by omega), List.getElem?_eq_none (by rw [wRowL_len]; omega)]
  · rw [hb i c, wRowL_get c]
theorem zeros {k : Nat} : (List.replicate k [PyData.int 0]).flatten = (List.replicate k 0).map natD := by
  rw [List.map_replicate]
  induction k with
  | zero => rfl
  | succ k ih => rw [List.replicate_succ, List.flatten_cons, ih, List.replicate_succ]; rfl
theorem nat_at {ks : List Nat} {i k : Nat} (h : ks[i]? = some k) : atI (ks.map natD) (i : Nat) = some (.int (k : Nat)) := atI_map (f := natD) i rfl h
noncomputable def wTab (l : SRow) (t : Nat) : List PyData := (List.range (t + 1)).map fun k => .list ((wRowL l k).map natD)
theorem wTab_succ {l : SRow} {t : Nat} : wTab l (t + 1) = wTab l t ++ [.list ((wRowL l (t + 1)).map natD)] := by
  unfold wTab
  rw [List.range_succ, List.map_append]
  rfl
theorem wTab_len {l : SRow} {t : Nat} : (wTab l t).length = t + 1 := by unfold wTab; simp
theorem wTab_last {l : SRow} {t : Nat} : atI (wTab l t) (-1) = some (.list ((wRowL l t).map natD)) := by
  unfold wTab
  refine atI_end (f := fun k => PyData.list ((wRowL l k).map natD)) ?_
  rw [List.length_range, List.getElem?_range (by omega)]
  rfl
theorem wTab_get {l : SRow} {t k : Nat} (h : k ≤ t) : atI (wTab l t) (k : Nat) = some (.list ((wRowL l k).map natD)) := by
  unfold wTab
  refine atI_map (f := fun k => PyData.list ((wRowL l k).map natD)) k rfl ?_
  rw [List.getElem?_range (by omega)]
def mf_best_from : MF := fun as R _ => ∃ (l : SRow) (t : Nat), as = [.d (rowD l), .d (.int (t : Nat))] ∧ Inc l ∧ l.length ≤ 1000 ∧ t ≤ 1000 ∧ R (.d (.list (wTab l t)))
theorem d_best_from {f : Addr} {fd : FuncData} (T : Txt K mg) (hm : mg "best_from" = some (.ref f)) (F0 : L2.Fun K "best_from" "best_from" s_best_from f fd) (hb : Binds K fd ["row", "many"] []) (F_far_ends : DFn P w K mg base CK "far_ends" 4 0 1 mf_far_ends) : DFn P w K mg base CK "best_from" 5 0 2 mf_best_from :=
  (dfn_of hm F0 hb sc_best_from (fun cdv A outer s H E cx =>
 (dss_cons (ds_set (i := 2) sc_best_from.nd rfl (by first | exact Or.inl rfl | exact Or.inr rfl) (de_call cx F_far_ends (by decide) (by rfl) (da_cons (de_pv 0) da_nil)))
 (dss_cons (ds_set (i := 3) sc_best_from.nd rfl (by first | exact Or.inl rfl | exact Or.inr rfl) (de_lst (da_cons (de_mul (de_lst (da_cons de_int da_nil)) (de_add (de_len (by rfl) T.n_len (da_cons (de_pv 0) da_nil)) de_int)) da_nil)))
 (dss_cons (ds_for (Ctx.passes rfl) (by rfl) (di_range1 (by rfl) T.n_range (da_cons (de_pv 1) da_nil)) (dg_name (i := 4) sc_best_from.nd rfl (by first | exact Or.inl rfl | exact Or.inr rfl)) (dss_cons (ds_set (i := 5) sc_best_from.nd rfl (by first | exact Or.inl rfl | exact Or.inr rfl) (de_mul (de_lst (da_cons de_int da_nil)) (de_add (de_len (by rfl) T.n_len (da_cons (de_pv 0) da_nil)) de_int)))
 (dss_cons (ds_for (Ctx.passes rfl) (by rfl) (di_range3 (by rfl) T.n_range (da_cons (de_sub (de_len (by rfl) T.n_len (da_cons (de_pv 0) da_nil)) de_int) (da_cons (de_neg de_int) (da_cons (de_neg de_int) da_nil)))) (dg_name (i := 6) sc_best_from.nd rfl (by first | exact Or.inl rfl | exact Or.inr rfl)) (dss_cons (ds_set (i := 7) sc_best_from.nd rfl (by first | exact Or.inl rfl | exact Or.inr rfl) (de_ix (de_ix (de_pv 2) (de_pv 6)) de_int))
 (dss_one (ds_sto (pv 5) (de_pv 6) (de_max2 (by rfl) (by rfl) T.n_max (da_cons (de_ix (de_pv 5) (de_add (de_pv 6) de_int)) (da_cons (de_add (de_add (de_sub (de_pv 7) (de_pv 6)) de_int) (de_ix (de_ix (de_pv 3) (de_neg de_int)) (de_add (de_pv 7) de_int))) da_nil)))))))
 (dss_one (ds_frz 5 (ds_mut PySem.F.slot_list_append PySem.F.type_list_append mt_append mut_app (pv 3) (da_cons (de_pv 5) da_nil)))))))
 (dss_one (ds_ret (de_pv 3)))))))
  (by
    rintro as R ex hl ⟨l, t, rfl, I, hn, ht, h⟩
    have hlen : oLen (.d (rowD l)) = fun R => R (.d (.int l.length)) := by
      unfold rowD
      funext R
      walk_at "dx"
      rw [List.length_map]
    walk_at "dx"
    refine ⟨l, rfl, I, fun es hE => ?_⟩
    walk_at "dx"
    rw [hlen]
    walk_at "dx"
    rw [show ((l.length : Nat) : Int) + 1 = ((l.length + 1 : Nat) : Int) by push_cast; rfl, Int.toNat_natCast, zeros]
    refine ⟨by walk_at "lim", by omega, by omega, by walk_at "lim", by walk_at "lim", by omega, by omega, ?_⟩
    have hz0 : List.replicate (l.length + 1) 0 = wRowL l 0 := wRowL_of (by simp) fun i hi => by rw [List.getElem?_replicate_of_lt (by omega)]; rfl
    refine for_range (fun k δ => ∃ a4 a5 a6 a7 : Option DV, δ = [some (.d (rowD l)), some (.d (.int (t : Nat))), some (.d (.list (es.map hpD))), some (.own (wTab l k)), a4, a5, a6, a7]) ⟨none, none, none, none, by rw [hz0]; rfl⟩ ?_ ?_
    · rintro δ ⟨a4, a5, a6, a7, rfl⟩
      walk_at "dx"
      exact h
    · rintro k δ K hk ⟨a4, a5, a6, a7, rfl⟩ hK
      walk_at "dx"
      rw [hlen]
      walk_at "dx"
      rw [show ((l.length : Nat) : Int) + 1 = ((l.length + 1 : Nat) : Int) by push_cast; rfl, Int.toNat_natCast, zeros]
      have hdown : ((l.length : Nat) : Int) - 1 - -1 = (l.length : Nat) := by omega
      rw [hdown, Int.toNat_natCast]
      refine ⟨by walk_at "lim", by omega, by omega, by walk_at "lim", ⟨by omega, by omega, by omega, by omega⟩, ?_⟩
      refine for_down (fun d δ => ∃ (bs : List Nat) (a6 a7 : Option DV), bs.length = l.length + 1 ∧ (∀ i, l.length - d ≤ i → i ≤ l.length → bs[i]? = some (wT (farE l) l.length (k + 1) (l.length - i))) ∧ δ = [some (.d (rowD l)), some (.d (.int (t : Nat))), some (.d (.list (es.map hpD))), some (.own (wTab l k)), some (.d (.int (k : Nat))), some (.own (bs.map natD)), a6, a7]) ⟨List.replicate (l.length + 1) 0, _, _, by simp, fun i h1 h2 => ?_, rfl⟩ ?_ ?_
      · have : i = l.length := by omega
        subst this
        rw [List.getElem?_replicate_of_lt (by omega), Nat.sub_self, w_nil]
      · rintro δ ⟨bs, a6, a7, hl1, hb, rfl⟩
        have hbs := wRowL_of hl1 fun i hi => hb i (by omega) hi
        subst hbs
        walk_at "dx"
        rw [if_pos (show (wTab l k).length < sizeLine from by rw [wTab_len]; walk_at "lim")]
        exact hK _ ⟨_, _, _, _, by rw [wTab_succ]⟩
      · rintro d δ K2 hd ⟨bs, a6, a7, hl1, hb, rfl⟩ hK2
        obtain ⟨i, hi⟩ : ∃ i : Nat, i = l.length - 1 - d := ⟨_, rfl⟩
        have hil : i < l.length := by omega
        rw [show ((l.length : Nat) : Int) - 1 - (d : Nat) = (i : Nat) by omega]
        obtain ⟨p, _, hat⟩ := hE.get hil
        have hf1 := far_own I hil
        have hf2 := far_lt I hil
        refine ⟨rfl, by simp, ?_⟩
        change mSeq _ _ _ _ [some (.d (rowD l)), some (.d (.int (t : Nat))), some (.d (.list (es.map hpD))), some (.own (wTab l k)), some (.d (.int (k : Nat))), some (.own (bs.map natD)), some (.d (.int (i : Nat))), a7]
        walk_at "dx"
        rw [hat]
        walk_at "dx"
        rw [show ((i : Nat) : Int) + 1 = ((i + 1 : Nat) : Int) by push_cast; rfl, nat_at (hb (i + 1) (by omega) (by omega)), wTab_last]
        walk_at "dx"
        rw [show ((farE l i : Nat) : Int) + 1 = ((farE l i + 1 : Nat) : Int) by push_cast; rfl, nat_at (wRowL_get (t := k) (show farE l i + 1 ≤ l.length by omega))]
        walk_at "dx"
        have hw := w_step (f := farE l) (n := l.length) (t := k) hil
        obtain ⟨nv, hnv⟩ : ∃ nv, nv = wT (farE l) l.length (k + 1) (l.length - i) := ⟨_, rfl⟩
        rw [← hnv] at hw
        rw [ixN_nat (show i < (bs.map natD).length by rw [List.length_map]; omega)]
        have e : (if ((farE l i : Nat) : Int) - (i : Nat) + 1 + (wT (farE l) l.length k (l.length - (farE l i + 1)) : Nat) > (wT (farE l) l.length (k + 1) (l.length - (i + 1)) : Nat) then ((farE l i : Nat) : Int) - (i : Nat) + 1 + (wT (farE l) l.length k (l.length - (farE l i + 1)) : Nat) else (wT (farE l) l.length (k + 1) (l.length - (i + 1)) : Nat)) = (nv : Nat) := by
          split <;> omega
        dsimp only
        rw [e, show PyData.int (nv : Nat) = natD nv from rfl, ← List.map_set]
        refine hK2 _ ⟨bs.set i nv, _, _, by rw [List.length_set]; exact hl1, fun j h1 h2 => ?_, rfl⟩
        by_cases c : j = i
        · subst c
          rw [List.getElem?_set_self (by omega), hnv]
        · rw [List.getElem?_set_ne (by omega)]
          exact hb j (by omega) h2)).le (by decide +kernel)
def isSide (v : PyData) : Bool := match v with
  | .str x => decide (x = "left") || decide (x = "right")
  | _ => false
def mf_is_side : MF := fun as R _ => ∃ v : PyData, as = [.d v] ∧ (∀ x, v = .str x → SeqAt.shaped (.str x) = true) ∧ R (.d (.bool (isSide v)))
def isPush (n : Nat) (v : PyData) : Bool := match v with
  | .tuple [a, b] => isInt a 0 ((n : Nat) - 1) && isSide b
  | _ => false
def mf_is_push : MF := fun as R _ => ∃ (l : SRow) (v : PyData), as = [.d (rowD l), .d v] ∧ (∀ a x, v = .tuple [a, .str x] → SeqAt.shaped (.str x) = true) ∧ R (.d (.bool (isPush l.length v)))
def needF (f : Nat → Nat) : Nat → List Nat → Nat
  | _, [] => 0
  | h, s :: r => if h ≤ s then 1 + needF f (f s + 1) r else needF f h r
def srtN (ks : List Nat) : List Nat := ks.mergeSort fun a b => decide (a ≤ b)
theorem srt_perm {ks : List Nat} : (srtN ks).Perm ks := List.mergeSort_perm _ _
theorem srt_asc {ks : List Nat} : (srtN ks).Pairwise (· ≤ ·) := by
  have := List.pairwise_mergeSort (le := fun a b : Nat => decide (a ≤ b)) (fun a b c h1 h2 => by simp at *; omega) (fun a b => by simp; omega) ks
  exact this.imp fun h => by simpa using h
theorem srt_of {ks ms : List Nat} (hp : ms.Perm ks) (hs : ms.Pairwise (· ≤ ·)) : ms = srtN ks := List.Perm.eq_of_pairwise (fun a b _ _ h1 h2 => Nat.le_antisymm h1 h2) hs srt_asc (hp.trans srt_perm.symm)
theorem srt_mem {ks : List Nat} {x : Nat} : x ∈ srtN ks ↔ x ∈ ks := srt_perm.mem_iff
def noStone (v : PyData) : DExc := ⟨"NoStone", some ("value", v)⟩
/-- the first value that is no stone of a row of n -/
def badSt (n : Nat) (gs : List PyData) : Option PyData := gs.find? fun v => !isInt v 0 ((n : Nat) - 1)
theorem srt_int {ks : List Nat} : isort (ks.map fun k : Nat => (k : Int)) = (srtN ks).map fun k : Nat => (k : Int) := by
  refine (isort_of (List.Perm.map _ srt_perm) ?_).symm
  exact List.Pairwise.map _ (fun a b h => by omega) srt_asc
theorem natInts (ks : List Nat) : ks.map natD = (ks.map fun k : Nat => (k : Int)).map PyData.int := by rw [List.map_map]; rfl
theorem is_st {n s : Nat} (h : s < n) : isInt (.int (s : Nat)) 0 ((n : Nat) - 1) = true := by simp [isInt]; omega
theorem isInt_nat {v : PyData} {n : Nat} (h : isInt v 0 ((n : Nat) - 1) = true) : ∃ s : Nat, v = .int (s : Nat) ∧ s < n := by
  cases v with
  | int i =>
    simp only [isInt, Bool.and_eq_true, decide_eq_true_eq] at h
    exact ⟨i.toNat, by rw [Int.toNat_of_nonneg h.1], by omega⟩
  | _ => simp [isInt] at h
theorem bad_none {n : Nat} : ∀ {gs : List PyData}, badSt n gs = none → ∃ ks : List Nat, gs = ks.map natD ∧ ∀ k ∈ ks, k < n
  | [], _ => ⟨[], rfl, fun k h => by cases h⟩
  | g :: gs, h => by
    unfold badSt at h
    rw [List.find?_cons] at h
    cases e : isInt g 0 ((n : Nat) - 1) with
    | false => rw [e] at h; cases h
    | true =>
      rw [e] at h
      obtain ⟨ks, rfl, hk⟩ := bad_none (gs := gs) h
      obtain ⟨s, rfl, hs⟩ := isInt_nat e
      refine ⟨s :: ks, rfl, fun k hk' => ?_⟩
      rcases List.mem_cons.mp hk' with rfl | hk'
      · exact hs
      · exact hk k hk'
def mf_fewest_for : MF := fun as R ex => ∃ (l : SRow) (gs : List PyData), as = .d (rowD l) :: gs.map DV.d ∧ Inc l ∧ gs.length ≤ 1000 ∧ (∀ v, badSt l.length gs = some v → ex (noStone v)) ∧ ∀ ks : List Nat, gs = ks.map natD → (∀ k ∈ ks, k < l.length) → R (.d (natD (needF (farE l) 0 (srtN ks))))
/-- two stones that no push fells both -/
noncomputable def Apart2 (l : SRow) (a b : Nat) : Bool := decide (a < b) && !((spN l).map fun q => decide (q.1 ≤ a) && decide (b ≤ q.2)).any id
noncomputable def apartB (l : SRow) : List Nat → Bool
  | [] => true
  | a :: r => (match r with
    | [] => true
    | b :: _ => Apart2 l a b) && apartB l r
/-- any value: is it stones apart? -/
noncomputable def apartV (l : SRow) (v : PyData) : Bool := match v with
  | .tuple xs => match badSt l.length xs with
    | some _ => false
    | none => apartB l (xs.map fun x => match x with
      | .int i => i.toNat
      | _ => 0)
  | _ => false
def onLH (a b : Nat) : PyData → Option PyData
  | .tuple [_, .tuple [.int lo, .int hi]] => some (.bool (decide (lo ≤ (a : Nat)) && decide ((b : Nat) ≤ hi)))
  | _ => none
theorem lh_lc {l : SRow} {a b : Nat} : (sidesL l l.length).filterMap (onLH a b) = ((spN l).map fun q => decide (q.1 ≤ a) && decide (b ≤ q.2)).map PyData.bool := by
  unfold sidesL spN
  rw [List.map_flatMap, List.map_flatMap, List.filterMap_flatMap]
  refine congrArg (fun f => List.flatMap f (List.range l.length)) ?_
  funext s
  simp only [sidesD, onLH, List.filterMap_cons, List.filterMap_nil, List.map_cons, List.map_nil, Int.ofNat_le]
theorem oBools_map {f : List Bool → Bool} {bs : List Bool} {R : DV → Prop} : oBools f (.own (bs.map PyData.bool)) R = R (.d (.bool (f bs))) := by
  unfold oBools
  simp only [DV.lst, boolsOf_map]
theorem fm_congr {α β : Type} {f g : α → Option β} : ∀ {xs : List α}, (∀ x ∈ xs, f x = g x) → xs.filterMap f = xs.filterMap g
  | [], _ => rfl
  | x :: xs, h => by
    rw [List.filterMap_cons, List.filterMap_cons, h x (List.mem_cons_self ..), fm_congr fun y hy => h y (List.mem_cons_of_mem _ hy)]
def mf_are_apart : MF := fun as R _ => ∃ (l : SRow) (v : PyData), as = [.d (rowD l), .d v] ∧ Inc l ∧ (∀ xs, v = .tuple xs → xs.length ≤ 1000) ∧ R (.d (.bool (apartV l v)))
theorem badSt_all {n : Nat} {xs : List PyData} : (xs.map fun v => isInt v 0 ((n : Nat) - 1)).all id = (badSt n xs).isNone := by
  induction xs with
  | nil => rfl
  | cons x xs ih =>
    unfold badSt at ih ⊢
    rw [List.map_cons, List.all_cons, ih, List.find?_cons]
    cases isInt x 0 ((n : Nat) - 1) <;> rfl
theorem zip_nats : ∀ (xs : List Nat) (ys : List Nat), zipD (xs.map natD) (ys.map natD) = (xs.zip ys).map fun p => .tuple [natD p.1, natD p.2]
  | [], _ => rfl
  | _ :: _, [] => rfl
  | x :: xs, y :: ys => by
    rw [List.map_cons, List.map_cons, zipD, zip_nats xs ys]
    rfl
/-- the end of a walk so far -/
structure EndW (l : SRow) (s m : Nat) (r : Int) : Prop where
  le : s ≤ m
  lt : m < l.length
  ch : ∀ j, s < j → j ≤ m → ∃ k, s ≤ k ∧ k < j ∧ pl l j ≤ pl l k + ht l k
  up : ∀ k, s ≤ k → k ≤ m → pl l k + ht l k ≤ r
  at_ : ∃ k, s ≤ k ∧ k ≤ m ∧ r = pl l k + ht l k
theorem EndW.end_ {l : SRow} {s m : Nat} {r : Int} (h : EndW l s m r) (hs : m + 1 < l.length → r < pl l (m + 1)) : IsEnd l s m := ⟨h.le, h.lt, h.ch, fun hn k h1 h2 => by
  have := h.up k h1 h2
  have := hs hn
  omega⟩
theorem EndW.init {l : SRow} {s : Nat} (h : s < l.length) : EndW l s s (pl l s + ht l s) := ⟨Nat.le_refl _, h, fun j h1 h2 => absurd h1 (by omega), fun k h1 h2 => by
  obtain rfl : k = s := by omega
  exact Int.le_refl _, s, Nat.le_refl _, Nat.le_refl _, rfl⟩
theorem EndW.step {l : SRow} {s m : Nat} {r : Int} (h : EndW l s m r) (hn : m + 1 < l.length) (hs : pl l (m + 1) ≤ r) : EndW l s (m + 1) (max r (pl l (m + 1) + ht l (m + 1))) := by
  have hle := h.le
  refine ⟨by omega, hn, fun j h1 h2 => ?_, fun k h1 h2 => ?_, ?_⟩
  · rcases Nat.lt_or_ge m j with q | q
    · obtain ⟨k, k1, k2, k3⟩ := h.at_
      have : j = m + 1 := by omega
      subst this
      exact ⟨k, k1, by omega, by omega⟩
    · exact h.ch j h1 q
  · rcases Nat.lt_or_ge m k with q | q
    · have : k = m + 1 := by omega
      subst this
      omega
    · have := h.up k h1 q
      omega
  · rcases Int.le_total r (pl l (m + 1) + ht l (m + 1)) with q | q
    · exact ⟨m + 1, by omega, by omega, by omega⟩
    · obtain ⟨k, k1, k2, k3⟩ := h.at_
      exact ⟨k, k1, by omega, by omega⟩
theorem row_at {l : SRow} {i : Nat} (hi : i < l.length) : atI (l.map stD) (i : Nat) = some (.tuple [.int (pl l i), .int (ht l i)]) := atI_map (f := stD) _ rfl (row_get hi)
def mf__law_right : MF := fun as R _ => ∃ (l : SRow) (s : Nat), as = [.d (rowD l), .d (.int (s : Nat))] ∧ Inc l ∧ s < l.length ∧ R (.d (natD (endOf l s)))
structure StaW (l : SRow) (s m : Nat) (r : Int) : Prop where
  le : m ≤ s
  lt : s < l.length
  ch : ∀ j, m ≤ j → j < s → ∃ k, j < k ∧ k ≤ s ∧ pl l k - ht l k ≤ pl l j
  up : ∀ k, m ≤ k → k ≤ s → r ≤ pl l k - ht l k
  at_ : ∃ k, m ≤ k ∧ k ≤ s ∧ r = pl l k - ht l k
theorem StaW.end_ {l : SRow} {s m : Nat} {r : Int} (h : StaW l s m r) (hs : 0 < m → pl l (m - 1) < r) : IsStart l s m := ⟨h.le, h.lt, h.ch, fun hn k h1 h2 => by
  have := h.up k h1 h2
  have := hs hn
  omega⟩
theorem StaW.init {l : SRow} {s : Nat} (h : s < l.length) : StaW l s s (pl l s - ht l s) := ⟨Nat.le_refl _, h, fun j h1 h2 => absurd h1 (by omega), fun k h1 h2 => by
  obtain rfl : k = s := by omega
  exact Int.le_refl _, s, Nat.le_refl _, Nat.le_refl _, rfl⟩
theorem StaW.step {l : SRow} {s m : Nat} {r : Int} (h : StaW l s (m + 1) r) (hs : r ≤ pl l m) : StaW l s m (min r (pl l m - ht l m)) := by
  have hle := h.le
  refine ⟨by omega, h.lt, fun j h1 h2 => ?_, fun k h1 h2 => ?_, ?_⟩
  · rcases Nat.lt_or_ge m j with q | q
    · exact h.ch j (by omega) h2
    · obtain ⟨k, k1, k2, k3⟩ := h.at_
      have : j = m := by omega
      subst this
      exact ⟨k, by omega, k2, by omega⟩
  · rcases Nat.lt_or_ge m k with q | q
    · have := h.up k (by omega) h2
      omega
    · have : k = m := by omega
      subst this
      omega
  · rcases Int.le_total r (pl l m - ht l m) with q | q
    · obtain ⟨k, k1, k2, k3⟩ := h.at_
      exact ⟨k, by omega, k2, by omega⟩
    · exact ⟨m, by omega, by omega, by omega⟩
def mf__law_left : MF := fun as R _ => ∃ (l : SRow) (s : Nat), as = [.d (rowD l), .d (.int (s : Nat))] ∧ Inc l ∧ s < l.length ∧ R (.d (natD (startOf l s)))
noncomputable def endsD (l : SRow) (s : Nat) : List PyData := [.list [.int (startOf l s : Nat), .int (s : Nat)], .list [.int (s : Nat), .int (endOf l s : Nat)]]
noncomputable def endsL (l : SRow) (n : Nat) : List PyData := (List.range n).flatMap (endsD l)
theorem endsL_succ {l : SRow} {n : Nat} : endsL l (n + 1) = endsL l n ++ endsD l n := by unfold endsL; rw [List.range_succ, List.flatMap_append]; simp
theorem endsL_len {l : SRow} : ∀ {n : Nat}, (endsL l n).length = 2 * n
  | 0 => rfl
  | n + 1 => by rw [endsL_succ, List.length_append, endsL_len (n := n)]; simp [endsD]; omega
def spD2 (q : Nat × Nat) : PyData := .list [.int (q.1 : Nat), .int (q.2 : Nat)]
theorem endsL_map {l : SRow} {n : Nat} : endsL l n = ((List.range n).flatMap fun s => [(startOf l s, s), (s, endOf l s)]).map spD2 := by
  unfold endsL
  rw [List.map_flatMap]
  rfl
def mf__law_ends : MF := fun as R _ => ∃ l : SRow, as = [.d (rowD l)] ∧ Inc l ∧ l.length ≤ 1000 ∧ R (.d (.list (endsL l l.length)))
def pushD2 (s : Nat) : List PyData := [.tuple [.int (s : Nat), .str "left"], .tuple [.int (s : Nat), .str "right"]]
def pushL (n : Nat) : List PyData := (List.range n).flatMap pushD2
theorem pushL_succ {n : Nat} : pushL (n + 1) = pushL n ++ pushD2 n := by unfold pushL; rw [List.range_succ, List.flatMap_append]; simp
theorem pushL_len : ∀ {n : Nat}, (pushL n).length = 2 * n
  | 0 => rfl
  | n + 1 => by rw [pushL_succ, List.length_append, pushL_len (n := n)]; simp [pushD2]; omega
def mf__law_pushes : MF := fun as R _ => ∃ l : SRow, as = [.d (rowD l)] ∧ l.length ≤ 1000 ∧ R (.d (.list (pushL l.length)))
/-- where a push stands among all -/
def posOf (p : Nat × Bool) : Nat := 2 * p.1 + if p.2 then 1 else 0
theorem pushL_get {n : Nat} {p : Nat × Bool} : p.1 < n → (pushL n)[posOf p]? = some (pushOf p) := by
  induction n with
  | zero => intro h; omega
  | succ n ih =>
    intro h
    rw [pushL_succ]
    rcases Nat.lt_or_ge p.1 n with c | c
    · have := ih c
      rw [List.getElem?_append_left (List.getElem?_eq_some_iff.mp this).1]
      exact this
    · have : p.1 = n := by omega
      rw [List.getElem?_append_right (by rw [pushL_len]; unfold posOf; omega), pushL_len]
      obtain ⟨s, b⟩ := p
      cases this
      unfold posOf
      cases b
      · rw [show 2 * s + (if false = true then 1 else 0) - 2 * s = 0 by simp]; rfl
      · rw [show 2 * s + (if true = true then 1 else 0) - 2 * s = 1 by simp]; rfl
theorem endsL_get {l : SRow} {n : Nat} {p : Nat × Bool} : p.1 < n → (endsL l n)[posOf p]? = some (.list [.int ((spanOf l p).1 : Nat), .int ((spanOf l p).2 : Nat)]) := by
  induction n with
  | zero => intro h; omega
  | succ n ih =>
    intro h
    rw [endsL_succ]
    rcases Nat.lt_or_ge p.1 n with c | c
    · have := ih c
      rw [List.getElem?_append_left (List.getElem?_eq_some_iff.mp this).1]
      exact this
    · have : p.1 = n := by omega
      rw [List.getElem?_append_right (by rw [endsL_len]; unfold posOf; omega), endsL_len]
      obtain ⟨s, b⟩ := p
      cases this
      unfold posOf
      cases b
      · rw [show 2 * s + (if false = true then 1 else 0) - 2 * s = 0 by simp]; rfl
      · rw [show 2 * s + (if true = true then 1 else 0) - 2 * s = 1 by simp]; rfl
theorem pushL_at {n i : Nat} {d : PyData} (h : (pushL n)[i]? = some d) : ∃ p : Nat × Bool, p.1 < n ∧ posOf p = i ∧ d = pushOf p := by
  have hi := (List.getElem?_eq_some_iff.mp h).1
  rw [pushL_len] at hi
  refine ⟨(i / 2, decide (i % 2 = 1)), by show i / 2 < n; omega, ?_, ?_⟩
  · unfold posOf
    by_cases c : i % 2 = 1
    · simp only [c, decide_true, if_true]; omega
    · simp only [c, decide_false, Bool.false_eq_true, if_false]; omega
  · have h2 := pushL_get (n := n) (p := (i / 2, decide (i % 2 = 1))) (by show i / 2 < n; omega)
    have e : posOf (i / 2, decide (i % 2 = 1)) = i := by
      unfold posOf
      by_cases c : i % 2 = 1
      · simp only [c, decide_true, if_true]; omega
      · simp only [c, decide_false, Bool.false_eq_true, if_false]; omega
    rw [e, h] at h2
    exact Option.some.inj h2
theorem pos_inj {p q : Nat × Bool} (h : posOf p = posOf q) : p = q := by
  obtain ⟨a, b⟩ := p
  obtain ⟨c, d⟩ := q
  unfold posOf at h
  cases b <;> cases d <;> simp at h ⊢ <;> omega
theorem shp_pushL (n : Nat) : Shp (.list (pushL n)) 2 := shp_lst fun x hx => by
  obtain ⟨i, hi⟩ := List.mem_iff_getElem?.mp hx
  obtain ⟨p, _, _, rfl⟩ := pushL_at hi
  exact shp_push p
theorem pushL_index {n : Nat} {p : Nat × Bool} (h : p.1 < n) : ∀ m z, m < posOf p → (pushL n)[m]? = some z → PyData.eqv z (pushOf p) = false := fun m z hm hz => by
  obtain ⟨q, _, q2, rfl⟩ := pushL_at hz
  rw [push_eqv]
  exact decide_eq_false fun e => by rw [e] at q2; omega
def onCov (i : Nat) : PyData → Option PyData
  | .list [.int a, .int b] => if decide (a ≤ (i : Nat)) && decide ((i : Nat) ≤ b) then some (.int a) else none
  | _ => none
theorem cov_lc (P : List (Nat × Nat)) (i : Nat) : (P.map spD2).filterMap (onCov i) = ((P.filter fun q => decide (q.1 ≤ i) && decide (i ≤ q.2)).map (·.1)).map natD := by
  induction P with
  | nil => rfl
  | cons q P ih =>
    simp only [List.map_cons, List.filterMap_cons, List.filter_cons, spD2, onCov, Int.ofNat_le] at ih ⊢
    split
    · rename_i h
      split at h
      · cases h
      · rename_i hc
        rw [if_neg hc]; exact ih
    · rename_i h
      split at h
      · rename_i hc
        cases h
        rw [if_pos hc, List.map_cons, List.map_cons, ih]; rfl
      · cases h
theorem cov_nil {P : List (Nat × Nat)} {i : Nat} : covB P i = false ↔ (P.filter fun q => decide (q.1 ≤ i) && decide (i ≤ q.2)) = [] := by
  unfold covB
  rw [List.filter_eq_nil_iff, List.any_eq_false]
def mf__law_felled : MF := fun as R _ => ∃ (l : SRow) (ps : List (Nat × Bool)), as = [.d (rowD l), .d (.tuple (ps.map pushOf))] ∧ Inc l ∧ l.length ≤ 1000 ∧ ps.length ≤ 1000 ∧ (∀ p ∈ ps, p.1 < l.length) ∧ R (.d (.list (((List.range l.length).filter (covB (spansP l ps))).map natD)))
structure MonF (f : Nat → Nat) (n : Nat) : Prop where
  own : ∀ i, i < n → i ≤ f i
  mono : ∀ i j, i ≤ j → j < n → f i ≤ f j
theorem mon_of {l : SRow} (I : Inc l) : MonF (farE l) l.length := ⟨fun i hi => far_own I hi, fun i j h hj => by
  obtain ⟨q, h1, h2, h3, h4⟩ := far_ex I (Nat.lt_of_le_of_lt h hj)
  have := far_own I hj
  rcases Nat.lt_or_ge q.2 j with c | c
  · omega
  · have := far_ge h1 (by omega) c
    omega⟩

noncomputable def spG (l : SRow) (k : Nat) : Nat × Nat := (spN l).getD k (0, 0)
theorem spG_mem {l : SRow} {k : Nat} (h : k < (spN l).length) : spG l k ∈ spN l := by
  unfold spG
  rw [List.getD_eq_getElem?_getD, List.getElem?_eq_getElem h]
  exact List.getElem_mem h
theorem spG_of {l : SRow} {q : Nat × Nat} (h : q ∈ spN l) : ∃ k, k < (spN l).length ∧ spG l k = q := by
  obtain ⟨k, hk, e⟩ := List.getElem_of_mem h
  refine ⟨k, hk, ?_⟩
  unfold spG
  rw [List.getD_eq_getElem?_getD, List.getElem?_eq_getElem hk]
  exact e
/-- spans by number, with the fewest steps from each stone on -/
structure Fw (sp : Nat → Nat × Nat) (N n : Nat) (f fw : Nat → Nat) : Prop where
  lt : ∀ k, k < N → (sp k).1 ≤ (sp k).2 ∧ (sp k).2 < n
  fn : fw n = 0
  step : ∀ s, s < n → fw s = fw (f s + 1) + 1
  far : ∀ k, k < N → ∀ s, (sp k).1 ≤ s → s ≤ (sp k).2 → (sp k).2 ≤ f s
  fl : ∀ s, s < n → s ≤ f s ∧ f s < n
  anti : ∀ i j, i ≤ j → j ≤ n → fw j ≤ fw i
section
variable {sp : Nat → Nat × Nat} {N n : Nat} {f fw : Nat → Nat}
/-- what can come next -/
def goK (sp : Nat → Nat × Nat) (fw : Nat → Nat) (s k : Nat) : Bool := (decide ((sp k).1 ≤ s) && decide (s ≤ (sp k).2)) && decide (fw ((sp k).2 + 1) + 1 = fw s)
def chK (sp : Nat → Nat × Nat) (N : Nat) (fw : Nat → Nat) (s : Nat) : List Nat := (List.range N).filter (goK sp fw s)
theorem go_iff {s k : Nat} : goK sp fw s k = true ↔ (sp k).1 ≤ s ∧ s ≤ (sp k).2 ∧ fw ((sp k).2 + 1) + 1 = fw s := by
  unfold goK
  simp only [Bool.and_eq_true, decide_eq_true_eq, and_assoc]
theorem ch_mem {s k : Nat} : k ∈ chK sp N fw s ↔ k < N ∧ (sp k).1 ≤ s ∧ s ≤ (sp k).2 ∧ fw ((sp k).2 + 1) + 1 = fw s := by
  unfold chK
  rw [List.mem_filter, List.mem_range, go_iff]
/-- all ways on, by number of steps -/
def pth (sp : Nat → Nat × Nat) (N : Nat) (fw : Nat → Nat) : Nat → Nat → List (List Nat)
  | 0, _ => [[]]
  | t + 1, s => (chK sp N fw s).flatMap fun k => (pth sp N fw t ((sp k).2 + 1)).map (k :: ·)
def wayK (sp : Nat → Nat × Nat) (N : Nat) (fw : Nat → Nat) (s : Nat) : Nat := (pth sp N fw (fw s) s).length
theorem pwLen {α β : Type} {g : α → List β} : ∀ (xs : List α), (xs.flatMap g).length = (xs.map fun x => (g x).length).sum
  | [] => rfl
  | x :: xs => by rw [List.flatMap_cons, List.length_append, List.map_cons, List.sum_cons, pwLen xs]
theorem pwCnt {α β : Type} {p : β → Bool} {g : α → List β} : ∀ (xs : List α), (xs.flatMap g).countP p = (xs.map fun x => (g x).countP p).sum
  | [] => rfl
  | x :: xs => by rw [List.flatMap_cons, List.countP_append, List.map_cons, List.sum_cons, pwCnt xs]
theorem pwCg {α : Type} {g h : α → Nat} : ∀ {xs : List α}, (∀ x ∈ xs, g x = h x) → (xs.map g).sum = (xs.map h).sum
  | [], _ => rfl
  | x :: xs, e => by rw [List.map_cons, List.map_cons, List.sum_cons, List.sum_cons, e x (List.mem_cons_self ..), pwCg fun y hy => e y (List.mem_cons_of_mem _ hy)]
theorem pwAdd {α : Type} {g h : α → Nat} : ∀ {xs : List α}, (xs.map fun x => g x + h x).sum = (xs.map g).sum + (xs.map h).sum
  | [] => rfl
  | x :: xs => by
    simp only [List.map_cons, List.sum_cons]
    rw [pwAdd (xs := xs)]
    omega
theorem pwMul {α : Type} {g : α → Nat} {c : Nat} : ∀ {xs : List α}, (xs.map fun x => c * g x).sum = c * (xs.map g).sum
  | [] => by simp
  | x :: xs => by
    simp only [List.map_cons, List.sum_cons]
    rw [pwMul (xs := xs), Nat.mul_add]
theorem way_n : wayK sp N fw n = 1 ∨ fw n ≠ 0 := by
  by_cases h : fw n = 0
  · left; unfold wayK; rw [h]; rfl
  · exact .inr h
theorem Fw.way_end (W : Fw sp N n f fw) : wayK sp N fw n = 1 := by unfold wayK; rw [W.fn]; rfl
theorem Fw.pos (W : Fw sp N n f fw) {s : Nat} (h : s < n) : ∃ t, fw s = t + 1 := ⟨_, W.step s h⟩
theorem Fw.way_step (W : Fw sp N n f fw) {s : Nat} (h : s < n) : wayK sp N fw s = ((chK sp N fw s).map fun k => wayK sp N fw ((sp k).2 + 1)).sum := by
  obtain ⟨t, ht⟩ := W.pos h
  unfold wayK
  rw [ht]
  show ((chK sp N fw s).flatMap fun k => (pth sp N fw t ((sp k).2 + 1)).map (k :: ·)).length = _
  rw [pwLen]
  refine pwCg fun k hk => ?_
  have := (ch_mem.mp hk).2.2.2
  rw [List.length_map, show fw ((sp k).2 + 1) = t by omega]
/-- a way as a predicate -/
def Pth (sp : Nat → Nat × Nat) (N n : Nat) (fw : Nat → Nat) : Nat → List Nat → Prop
  | s, [] => s = n
  | s, k :: q => k ∈ chK sp N fw s ∧ Pth sp N n fw ((sp k).2 + 1) q
theorem Fw.mem (W : Fw sp N n f fw) : ∀ (q : List Nat) (s : Nat), s ≤ n → (q ∈ pth sp N fw (fw s) s ↔ Pth sp N n fw s q)
  | [], s, hs => by
    rcases Nat.lt_or_ge s n with c | c
    · obtain ⟨t, ht⟩ := W.pos c
      rw [ht]
      constructor
      · intro h
        obtain ⟨k, _, h2⟩ := List.mem_flatMap.mp h
        obtain ⟨_, _, e⟩ := List.mem_map.mp h2
        cases e
      · intro h
        have h : s = n := h
        omega
    · have : s = n := by omega
      subst this
      rw [W.fn]
      exact ⟨fun _ => rfl, fun _ => List.mem_singleton_self _⟩
  | k :: q, s, hs => by
    rcases Nat.lt_or_ge s n with c | c
    · obtain ⟨t, ht⟩ := W.pos c
      rw [ht]
      constructor
      · intro h
        obtain ⟨k', hk, h2⟩ := List.mem_flatMap.mp h
        obtain ⟨q', hq, e⟩ := List.mem_map.mp h2
        cases e
        have hk2 := ch_mem.mp hk
        have e1 : fw ((sp k).2 + 1) = t := by omega
        rw [← e1] at hq
        exact ⟨hk, (W.mem q _ (by have := (W.lt k hk2.1).2; omega)).mp hq⟩
      · rintro ⟨hk, hq⟩
        have hk2 := ch_mem.mp hk
        have e1 : fw ((sp k).2 + 1) = t := by omega
        refine List.mem_flatMap.mpr ⟨k, hk, List.mem_map.mpr ⟨q, ?_, rfl⟩⟩
        rw [← e1]
        exact (W.mem q _ (by have := (W.lt k hk2.1).2; omega)).mpr hq
    · have : s = n := by omega
      subst this
      rw [W.fn]
      constructor
      · intro h
        cases List.mem_singleton.mp h
      · rintro ⟨hk, _⟩
        have hk2 := ch_mem.mp hk
        rw [W.fn] at hk2
        omega
/-- what a way is like -/
theorem Fw.way (W : Fw sp N n f fw) : ∀ (q : List Nat) (s : Nat), s ≤ n → Pth sp N n fw s q → q.length = fw s ∧ (∀ k ∈ q, k < N ∧ s ≤ (sp k).2) ∧ q.Pairwise (fun a b => (sp a).2 < (sp b).2) ∧ ∀ x, s ≤ x → x < n → ∃ k ∈ q, (sp k).1 ≤ x ∧ x ≤ (sp k).2
  | [], s, hs, h => by
    have h : s = n := h
    subst h
    refine ⟨by rw [W.fn]; rfl, fun k hk => (by cases hk), List.Pairwise.nil, fun x h1 h2 => by omega⟩
  | k :: q, s, hs, ⟨hk, hq⟩ => by
    obtain ⟨k1, k2, k3, k4⟩ := ch_mem.mp hk
    have hb := W.lt k k1
    obtain ⟨i1, i2, i3, i4⟩ := W.way q _ (by omega) hq
    refine ⟨by rw [List.length_cons, i1, k4], fun x hx => ?_, List.pairwise_cons.mpr ⟨fun x hx => ?_, i3⟩, fun x h1 h2 => ?_⟩
    · rcases List.mem_cons.mp hx with rfl | hx
      · exact ⟨k1, k3⟩
      · have := i2 x hx
        exact ⟨this.1, by omega⟩
    · have := (i2 x hx).2
      omega
    · by_cases c : x ≤ (sp k).2
      · exact ⟨k, List.mem_cons_self .., by omega, c⟩
      · obtain ⟨y, hy, e⟩ := i4 x (by omega) h2
        exact ⟨y, List.mem_cons_of_mem _ hy, e⟩
theorem pwLt {α : Type} {p q : α → Bool} {a : α} : ∀ {xs : List α}, (∀ x, p x = true → q x = true) → a ∈ xs → q a = true → p a = false → xs.countP p + 1 ≤ xs.countP q
  | [], _, h, _, _ => by cases h
  | x :: xs, hpq, h, hq, hp => by
    rw [List.countP_cons, List.countP_cons]
    rcases List.mem_cons.mp h with rfl | h
    · rw [hq, hp]
      have := List.countP_mono_left (l := xs) (p := p) (q := q) fun y _ => hpq y
      simp
      omega
    · have := pwLt hpq h hq hp
      cases e : p x with
      | true => rw [hpq x e]; simp; omega
      | false => cases q x <;> simp <;> omega
/-- no fewer of them cover -/
theorem Fw.low (W : Fw sp N n f fw) {c : List Nat} (hc : ∀ k ∈ c, k < N) : ∀ (m s : Nat), n - s ≤ m → s ≤ n → (∀ x, s ≤ x → x < n → ∃ k ∈ c, (sp k).1 ≤ x ∧ x ≤ (sp k).2) → fw s ≤ c.countP fun k => decide (s ≤ (sp k).2) := by
  intro m
  induction m with
  | zero =>
    intro s h1 h2 _
    have : s = n := by omega
    subst this
    rw [W.fn]
    exact Nat.zero_le _
  | succ m ih =>
    intro s h1 h2 hx
    rcases Nat.lt_or_ge s n with q | q
    · obtain ⟨k, hk, k1, k2⟩ := hx s (Nat.le_refl _) q
      have hb := W.lt k (hc k hk)
      have h3 := ih ((sp k).2 + 1) (by omega) (by omega) fun x a b => hx x (by omega) b
      have h4 := pwLt (p := fun x => decide ((sp k).2 + 1 ≤ (sp x).2)) (q := fun x => decide (s ≤ (sp x).2)) (a := k) (xs := c) (fun x h => by simp only [decide_eq_true_eq] at h ⊢; omega) hk (by simp only [decide_eq_true_eq]; omega) (by simp only [decide_eq_false_iff_not]; omega)
      have h5 := W.step s q
      have h6 := W.far k (hc k hk) s k1 k2
      have h7 := W.anti ((sp k).2 + 1) (f s + 1) (by omega) (by have := (W.fl s q).2; omega)
      omega
    · have : s = n := by omega
      subst this
      rw [W.fn]
      exact Nat.zero_le _
theorem pwN2 {α : Type} {p q : α → Bool} {a b : α} : ∀ {xs : List α}, xs.Nodup → (∀ x, p x = true → q x = true) → a ∈ xs → b ∈ xs → a ≠ b → q a = true → q b = true → p a = false → p b = false → xs.countP p + 2 ≤ xs.countP q
  | [], _, _, h, _, _, _, _, _, _ => by cases h
  | x :: xs, nd, hpq, ha, hb, ne, qa, qb, pa, pb => by
    obtain ⟨n1, n2⟩ := List.nodup_cons.mp nd
    rw [List.countP_cons, List.countP_cons]
    rcases List.mem_cons.mp ha with rfl | ha2
    · rcases List.mem_cons.mp hb with rfl | hb2
      · exact absurd rfl ne
      · have := pwLt hpq hb2 qb pb
        rw [qa, pa]
        simp
        omega
    · rcases List.mem_cons.mp hb with rfl | hb2
      · have := pwLt hpq ha2 qa pa
        rw [qb, pb]
        simp only [if_true, Bool.false_eq_true, if_false]
        omega
      · have := pwN2 n2 hpq ha2 hb2 ne qa qb pa pb
        cases e : p x with
        | true => rw [hpq x e]; simp; omega
        | false => cases q x <;> simp <;> omega
/-- as few as can be are a way -/
theorem Fw.of_cover (W : Fw sp N n f fw) {c : List Nat} (nd : c.Nodup) (hc : ∀ k ∈ c, k < N) : ∀ (m s : Nat), n - s ≤ m → s ≤ n → (∀ x, s ≤ x → x < n → ∃ k ∈ c, (sp k).1 ≤ x ∧ x ≤ (sp k).2) → (c.countP fun k => decide (s ≤ (sp k).2)) ≤ fw s →
    ∃ q, Pth sp N n fw s q ∧ ∀ k, k ∈ q ↔ k ∈ c ∧ s ≤ (sp k).2 := by
  intro m
  induction m with
  | zero =>
    intro s h1 h2 _ _
    have : s = n := by omega
    subst this
    exact ⟨[], rfl, fun k => ⟨fun h => (by cases h), fun h => by have := (W.lt k (hc k h.1)).2; omega⟩⟩
  | succ m ih =>
    intro s h1 h2 hx hle
    rcases Nat.lt_or_ge s n with q | q
    · obtain ⟨k, hk, k1, k2⟩ := hx s (Nat.le_refl _) q
      have hb := W.lt k (hc k hk)
      have hx' : ∀ x, (sp k).2 + 1 ≤ x → x < n → ∃ k ∈ c, (sp k).1 ≤ x ∧ x ≤ (sp k).2 := fun x a b => hx x (by omega) b
      have h3 := W.low hc (n - ((sp k).2 + 1)) ((sp k).2 + 1) (Nat.le_refl _) (by omega) hx'
      have h4 := pwLt (p := fun x => decide ((sp k).2 + 1 ≤ (sp x).2)) (q := fun x => decide (s ≤ (sp x).2)) (a := k) (xs := c) (fun x h => by simp only [decide_eq_true_eq] at h ⊢; omega) hk (by simp only [decide_eq_true_eq]; omega) (by simp only [decide_eq_false_iff_not]; omega)
      have h5 := W.step s q
      have h6 := W.far k (hc k hk) s k1 k2
      have h7 := W.anti ((sp k).2 + 1) (f s + 1) (by omega) (by have := (W.fl s q).2; omega)
      obtain ⟨r, r1, r2⟩ := ih ((sp k).2 + 1) (by omega) (by omega) hx' (by omega)
      refine ⟨k :: r, ⟨ch_mem.mpr ⟨hc k hk, k1, k2, by omega⟩, r1⟩, fun x => ?_⟩
      rw [List.mem_cons, r2 x]
      constructor
      · rintro (rfl | ⟨h8, h9⟩)
        · exact ⟨hk, k2⟩
        · exact ⟨h8, by omega⟩
      · rintro ⟨h8, h9⟩
        by_cases e : x = k
        · exact .inl e
        · refine .inr ⟨h8, ?_⟩
          rcases Nat.lt_or_ge (sp x).2 ((sp k).2 + 1) with z | z
          · exfalso
            have := pwN2 (p := fun x => decide ((sp k).2 + 1 ≤ (sp x).2)) (q := fun x => decide (s ≤ (sp x).2)) (a := k) (b := x) nd (fun x h => by simp only [decide_eq_true_eq] at h ⊢; omega) hk h8 (fun z => e z.symm) (by simp only [decide_eq_true_eq]; omega) (by simp only [decide_eq_true_eq]; omega) (by simp only [decide_eq_false_iff_not]; omega) (by simp only [decide_eq_false_iff_not]; omega)
            omega
          · exact z
    · have : s = n := by omega
      subst this
      exact ⟨[], rfl, fun k => ⟨fun h => (by cases h), fun h => by have := (W.lt k (hc k h.1)).2; omega⟩⟩
end
section
variable {sp : Nat → Nat × Nat} {N n : Nat} {f fw : Nat → Nat}
theorem ch_nd {s : Nat} : (chK sp N fw s).Nodup := List.nodup_range.sublist List.filter_sublist
/-- how many ways on have a step -/
def cntK (sp : Nat → Nat × Nat) (N : Nat) (fw : Nat → Nat) (k s : Nat) : Nat := (pth sp N fw (fw s) s).countP fun q => decide (k ∈ q)
theorem pwZ {α : Type} {p : α → Bool} : ∀ {xs : List α}, (∀ x ∈ xs, p x = false) → xs.countP p = 0
  | [], _ => rfl
  | x :: xs, h => by rw [List.countP_cons, h x (List.mem_cons_self ..), pwZ fun y hy => h y (List.mem_cons_of_mem _ hy)]; rfl
theorem pwO {α : Type} {p : α → Bool} : ∀ {xs : List α}, (∀ x ∈ xs, p x = true) → xs.countP p = xs.length
  | [], _ => rfl
  | x :: xs, h => by rw [List.countP_cons, h x (List.mem_cons_self ..), pwO fun y hy => h y (List.mem_cons_of_mem _ hy)]; rfl
theorem Fw.cnt_late (W : Fw sp N n f fw) {k s : Nat} (hs : s ≤ n) (h : (sp k).2 < s) : cntK sp N fw k s = 0 := pwZ fun q hq => by
  rw [decide_eq_false_iff_not]
  intro hk
  have := (W.way q s hs ((W.mem q s hs).mp hq)).2.1 k hk
  omega
theorem pwOne {k c : Nat} : ∀ {xs : List Nat}, xs.Nodup → (xs.map fun x => if x = k then c else 0).sum = if k ∈ xs then c else 0
  | [], _ => rfl
  | x :: xs, h => by
    obtain ⟨h1, h2⟩ := List.nodup_cons.mp h
    rw [List.map_cons, List.sum_cons, pwOne h2]
    by_cases e : x = k
    · subst e
      rw [if_pos rfl, if_neg h1, if_pos (List.mem_cons_self ..)]
      rfl
    · rw [if_neg e, Nat.zero_add]
      by_cases e2 : k ∈ xs
      · rw [if_pos e2, if_pos (List.mem_cons_of_mem _ e2)]
      · rw [if_neg e2, if_neg]
        intro z
        rcases List.mem_cons.mp z with z | z
        · exact e z.symm
        · exact e2 z
theorem Fw.cnt_step (W : Fw sp N n f fw) {k s : Nat} (h : s < n) : cntK sp N fw k s = (if k ∈ chK sp N fw s then wayK sp N fw ((sp k).2 + 1) else 0) + ((chK sp N fw s).map fun x => cntK sp N fw k ((sp x).2 + 1)).sum := by
  obtain ⟨t, ht⟩ := W.pos h
  have e0 : cntK sp N fw k s = ((chK sp N fw s).map fun x => (if x = k then wayK sp N fw ((sp k).2 + 1) else 0) + cntK sp N fw k ((sp x).2 + 1)).sum := by
    show (pth sp N fw (fw s) s).countP _ = _
    rw [ht]
    show ((chK sp N fw s).flatMap fun k => (pth sp N fw t ((sp k).2 + 1)).map (k :: ·)).countP _ = _
    rw [pwCnt]
    refine pwCg fun x hx => ?_
    obtain ⟨x1, x2, x3, x4⟩ := ch_mem.mp hx
    have e1 : fw ((sp x).2 + 1) = t := by omega
    rw [List.countP_map]
    by_cases e : x = k
    · subst e
      rw [if_pos rfl, W.cnt_late (by have := (W.lt x x1).2; omega) (Nat.lt_succ_self _), Nat.add_zero]
      unfold wayK
      rw [e1]
      exact pwO fun q _ => by simp
    · rw [if_neg e, Nat.zero_add]
      unfold cntK
      rw [e1]
      refine List.countP_congr fun q _ => ?_
      simp only [Function.comp, decide_eq_true_eq, List.mem_cons]
      exact ⟨fun z => z.elim (fun z => absurd z.symm e) id, .inr⟩
  rw [e0, pwAdd, pwOne ch_nd]
/-- in how many ways a stone comes to be the next one, the first m stones looked at -/
def bfK (sp : Nat → Nat × Nat) (N : Nat) (fw : Nat → Nat) : Nat → Nat → Nat
  | 0, j => if j = 0 then 1 else 0
  | m + 1, j => bfK sp N fw m j + bfK sp N fw m m * (chK sp N fw m).countP fun k => decide ((sp k).2 + 1 = j)
theorem bf_old {j : Nat} : ∀ m, j ≤ m → bfK sp N fw m j = bfK sp N fw j j := fun m h => by
  induction h with
  | refl => rfl
  | @step m h ih =>
    show bfK sp N fw m j + _ = _
    rw [ih, pwZ fun k hk => ?_, Nat.mul_zero, Nat.add_zero]
    have h : j ≤ m := h
    have := (ch_mem.mp hk).2.2.1
    rw [decide_eq_false_iff_not]
    omega
theorem pwS0 {α : Type} : ∀ (xs : List α), (xs.map fun _ => 0).sum = 0
  | [] => rfl
  | x :: xs => by rw [List.map_cons, List.sum_cons, pwS0 xs]
theorem pwPt {h : Nat → Nat} {g : Nat} : ∀ L, g < L → ((List.range L).map fun j => if g = j then h j else 0).sum = h g
  | 0, c => absurd c (Nat.not_lt_zero _)
  | L + 1, c => by
    rw [List.range_succ, List.map_append, List.sum_append]
    rcases Nat.lt_or_ge g L with q | q
    · rw [pwPt L q]
      simp only [List.map_cons, List.map_nil, List.sum_cons, List.sum_nil]
      rw [if_neg (by omega)]
      rfl
    · have : g = L := by omega
      subst this
      have z : ∀ L, L ≤ g → ((List.range L).map fun j => if g = j then h j else 0).sum = 0 := by
        intro L
        induction L with
        | zero => exact fun _ => rfl
        | succ L ih =>
          intro hL
          rw [List.range_succ, List.map_append, List.sum_append, ih (by omega)]
          simp only [List.map_cons, List.map_nil, List.sum_cons, List.sum_nil]
          rw [if_neg (by omega)]
          rfl
      rw [z g (Nat.le_refl _)]
      simp
theorem pwDc {h g : Nat → Nat} {L : Nat} : ∀ {xs : List Nat}, (∀ x ∈ xs, g x < L) → ((List.range L).map fun j => xs.countP (fun x => decide (g x = j)) * h j).sum = (xs.map fun x => h (g x)).sum
  | [], _ => by
    rw [pwCg (h := fun _ => 0) fun x _ => by simp, pwS0]
    rfl
  | x :: xs, hx => by
    rw [List.map_cons, List.sum_cons, ← pwDc fun y hy => hx y (List.mem_cons_of_mem _ hy), ← pwPt (h := h) L (hx x (List.mem_cons_self ..)), ← pwAdd]
    refine pwCg fun j _ => ?_
    rw [List.countP_cons]
    by_cases e : g x = j
    · rw [if_pos e, decide_eq_true e, if_pos rfl, Nat.add_mul, Nat.one_mul, Nat.add_comm]
    · rw [if_neg e, decide_eq_false e, if_neg Bool.false_ne_true, Nat.add_zero, Nat.zero_add]
/-- how many ways have a step, by the ways to it and those on -/
theorem Fw.through (W : Fw sp N n f fw) (k : Nat) : ((List.range n).map fun s => if k ∈ chK sp N fw s then bfK sp N fw n s * wayK sp N fw ((sp k).2 + 1) else 0).sum = cntK sp N fw k 0 := by
  have inv : ∀ m, m ≤ n → ((List.range (n + 1)).map fun j => if m ≤ j then bfK sp N fw m j * cntK sp N fw k j else 0).sum + ((List.range m).map fun s => if k ∈ chK sp N fw s then bfK sp N fw s s * wayK sp N fw ((sp k).2 + 1) else 0).sum = cntK sp N fw k 0 := by
    intro m
    induction m with
    | zero =>
      intro _
      show ((List.range (n + 1)).map fun j => if 0 ≤ j then bfK sp N fw 0 j * cntK sp N fw k j else 0).sum + 0 = _
      rw [Nat.add_zero, pwCg (h := fun j => if 0 = j then cntK sp N fw k j else 0) fun j _ => ?_, pwPt _ (Nat.succ_pos n)]
      rw [if_pos (Nat.zero_le _)]
      show (if j = 0 then 1 else 0) * _ = _
      by_cases e : j = 0
      · rw [if_pos e, if_pos e.symm, Nat.one_mul]
      · rw [if_neg e, if_neg (fun z => e z.symm), Nat.zero_mul]
    | succ m ih =>
      intro hm
      have ih := ih (by omega)
      have hs := W.cnt_step (k := k) (s := m) (by omega)
      have hd : ((List.range (n + 1)).map fun j => (chK sp N fw m).countP (fun x => decide ((sp x).2 + 1 = j)) * cntK sp N fw k j).sum = ((chK sp N fw m).map fun x => cntK sp N fw k ((sp x).2 + 1)).sum := pwDc (g := fun x => (sp x).2 + 1) fun x hx => by
        have := (W.lt x (ch_mem.mp hx).1).2
        omega
      have e1 : ((List.range (n + 1)).map fun j => if m ≤ j then bfK sp N fw m j * cntK sp N fw k j else 0).sum = ((List.range (n + 1)).map fun j => if m + 1 ≤ j then bfK sp N fw m j * cntK sp N fw k j else 0).sum + bfK sp N fw m m * cntK sp N fw k m := by
        rw [← pwPt (h := fun j => bfK sp N fw m j * cntK sp N fw k j) (n + 1) (show m < n + 1 by omega), ← pwAdd]
        refine pwCg fun j _ => ?_
        by_cases c : m = j
        · subst c
          rw [if_pos (Nat.le_refl _), if_neg (by omega), if_pos rfl, Nat.zero_add]
        · rw [if_neg c, Nat.add_zero]
          by_cases c2 : m ≤ j
          · rw [if_pos c2, if_pos (by omega)]
          · rw [if_neg c2, if_neg (by omega)]
      have e2 : ((List.range (n + 1)).map fun j => if m + 1 ≤ j then bfK sp N fw (m + 1) j * cntK sp N fw k j else 0).sum = ((List.range (n + 1)).map fun j => if m + 1 ≤ j then bfK sp N fw m j * cntK sp N fw k j else 0).sum + bfK sp N fw m m * ((chK sp N fw m).map fun x => cntK sp N fw k ((sp x).2 + 1)).sum := by
        rw [← hd, ← pwMul, ← pwAdd]
        refine pwCg fun j _ => ?_
        by_cases c : m + 1 ≤ j
        · rw [if_pos c, if_pos c]
          show (bfK sp N fw m j + bfK sp N fw m m * _) * _ = _
          rw [Nat.add_mul, Nat.mul_assoc]
        · rw [if_neg c, if_neg c, Nat.zero_add, pwZ fun x hx => ?_, Nat.zero_mul, Nat.mul_zero]
          have := (ch_mem.mp hx).2.2.1
          rw [decide_eq_false_iff_not]
          omega
      rw [List.range_succ (n := m), List.map_append, List.sum_append]
      simp only [List.map_cons, List.map_nil, List.sum_cons, List.sum_nil]
      rw [e1, hs, Nat.mul_add] at ih
      rw [e2]
      have e3 : bfK sp N fw m m * (if k ∈ chK sp N fw m then wayK sp N fw ((sp k).2 + 1) else 0) = if k ∈ chK sp N fw m then bfK sp N fw m m * wayK sp N fw ((sp k).2 + 1) else 0 := by split <;> simp
      rw [e3] at ih
      omega
  have h := inv n (Nat.le_refl _)
  have z : ((List.range (n + 1)).map fun j => if n ≤ j then bfK sp N fw n j * cntK sp N fw k j else 0).sum = 0 := by
    rw [pwCg (h := fun _ => 0) fun j hj => ?_]
    · exact pwS0 _
    · have hj := List.mem_range.mp hj
      by_cases c : n ≤ j
      · have : j = n := by omega
        subst this
        rw [if_pos c]
        have : cntK sp N fw k j = 0 := by
          unfold cntK
          rw [W.fn]
          rfl
        rw [this, Nat.mul_zero]
      · rw [if_neg c]
  rw [z, Nat.zero_add] at h
  rw [← h]
  refine pwCg fun s hs => ?_
  rw [bf_old n (Nat.le_of_lt (List.mem_range.mp hs))]
/-! ### the ways are the smallest covers -/
theorem pwNf {α β : Type} {g : α → List β} : ∀ {xs : List α}, xs.Nodup → (∀ x ∈ xs, (g x).Nodup) → (∀ x ∈ xs, ∀ y ∈ xs, x ≠ y → ∀ z, z ∈ g x → z ∉ g y) → (xs.flatMap g).Nodup
  | [], _, _, _ => List.nodup_nil
  | x :: xs, h, h2, h3 => by
    obtain ⟨n1, n2⟩ := List.nodup_cons.mp h
    rw [List.flatMap_cons]
    refine List.nodup_append.mpr ⟨h2 x (List.mem_cons_self ..), pwNf n2 (fun y hy => h2 y (List.mem_cons_of_mem _ hy)) fun y hy z hz => h3 y (List.mem_cons_of_mem _ hy) z (List.mem_cons_of_mem _ hz), fun a ha b hb e => ?_⟩
    subst e
    obtain ⟨y, hy, hb⟩ := List.mem_flatMap.mp hb
    exact h3 x (List.mem_cons_self ..) y (List.mem_cons_of_mem _ hy) (fun e => n1 (e ▸ hy)) a ha hb
theorem pwNm {α β : Type} {g : α → β} : ∀ {xs : List α}, xs.Nodup → (∀ x ∈ xs, ∀ y ∈ xs, g x = g y → x = y) → (xs.map g).Nodup
  | [], _, _ => List.nodup_nil
  | x :: xs, h, h2 => by
    obtain ⟨n1, n2⟩ := List.nodup_cons.mp h
    rw [List.map_cons]
    refine List.nodup_cons.mpr ⟨fun hm => ?_, pwNm n2 fun y hy z hz => h2 y (List.mem_cons_of_mem _ hy) z (List.mem_cons_of_mem _ hz)⟩
    obtain ⟨y, hy, e⟩ := List.mem_map.mp hm
    have := h2 y (List.mem_cons_of_mem _ hy) x (List.mem_cons_self ..) e
    exact n1 (this ▸ hy)
theorem pth_nd : ∀ t s, (pth sp N fw t s).Nodup
  | 0, s => by show [[]].Nodup; simp
  | t + 1, s => pwNf ch_nd (fun k _ => pwNm (pth_nd t _) fun x _ y _ e => (List.cons.inj e).2) fun x _ y _ ne z hz hz2 => by
    obtain ⟨a, _, rfl⟩ := List.mem_map.mp hz
    obtain ⟨b, _, e⟩ := List.mem_map.mp hz2
    exact ne (List.cons.inj e).1.symm
/-- all smallest covers, each once -/
structure AllC (sp : Nat → Nat × Nat) (N n m : Nat) (CL : List (List Nat)) : Prop where
  nd : CL.Nodup
  mem : ∀ c, c ∈ CL ↔ c.Pairwise (· < ·) ∧ (∀ k ∈ c, k < N) ∧ c.length = m ∧ ∀ x, x < n → ∃ k ∈ c, (sp k).1 ≤ x ∧ x ≤ (sp k).2
theorem Fw.all (W : Fw sp N n f fw) {CL : List (List Nat)} (h : AllC sp N n (fw 0) CL) : ((pth sp N fw (fw 0) 0).map srtN).Perm CL := by
  have key : ∀ q ∈ pth sp N fw (fw 0) 0, q.length = fw 0 ∧ (∀ k ∈ q, k < N ∧ 0 ≤ (sp k).2) ∧ q.Pairwise (fun a b => (sp a).2 < (sp b).2) ∧ ∀ x, 0 ≤ x → x < n → ∃ k ∈ q, (sp k).1 ≤ x ∧ x ≤ (sp k).2 := fun q hq => W.way q 0 (Nat.zero_le _) ((W.mem q 0 (Nat.zero_le _)).mp hq)
  refine (List.perm_ext_iff_of_nodup (pwNm (pth_nd _ _) fun q hq r hr e => ?_) h.nd).mpr fun c => ?_
  · have hp : q.Perm r := srt_perm.symm.trans (e ▸ srt_perm)
    exact List.Perm.eq_of_pairwise (fun a b _ _ h1 h2 => by omega) (key q hq).2.2.1 (key r hr).2.2.1 hp
  · rw [h.mem c, List.mem_map]
    constructor
    · rintro ⟨q, hq, rfl⟩
      obtain ⟨h1, h2, h3, h4⟩ := key q hq
      have hnd : q.Nodup := h3.imp fun hab e => by subst e; omega
      refine ⟨?_, fun k hk => (h2 k (srt_mem.mp hk)).1, by rw [srt_perm.length_eq]; exact h1, fun x hx => ?_⟩
      · exact (List.pairwise_and_iff.mpr ⟨srt_asc, (srt_perm.nodup_iff).mpr hnd⟩).imp fun h => Nat.lt_of_le_of_ne h.1 h.2
      · obtain ⟨k, hk, e⟩ := h4 x (Nat.zero_le _) hx
        exact ⟨k, srt_mem.mpr hk, e⟩
    · rintro ⟨h1, h2, h3, h4⟩
      have hnd : c.Nodup := h1.imp fun h => Nat.ne_of_lt h
      obtain ⟨q, q1, q2⟩ := W.of_cover hnd h2 n 0 (by omega) (Nat.zero_le _) (fun x _ hx => h4 x hx) (by rw [← h3]; exact List.countP_le_length)
      have hq := (W.mem q 0 (Nat.zero_le _)).mpr q1
      have hqn : q.Nodup := (key q hq).2.2.1.imp fun hab e => by subst e; omega
      have hp : q.Perm c := (List.perm_ext_iff_of_nodup hqn hnd).mpr fun k => by rw [q2 k]; exact ⟨fun h => h.1, fun h => ⟨h, Nat.zero_le _⟩⟩
      refine ⟨q, hq, ?_⟩
      exact List.Perm.eq_of_pairwise (fun a b _ _ h1 h2 => Nat.le_antisymm h1 h2) srt_asc (h1.imp fun h => Nat.le_of_lt h) (srt_perm.trans hp)
theorem Fw.all_cnt (W : Fw sp N n f fw) {CL : List (List Nat)} (h : AllC sp N n (fw 0) CL) : CL.length = wayK sp N fw 0 ∧ ∀ k, CL.countP (fun c => decide (k ∈ c)) = cntK sp N fw k 0 := by
  have hp := W.all h
  refine ⟨by rw [← hp.length_eq, List.length_map]; rfl, fun k => ?_⟩
  rw [← hp.countP_eq, List.countP_map]
  refine List.countP_congr fun q _ => ?_
  simp only [Function.comp, decide_eq_true_eq]
  exact srt_mem
end
noncomputable def fwl (l : SRow) (i : Nat) : Nat := gr (farE l) l.length (l.length - i) i
theorem spN_at {l : SRow} : ∀ n : Nat, (List.range n).flatMap (fun s => [(startOf l s, s), (s, endOf l s)]) = (List.range (2 * n)).map fun k => if k % 2 = 0 then (startOf l (k / 2), k / 2) else (k / 2, endOf l (k / 2))
  | 0 => rfl
  | n + 1 => by
    rw [List.range_succ, List.flatMap_append, spN_at n, show 2 * (n + 1) = 2 * n + 1 + 1 by omega, List.range_succ, List.range_succ, List.map_append, List.map_append]
    simp only [List.flatMap_cons, List.flatMap_nil, List.append_nil, List.map_cons, List.map_nil, List.append_assoc, List.singleton_append]
    rw [if_pos (by omega), if_neg (by omega), show 2 * n / 2 = n by omega, show (2 * n + 1) / 2 = n by omega]
theorem spN_len {l : SRow} : (spN l).length = 2 * l.length := by unfold spN; rw [spN_at, List.length_map, List.length_range]
theorem spG_at {l : SRow} {k : Nat} (h : k < 2 * l.length) : spG l k = if k % 2 = 0 then (startOf l (k / 2), k / 2) else (k / 2, endOf l (k / 2)) := by
  unfold spG spN
  rw [spN_at, List.getD_eq_getElem?_getD, List.getElem?_map, List.getElem?_range h]
  rfl
/-- a push by its number -/
def puD (k : Nat) : PyData := .tuple [.int ((k / 2 : Nat) : Int), .str (if k % 2 = 0 then "left" else "right")]
noncomputable def sideK (l : SRow) (k : Nat) : PyData := .tuple [puD k, .tuple [.int ((spG l k).1 : Nat), .int ((spG l k).2 : Nat)]]
theorem sides_at {l : SRow} : sidesL l l.length = (List.range (2 * l.length)).map (sideK l) := by
  have key : ∀ n, n ≤ l.length → sidesL l n = (List.range (2 * n)).map (sideK l) := by
    intro n
    induction n with
    | zero => exact fun _ => rfl
    | succ n ih =>
      intro hn
      rw [sides_succ, ih (by omega), show 2 * (n + 1) = 2 * n + 1 + 1 by omega, List.range_succ, List.range_succ, List.map_append, List.map_append]
      unfold sidesD
      simp only [List.map_cons, List.map_nil, List.append_assoc, List.singleton_append]
      unfold sideK
      rw [spG_at (show 2 * n < 2 * l.length by omega), spG_at (show 2 * n + 1 < 2 * l.length by omega), if_pos (by omega), if_neg (by omega)]
      unfold puD
      rw [if_pos (show 2 * n % 2 = 0 by omega), if_neg (show ¬ (2 * n + 1) % 2 = 0 by omega), show 2 * n / 2 = n by omega, show (2 * n + 1) / 2 = n by omega]
  exact key _ (Nat.le_refl _)
theorem pu_at : ∀ n : Nat, pushL n = (List.range (2 * n)).map puD
  | 0 => rfl
  | n + 1 => by
    rw [pushL_succ, pu_at n, show 2 * (n + 1) = 2 * n + 1 + 1 by omega, List.range_succ, List.range_succ, List.map_append, List.map_append]
    simp only [List.map_cons, List.map_nil, List.append_assoc, List.singleton_append]
    unfold puD pushD2
    rw [if_pos (show 2 * n % 2 = 0 by omega), if_neg (show ¬ (2 * n + 1) % 2 = 0 by omega), show 2 * n / 2 = n by omega, show (2 * n + 1) / 2 = n by omega]
theorem fw_anti {l : SRow} (I : Inc l) {i j : Nat} (h : i ≤ j) : fwl l j ≤ fwl l i := gr_le (fun i hi => far_own I hi) (fun i hi => far_own I hi) (mon_of I).mono _ _ i j h (Nat.le_refl _) (Nat.le_refl _)
theorem fw_step {l : SRow} (I : Inc l) {i : Nat} (h : i < l.length) : fwl l i = fwl l (farE l i + 1) + 1 := by
  have h1 := far_own I h
  have h2 : gr (farE l) l.length (l.length - (farE l i + 1)) (farE l i + 1) = gr (farE l) l.length (l.length - i - 1) (farE l i + 1) := by
    refine Nat.le_antisymm ?_ ?_
    · exact gr_le (fun i hi => far_own I hi) (fun i hi => far_own I hi) (mon_of I).mono _ _ _ _ (Nat.le_refl _) (by omega) (by omega)
    · exact gr_le (fun i hi => far_own I hi) (fun i hi => far_own I hi) (mon_of I).mono _ _ _ _ (Nat.le_refl _) (by omega) (by omega)
  unfold fwl
  rw [h2, show l.length - i = (l.length - i - 1) + 1 by omega]
  conv => lhs; unfold gr
  rw [if_pos h, show l.length - i - 1 + 1 - 1 = l.length - i - 1 by omega, Nat.add_comm]
theorem fw_of {l : SRow} (I : Inc l) : Fw (spG l) (2 * l.length) l.length (farE l) (fwl l) := ⟨fun k hk => sp_bd I (spG_mem (by rw [spN_len]; exact hk)), by unfold fwl; rw [Nat.sub_self]; rfl, fun s hs => fw_step I hs, fun k hk s h1 h2 => far_ge (spG_mem (by rw [spN_len]; exact hk)) h1 h2, fun s hs => ⟨far_own I hs, far_lt I hs⟩, fun i j h _ => fw_anti I h⟩
theorem fw_le {l : SRow} (I : Inc l) (i : Nat) : fwl l i ≤ l.length - i := by
  have key : ∀ m i, l.length - i ≤ m → fwl l i ≤ l.length - i := by
    intro m
    induction m with
    | zero =>
      intro i hi
      unfold fwl
      rw [show l.length - i = 0 by omega]
      exact Nat.le_refl _
    | succ m ih =>
      intro i hi
      rcases Nat.lt_or_ge i l.length with c | c
      · have h1 := far_own I c
        rw [fw_step I c]
        have := ih (farE l i + 1) (by omega)
        omega
      · unfold fwl
        rw [show l.length - i = 0 by omega]
        exact Nat.le_refl _
  exact key _ i (Nat.le_refl _)
noncomputable def wyl (l : SRow) (s : Nat) : Nat := wayK (spG l) (2 * l.length) (fwl l) s
noncomputable def chl (l : SRow) (s : Nat) : List Nat := chK (spG l) (2 * l.length) (fwl l) s
noncomputable def bfl (l : SRow) (m s : Nat) : Nat := bfK (spG l) (2 * l.length) (fwl l) m s
noncomputable def cnl (l : SRow) (k : Nat) : Nat := cntK (spG l) (2 * l.length) (fwl l) k 0
/-- the choices as they are told -/
noncomputable def chD (l : SRow) (k : Nat) : PyData := .tuple [puD k, .int (((spG l k).2 + 1 : Nat) : Int)]
noncomputable def covF (l : SRow) (fs ws : List Nat) : List (Str × PyData) := [("many", .int (l.length : Nat)), ("spans", .list (sidesL l l.length)), ("fewest", .list (fs.map natD)), ("ways", .list (ws.map natD))]
noncomputable def covD (l : SRow) (fs ws : List Nat) : PyData := objD "Covers" (covF l fs ws)
theorem fld_many {l : SRow} {fs ws : List Nat} {R : DV → Prop} : oFld "many" (.d (covD l fs ws)) R = R (.d (.int (l.length : Nat))) := rfl
theorem fld_spans {l : SRow} {fs ws : List Nat} {R : DV → Prop} : oFld "spans" (.d (covD l fs ws)) R = R (.d (.list (sidesL l l.length))) := rfl
theorem fld_fewest {l : SRow} {fs ws : List Nat} {R : DV → Prop} : oFld "fewest" (.d (covD l fs ws)) R = R (.d (.list (fs.map natD))) := rfl
theorem fld_ways {l : SRow} {fs ws : List Nat} {R : DV → Prop} : oFld "ways" (.d (covD l fs ws)) R = R (.d (.list (ws.map natD))) := rfl
/-- the full tables -/
noncomputable def fwT (l : SRow) : List Nat := (List.range (l.length + 1)).map (fwl l)
noncomputable def wyT (l : SRow) : List Nat := (List.range (l.length + 1)).map (wyl l)
theorem fwT_at {l : SRow} {i : Nat} (h : i ≤ l.length) : (fwT l)[i]? = some (fwl l i) := by
  unfold fwT
  rw [List.getElem?_map, List.getElem?_range (by omega)]
  rfl
theorem wyT_at {l : SRow} {i : Nat} (h : i ≤ l.length) : (wyT l)[i]? = some (wyl l i) := by
  unfold wyT
  rw [List.getElem?_map, List.getElem?_range (by omega)]
  rfl
noncomputable def covL (l : SRow) : PyData := covD l (fwT l) (wyT l)
theorem tab_of {n : Nat} {g : Nat → Nat} {xs : List Nat} (hl : xs.length = n + 1) (h : ∀ i, i ≤ n → xs[i]? = some (g i)) : xs = (List.range (n + 1)).map g := by
  refine List.ext_getElem? fun i => ?_
  rcases Nat.lt_or_ge n i with c | c
  · rw [List.getElem?_eq_none (by omega), List.getElem?_eq_none (by simp; omega)]
  · rw [h i c, List.getElem?_map, List.getElem?_range (by omega)]
    rfl
theorem natAt {ks : List Nat} {i k : Nat} (h : ks[i]? = some k) : atI (ks.map natD) ((i : Nat) : Int) = some (.int (k : Nat)) := atI_map (f := natD) i rfl h
theorem rep_nat {k v : Nat} : (List.replicate k [PyData.int (v : Nat)]).flatten = (List.replicate k v).map natD := by
  rw [List.map_replicate]
  induction k with
  | zero => rfl
  | succ k ih => rw [List.replicate_succ, List.flatten_cons, ih, List.replicate_succ]; rfl
theorem cov_mt {l : SRow} {fs ws : List Nat} {m : Str} (h : getF m (kvD (covF l fs ws)) = none) : isMt "Covers" m (.d (covD l fs ws)) := ⟨rfl, h⟩
theorem set_at {xs : List Nat} {i v j : Nat} (h : i < xs.length) : (xs.set i v)[j]? = if j = i then some v else xs[j]? := by
  by_cases e : j = i
  · subst e
    rw [if_pos rfl, List.getElem?_set_self h]
  · rw [if_neg e, List.getElem?_set_ne (fun z => e z.symm)]
/-- a table over the pushes -/
def keyP (k : Nat) : List Key := [.inl ((k / 2 : Nat) : Int), .inr (if k % 2 = 0 then "left" else "right")]
theorem keyP_inj {j k : Nat} (h : keyP j = keyP k) : j = k := by
  unfold keyP at h
  obtain ⟨h1, h2⟩ := List.cons.inj h
  obtain ⟨h2, _⟩ := List.cons.inj h2
  have h1 : ((j / 2 : Nat) : Int) = ((k / 2 : Nat) : Int) := by injection h1
  have h2 := Sum.inr.inj h2
  have n : ("left" : Str) ≠ "right" := by decide +kernel
  have h3 : j % 2 = k % 2 := by
    by_cases c : j % 2 = 0
    · by_cases d : k % 2 = 0
      · omega
      · rw [if_pos c, if_neg d] at h2; exact absurd h2 n
    · by_cases d : k % 2 = 0
      · rw [if_neg c, if_pos d] at h2; exact absurd h2.symm n
      · omega
  omega
def tabP (N : Nat) (g : Nat → Nat) : List (List Key × PyData) := (List.range N).map fun k => (keyP k, .int ((g k : Nat) : Int))
theorem tabP_succ {N : Nat} {g : Nat → Nat} : tabP (N + 1) g = tabP N g ++ [(keyP N, .int ((g N : Nat) : Int))] := by
  unfold tabP
  rw [List.range_succ, List.map_append]
  rfl
theorem tabP_len {N : Nat} {g : Nat → Nat} : (tabP N g).length = N := by unfold tabP; simp
theorem lk_none {N k : Nat} {g : Nat → Nat} (h : N ≤ k) : lkT (tabP N g) (keyP k) = none := by
  have key : ∀ (xs : List Nat), (∀ x ∈ xs, x ≠ k) → lkT (xs.map fun k => (keyP k, PyData.int ((g k : Nat) : Int))) (keyP k) = none := by
    intro xs
    induction xs with
    | nil => exact fun _ => rfl
    | cons x xs ih =>
      intro hx
      rw [List.map_cons, lkT, if_neg fun z => hx x (List.mem_cons_self ..) (keyP_inj z)]
      exact ih fun y hy => hx y (List.mem_cons_of_mem _ hy)
  exact key _ fun x hx => by have := List.mem_range.mp hx; omega
theorem lk_some {N k : Nat} {g : Nat → Nat} (h : k < N) : lkT (tabP N g) (keyP k) = some (.int ((g k : Nat) : Int)) := by
  have key : ∀ (xs : List Nat), k ∈ xs → lkT (xs.map fun k => (keyP k, PyData.int ((g k : Nat) : Int))) (keyP k) = some (.int ((g k : Nat) : Int)) := by
    intro xs
    induction xs with
    | nil => exact fun h => by cases h
    | cons x xs ih =>
      intro hx
      rw [List.map_cons, lkT]
      by_cases e : x = k
      · subst e
        rw [if_pos rfl]
      · rw [if_neg fun z => e (keyP_inj z)]
        rcases List.mem_cons.mp hx with z | z
        · exact absurd z.symm e
        · exact ih z
  exact key _ (List.mem_range.mpr h)
theorem put_new {k : Nat} {g : Nat → Nat} : putT (tabP k g) (keyP k) (.int ((g k : Nat) : Int)) = tabP (k + 1) g := by
  unfold putT
  rw [lk_none (Nat.le_refl _), if_neg (by simp), tabP_succ]
theorem put_old {N k v : Nat} {g : Nat → Nat} (h : k < N) : putT (tabP N g) (keyP k) (.int ((v : Nat) : Int)) = tabP N fun j => if j = k then v else g j := by
  unfold putT
  rw [lk_some h, if_pos (by simp)]
  unfold tabP
  rw [List.map_map]
  refine List.map_congr_left fun j _ => ?_
  simp only [Function.comp]
  by_cases e : j = k
  · subst e
    rw [if_pos rfl, if_pos rfl]
  · rw [if_neg fun z => e (keyP_inj z), if_neg e]
/-- all ascending lists below n -/
def subsN : Nat → List (List Nat)
  | 0 => [[]]
  | n + 1 => subsN n ++ (subsN n).map (· ++ [n])
theorem subs_len : ∀ n, (subsN n).length = 2 ^ n
  | 0 => rfl
  | n + 1 => by rw [subsN, List.length_append, List.length_map, subs_len n, Nat.pow_succ]; omega
theorem subs_mem : ∀ (n : Nat) (c : List Nat), c.Pairwise (· < ·) → (∀ x ∈ c, x < n) → c ∈ subsN n
  | 0, c, _, h => by
    cases c with
    | nil => exact List.mem_singleton_self _
    | cons x c => exact absurd (h x (List.mem_cons_self ..)) (Nat.not_lt_zero _)
  | n + 1, c, hp, h => by
    rw [subsN, List.mem_append]
    rcases List.eq_nil_or_concat c with rfl | ⟨d, y, rfl⟩
    · exact .inl (subs_mem n [] List.Pairwise.nil fun x hx => by cases hx)
    · rw [List.concat_eq_append] at hp h ⊢
      obtain ⟨p1, _, p3⟩ := List.pairwise_append.mp hp
      have hy := h y (List.mem_append_right _ (List.mem_singleton_self _))
      have hd : ∀ x ∈ d, x < y := fun x hx => p3 x hx y (List.mem_singleton_self _)
      by_cases e : y = n
      · subst e
        exact .inr (List.mem_map.mpr ⟨d, subs_mem y d p1 hd, rfl⟩)
      · refine .inl (subs_mem n _ hp fun x hx => ?_)
        rcases List.mem_append.mp hx with hx | hx
        · have := hd x hx; omega
        · rw [List.mem_singleton.mp hx]; omega
theorem Fw.way_bd {sp : Nat → Nat × Nat} {N n : Nat} {f fw : Nat → Nat} (W : Fw sp N n f fw) : wayK sp N fw 0 ≤ 2 ^ N := by
  have key : ∀ q ∈ pth sp N fw (fw 0) 0, q.length = fw 0 ∧ (∀ k ∈ q, k < N ∧ 0 ≤ (sp k).2) ∧ q.Pairwise (fun a b => (sp a).2 < (sp b).2) ∧ ∀ x, 0 ≤ x → x < n → ∃ k ∈ q, (sp k).1 ≤ x ∧ x ≤ (sp k).2 := fun q hq => W.way q 0 (Nat.zero_le _) ((W.mem q 0 (Nat.zero_le _)).mp hq)
  have nd : ((pth sp N fw (fw 0) 0).map srtN).Nodup := pwNm (pth_nd _ _) fun q hq r hr e => List.Perm.eq_of_pairwise (fun a b _ _ h1 h2 => by omega) (key q hq).2.2.1 (key r hr).2.2.1 (srt_perm.symm.trans (e ▸ srt_perm))
  have h := nodup_sub nd (L := subsN N) fun c hc => by
    obtain ⟨q, hq, rfl⟩ := List.mem_map.mp hc
    obtain ⟨_, h2, h3, _⟩ := key q hq
    have hnd : q.Nodup := h3.imp fun hab e => by subst e; omega
    refine subs_mem N _ ((List.pairwise_and_iff.mpr ⟨srt_asc, (srt_perm.nodup_iff).mpr hnd⟩).imp fun h => Nat.lt_of_le_of_ne h.1 h.2) fun x hx => (h2 x (srt_mem.mp hx)).1
  rw [List.length_map, subs_len] at h
  exact h
theorem mem_sum {α : Type} {g : α → Nat} : ∀ {xs : List α} {x : α}, x ∈ xs → g x ≤ (xs.map g).sum
  | [], _, h => by cases h
  | y :: xs, x, h => by
    rw [List.map_cons, List.sum_cons]
    rcases List.mem_cons.mp h with rfl | h
    · omega
    · have := mem_sum (g := g) h
      omega
/-- one of two factors is small -/
theorem bw_bd {l : SRow} (I : Inc l) (hn : l.length ≤ 40) {s k : Nat} (hs : s < l.length) (hk : k ∈ chl l s) : CMul ((bfl l l.length s : Nat) : Int) ((wyl l ((spG l k).2 + 1) : Nat) : Int) := by
  have W := fw_of I
  have h1 := W.through k
  have h2 := mem_sum (g := fun s => if k ∈ chl l s then bfl l l.length s * wyl l ((spG l k).2 + 1) else 0) (List.mem_range.mpr hs)
  have h1 : ((List.range l.length).map fun s => if k ∈ chl l s then bfl l l.length s * wyl l ((spG l k).2 + 1) else 0).sum = cnl l k := h1
  rw [h1] at h2
  simp only [if_pos hk] at h2
  have h3 : cnl l k ≤ wyl l 0 := List.countP_le_length
  have h4 : wyl l 0 ≤ 2 ^ (2 * l.length) := W.way_bd
  have h5 : 2 ^ (2 * l.length) ≤ 2 ^ 80 := Nat.pow_le_pow_right (by decide) (by omega)
  unfold CMul
  rcases Nat.lt_or_ge (bfl l l.length s) (2 ^ 64) with c | c
  · left; omega
  · right
    rcases Nat.lt_or_ge (wyl l ((spG l k).2 + 1)) (2 ^ 64) with d | d
    · omega
    · exfalso
      have := Nat.mul_le_mul c d
      rw [← Nat.pow_add] at this
      have h6 : (2 : Nat) ^ 80 < 2 ^ (64 + 64) := Nat.pow_lt_pow_right (by decide) (by decide)
      omega
theorem pu_alike (j k : Nat) : PySem.W.alike (puD j) (puD k) = true := by simp [puD, PySem.W.alike, PySem.W.alikeAll]
theorem pu_eqv {j k : Nat} : PyData.eqv (puD j) (puD k) = decide (j = k) := by
  rw [Bool.eq_iff_iff, decide_eq_true_eq]
  unfold puD
  have n1 : ("left" : Str) ≠ "right" := by decide +kernel
  have n2 : ("right" : Str) ≠ "left" := by decide +kernel
  simp only [PyData.eqv, PyData.eqvAll, Bool.and_true, Bool.and_eq_true, beq_iff_eq]
  constructor
  · rintro ⟨h1, h2⟩
    by_cases c : j % 2 = 0 <;> by_cases d : k % 2 = 0
    · omega
    · rw [if_pos c, if_neg d] at h2; exact absurd h2 n1
    · rw [if_neg c, if_pos d] at h2; exact absurd h2 n2
    · omega
  · rintro rfl; exact ⟨rfl, rfl⟩
theorem pu_lt {j k : Nat} (h : j ≤ k) : PySem.W.dataLt (puD k) (puD j) = false := by
  unfold puD
  rw [PySem.W.dataLt_pair (by simp [PySem.W.alike]) (by simp [PySem.W.alike])]
  by_cases e : k / 2 = j / 2
  · rw [e, if_pos (by simp [PyData.eqv])]
    by_cases c : j % 2 = 0 <;> by_cases d : k % 2 = 0
    · rw [if_pos c, if_pos d]; decide +kernel
    · rw [if_pos c, if_neg d]; decide +kernel
    · exfalso; omega
    · rw [if_neg c, if_neg d]; decide +kernel
  · rw [if_neg (by simp only [PyData.eqv, beq_iff_eq]; omega), PySem.W.dataLt_int, decide_eq_false_iff_not]
    omega
theorem pairs_sorted {N : Nat} {g : Nat → Nat} : sortX ((List.range N).map fun k => .tuple [puD k, .int ((g k : Nat) : Int)]) = (List.range N).map fun k => .tuple [puD k, .int ((g k : Nat) : Int)] := by
  unfold sortX
  refine List.mergeSort_of_pairwise (List.pairwise_map.mpr (List.pairwise_lt_range.imp fun {j k} h => ?_))
  show (!PySem.W.dataLt (encX _) (encX _)) = true
  unfold encX
  rw [PySem.W.dataLt_pair (pu_alike _ _) (by simp [PySem.W.alike]), pu_eqv, if_neg (by rw [decide_eq_true_eq]; omega), pu_lt (Nat.le_of_lt h)]
  rfl
theorem pairs_ok {N : Nat} {g : Nat → Nat} : SrtOk ((List.range N).map fun k => .tuple [puD k, .int ((g k : Nat) : Int)]) := by
  refine ⟨fun d hd => ?_, fun d hd e he => ?_, fun d hd => ?_, fun d hd => ?_⟩
  · obtain ⟨k, _, rfl⟩ := List.mem_map.mp hd
    exact ⟨_, _, rfl⟩
  · obtain ⟨k, _, rfl⟩ := List.mem_map.mp hd
    obtain ⟨j, _, rfl⟩ := List.mem_map.mp he
    simp [puD, PySem.W.alike, PySem.W.alikeAll]
  · obtain ⟨k, _, rfl⟩ := List.mem_map.mp hd
    simp [puD, PyData.hasDict, PyData.hasDictAll]
  · obtain ⟨k, _, rfl⟩ := List.mem_map.mp hd
    simp [puD, PyData.depth, PyData.depthAll]
theorem items_tab {N : Nat} {g : Nat → Nat} : itemsT (tabP N g) = (List.range N).map fun k => .tuple [puD k, .int ((g k : Nat) : Int)] := by
  unfold itemsT tabP
  rw [List.map_map]
  rfl
theorem shaped_pu {k : Nat} : SeqAt.shaped (puD k) = true := by
  unfold puD
  by_cases c : k % 2 = 0
  · rw [if_pos c]; simp [SeqAt.shaped, PyData.canLay0, PyData.canLayAll0, PyData.depth, PyData.depthAll]; decide +kernel
  · rw [if_neg c]; simp [SeqAt.shaped, PyData.canLay0, PyData.canLayAll0, PyData.depth, PyData.depthAll]; decide +kernel
theorem shaped_pus (q : List Nat) : SeqAt.shaped (.list (q.map puD)) = true := by
  have h1 : ∀ q : List Nat, PyData.canLayAll0 (q.map puD) = true ∧ PyData.depthAll (q.map puD) ≤ 2 := fun q => by
    induction q with
    | nil => simp [PyData.canLayAll0, PyData.depthAll]
    | cons k q ih =>
      have hk := SeqAt.canLay_of_shaped (shaped_pu (k := k))
      rw [List.map_cons, PyData.canLayAll0, PyData.depthAll, hk, ih.1]
      refine ⟨rfl, ?_⟩
      have : (puD k).depth ≤ 1 := by simp [puD, PyData.depth, PyData.depthAll]
      omega
  obtain ⟨a, b⟩ := h1 q
  unfold SeqAt.shaped
  rw [Bool.and_eq_true, decide_eq_true_eq]
  refine ⟨?_, ?_⟩
  · rw [PyData.canLay0]; exact a
  · rw [PyData.depth]; omega
theorem any_pu {q : List Nat} {i : Nat} : ((q.map puD).any fun z => z.eqv (puD i)) = decide (i ∈ q) := by
  rw [List.any_map, Bool.eq_iff_iff, List.any_eq_true, decide_eq_true_eq]
  constructor
  · rintro ⟨k, hk, e⟩
    rw [Function.comp, pu_eqv, decide_eq_true_eq] at e
    exact e ▸ hk
  · intro h
    exact ⟨i, h, by rw [Function.comp, pu_eqv, decide_eq_true rfl]⟩
theorem flat_at {g : Nat → List (List Nat)} : ∀ {xs : List Nat} {j k i : Nat}, xs[j]? = some k → i < (g k).length → (xs.flatMap g)[((xs.take j).map fun x => (g x).length).sum + i]? = (g k)[i]?
  | [], j, k, i, h, _ => by simp at h
  | x :: xs, 0, k, i, h, hi => by
    have h : x = k := Option.some.inj h
    subst h
    rw [List.take_zero, List.map_nil, List.sum_nil, Nat.zero_add, List.flatMap_cons, List.getElem?_append_left hi]
  | x :: xs, j + 1, k, i, h, hi => by
    rw [List.take_succ_cons, List.map_cons, List.sum_cons, List.flatMap_cons, List.getElem?_append_right (by omega), show (g x).length + ((xs.take j).map fun x => (g x).length).sum + i - (g x).length = ((xs.take j).map fun x => (g x).length).sum + i by omega]
    exact flat_at (by simpa using h) hi
/-- what ways stand ahead of the j-th choice -/
noncomputable def ahead (l : SRow) (s j : Nat) : Nat := (((chl l s).take j).map fun k => wyl l ((spG l k).2 + 1)).sum
noncomputable def pathL (l : SRow) (s : Nat) : List (List Nat) := pth (spG l) (2 * l.length) (fwl l) (fwl l s) s
theorem path_len {l : SRow} {s : Nat} : (pathL l s).length = wyl l s := rfl
theorem ahead_succ {l : SRow} {s j k : Nat} (h : (chl l s)[j]? = some k) : ahead l s (j + 1) = ahead l s j + wyl l ((spG l k).2 + 1) := by
  unfold ahead
  rw [List.take_add_one, h, List.map_append, List.sum_append]
  simp
theorem ahead_all {l : SRow} (I : Inc l) {s : Nat} (h : s < l.length) : ahead l s (chl l s).length = wyl l s := by
  unfold ahead
  rw [List.take_length]
  exact ((fw_of I).way_step h).symm
theorem ch_next {l : SRow} (I : Inc l) {s k : Nat} (h : k ∈ chl l s) : k < 2 * l.length ∧ (spG l k).1 ≤ s ∧ s ≤ (spG l k).2 ∧ (spG l k).2 < l.length ∧ fwl l ((spG l k).2 + 1) + 1 = fwl l s := by
  obtain ⟨h1, h2, h3, h4⟩ := ch_mem.mp (show k ∈ chK (spG l) (2 * l.length) (fwl l) s from h)
  exact ⟨h1, h2, h3, ((fw_of I).lt k h1).2, h4⟩
/-- the i-th way by way of the j-th choice -/
theorem path_at {l : SRow} (I : Inc l) {s j k i : Nat} (hs : s < l.length) (hj : (chl l s)[j]? = some k) (hi : i < wyl l ((spG l k).2 + 1)) : (pathL l s)[ahead l s j + i]? = (pathL l ((spG l k).2 + 1))[i]?.map (k :: ·) := by
  obtain ⟨t, ht⟩ := (fw_of I).pos hs
  have hk := ch_next I (List.mem_of_getElem? hj)
  have e1 : fwl l ((spG l k).2 + 1) = t := by omega
  have hsum : ahead l s j = (((chl l s).take j).map fun x => ((pth (spG l) (2 * l.length) (fwl l) t ((spG l x).2 + 1)).map (x :: ·)).length).sum := by
    unfold ahead
    refine pwCg fun x hx => ?_
    have hx := ch_next I (List.mem_of_mem_take hx)
    rw [List.length_map]
    show (pth (spG l) (2 * l.length) (fwl l) (fwl l ((spG l x).2 + 1)) ((spG l x).2 + 1)).length = _
    rw [show fwl l ((spG l x).2 + 1) = t by omega]
  have e2 : pathL l s = (chl l s).flatMap fun x => (pth (spG l) (2 * l.length) (fwl l) t ((spG l x).2 + 1)).map (x :: ·) := by
    unfold pathL
    rw [ht]
    rfl
  rw [e2, hsum, flat_at hj (by rw [List.length_map]; have : (pth (spG l) (2 * l.length) (fwl l) (fwl l ((spG l k).2 + 1)) ((spG l k).2 + 1)).length = wyl l ((spG l k).2 + 1) := rfl; rw [e1] at this; omega), List.getElem?_map]
  unfold pathL
  rw [e1]
theorem path_end {l : SRow} : pathL l l.length = [[]] := by
  unfold pathL
  have e : fwl l l.length = 0 := by unfold fwl; rw [Nat.sub_self]; rfl
  rw [e]
  rfl
/-! ### the number of a way -/
noncomputable def befW (l : SRow) (s k : Nat) : Nat := (((chl l s).filter fun x => decide (x < k)).map fun x => wyl l ((spG l x).2 + 1)).sum
noncomputable def idxOf (l : SRow) : Nat → List Nat → Option Nat
  | s, [] => if s = l.length then some 0 else none
  | s, k :: q => if s < l.length ∧ k ∈ chl l s then (idxOf l ((spG l k).2 + 1) q).map (befW l s k + ·) else none
theorem take_lt : ∀ {xs : List Nat} {j k : Nat}, xs.Pairwise (· < ·) → xs[j]? = some k → (xs.filter fun x => decide (x < k)) = xs.take j
  | [], j, k, _, h => by simp at h
  | x :: xs, 0, k, hp, h => by
    cases Option.some.inj h
    rw [List.take_zero, List.filter_eq_nil_iff]
    intro y hy
    rw [decide_eq_true_eq]
    rcases List.mem_cons.mp hy with rfl | hy
    · exact Nat.lt_irrefl _
    · have := (List.pairwise_cons.mp hp).1 y hy
      omega
  | x :: xs, j + 1, k, hp, h => by
    have h : xs[j]? = some k := by simpa using h
    have hx := (List.pairwise_cons.mp hp).1 k (List.mem_of_getElem? h)
    rw [List.filter_cons, if_pos (decide_eq_true hx), List.take_succ_cons, take_lt (List.pairwise_cons.mp hp).2 h]
theorem chl_asc {l : SRow} {s : Nat} : (chl l s).Pairwise (· < ·) := List.pairwise_lt_range.sublist List.filter_sublist
theorem bef_ahead {l : SRow} {s j k : Nat} (h : (chl l s)[j]? = some k) : befW l s k = ahead l s j := by
  unfold befW ahead
  rw [take_lt chl_asc h]
theorem sum_split {g : Nat → Nat} : ∀ {xs : List Nat} {i : Nat}, i < (xs.map g).sum → ∃ j k i', xs[j]? = some k ∧ i = ((xs.take j).map g).sum + i' ∧ i' < g k
  | [], i, h => by simp at h
  | x :: xs, i, h => by
    rw [List.map_cons, List.sum_cons] at h
    by_cases c : i < g x
    · exact ⟨0, x, i, rfl, by simp, c⟩
    · obtain ⟨j, k, i', h1, h2, h3⟩ := sum_split (g := g) (xs := xs) (i := i - g x) (by omega)
      exact ⟨j + 1, k, i', by simpa using h1, by rw [List.take_succ_cons, List.map_cons, List.sum_cons]; omega, h3⟩
theorem way_split {l : SRow} (I : Inc l) {s i : Nat} (hs : s < l.length) (hi : i < wyl l s) : ∃ j k i', (chl l s)[j]? = some k ∧ i = ahead l s j + i' ∧ i' < wyl l ((spG l k).2 + 1) := by
  have h := (fw_of I).way_step hs
  have hi : i < ((chl l s).map fun k => wyl l ((spG l k).2 + 1)).sum := by
    show i < ((chK (spG l) (2 * l.length) (fwl l) s).map fun k => wayK (spG l) (2 * l.length) (fwl l) ((spG l k).2 + 1)).sum
    rw [← h]
    exact hi
  exact sum_split hi
/-- a way's number is told -/
theorem path_idx {l : SRow} (I : Inc l) : ∀ (r : List Nat) (s i : Nat), s ≤ l.length → (pathL l s)[i]? = some r → idxOf l s r = some i := by
  intro r
  induction r with
  | nil =>
    intro s i hs h
    rcases Nat.lt_or_ge s l.length with c | c
    · have hi : i < wyl l s := (List.getElem?_eq_some_iff.mp h).1
      obtain ⟨j, k, i', h1, rfl, h3⟩ := way_split I c hi
      rw [path_at I c h1 h3] at h
      cases e : (pathL l ((spG l k).2 + 1))[i']? with
      | none => rw [e] at h; cases h
      | some r2 => rw [e] at h; cases h
    · have : s = l.length := by omega
      subst this
      rw [path_end] at h
      cases i with
      | zero => unfold idxOf; rw [if_pos rfl]
      | succ i => cases h
  | cons k0 r ih =>
    intro s i hs h
    rcases Nat.lt_or_ge s l.length with c | c
    · have hi : i < wyl l s := (List.getElem?_eq_some_iff.mp h).1
      obtain ⟨j, k, i', h1, rfl, h3⟩ := way_split I c hi
      rw [path_at I c h1 h3] at h
      have hk := ch_next I (List.mem_of_getElem? h1)
      cases e : (pathL l ((spG l k).2 + 1))[i']? with
      | none => rw [e] at h; cases h
      | some r2 =>
        rw [e] at h
        have h : k :: r2 = k0 :: r := Option.some.inj h
        obtain ⟨rfl, rfl⟩ := List.cons.inj h
        unfold idxOf
        rw [if_pos ⟨c, List.mem_of_getElem? h1⟩, ih _ i' (by omega) e, bef_ahead h1]
        rfl
    · have : s = l.length := by omega
      subst this
      rw [path_end] at h
      cases i with
      | zero => cases h
      | succ i => cases h
theorem pu_ltk (j k : Nat) : PySem.W.dataLt (puD j) (puD k) = decide (j < k) := by
  rcases Nat.lt_or_ge j k with c | c
  · rw [decide_eq_true c]
    unfold puD
    rw [PySem.W.dataLt_pair (by simp [PySem.W.alike]) (by simp [PySem.W.alike])]
    by_cases e : j / 2 = k / 2
    · have hj : j % 2 = 0 := by omega
      have hk : ¬ k % 2 = 0 := by omega
      rw [e, if_pos (by simp [PyData.eqv]), if_pos hj, if_neg hk]
      decide +kernel
    · rw [if_neg (by simp only [PyData.eqv, beq_iff_eq]; omega), PySem.W.dataLt_int, decide_eq_true_eq]
      omega
  · rw [decide_eq_false (by omega)]
    exact pu_lt c
/-- choices told by their pushes -/
def onOwn (k : Nat) : PyData → Option PyData
  | .tuple [p, .int i] => if PyData.eqv p (puD k) then some (.int i) else none
  | _ => none
theorem own_lc {l : SRow} {k : Nat} : ∀ {xs : List Nat}, xs.Nodup → (xs.map (chD l)).filterMap (onOwn k) = if k ∈ xs then [.int (((spG l k).2 + 1 : Nat) : Int)] else []
  | [], _ => rfl
  | x :: xs, h => by
    obtain ⟨h1, h2⟩ := List.nodup_cons.mp h
    rw [List.map_cons, List.filterMap_cons]
    have e : onOwn k (chD l x) = if x = k then some (.int (((spG l x).2 + 1 : Nat) : Int)) else none := by
      show (if PyData.eqv (puD x) (puD k) then some (PyData.int (((spG l x).2 + 1 : Nat) : Int)) else none) = _
      rw [pu_eqv]
      by_cases c : x = k
      · rw [decide_eq_true c, if_pos rfl, if_pos c]
      · rw [decide_eq_false c, if_neg Bool.false_ne_true, if_neg c]
    rw [e, own_lc h2]
    by_cases c : x = k
    · subst c
      rw [if_pos rfl, if_neg h1, if_pos (List.mem_cons_self ..)]
    · rw [if_neg c]
      by_cases d : k ∈ xs
      · rw [if_pos d, if_pos (List.mem_cons_of_mem _ d)]
      · rw [if_neg d, if_neg]
        intro z
        rcases List.mem_cons.mp z with z | z
        · exact c z.symm
        · exact d z
noncomputable def onLess (l : SRow) (k : Nat) : PyData → Option PyData
  | .tuple [p, .int i] => if PySem.W.dataLt p (puD k) then some (natD (wyl l i.toNat)) else none
  | _ => none
theorem less_lc {l : SRow} {k : Nat} : ∀ {xs : List Nat}, (xs.map (chD l)).filterMap (onLess l k) = (xs.filter fun x => decide (x < k)).map fun x => natD (wyl l ((spG l x).2 + 1))
  | [] => rfl
  | x :: xs => by
    rw [List.map_cons, List.filterMap_cons, List.filter_cons, less_lc (xs := xs)]
    have e : onLess l k (chD l x) = if decide (x < k) then some (natD (wyl l ((spG l x).2 + 1))) else none := by
      show (if PySem.W.dataLt (puD x) (puD k) then some (natD (wyl l ((((spG l x).2 + 1 : Nat) : Int).toNat))) else none) = _
      rw [pu_ltk, Int.toNat_natCast]
    rw [e]
    cases decide (x < k) <;> rfl
theorem ints_tab2 {g : Nat → Nat} : ∀ ks : List Nat, intsOf (ks.map fun k => natD (g k)) = some (ks.map fun k => ((g k : Nat) : Int))
  | [] => rfl
  | k :: ks => by rw [List.map_cons, List.map_cons, natD, intsOf, ints_tab2 ks]; rfl
theorem sum_cast2 {g : Nat → Nat} : ∀ ks : List Nat, (ks.map fun k => ((g k : Nat) : Int)).sum = (((ks.map g).sum : Nat) : Int)
  | [] => rfl
  | k :: ks => by rw [List.map_cons, List.map_cons, List.sum_cons, List.sum_cons, sum_cast2 ks]; push_cast; rfl
theorem idx_nil {l : SRow} {s : Nat} : idxOf l s [] = if s = l.length then some 0 else none := by unfold idxOf; rfl
theorem idx_none {l : SRow} {s k : Nat} {q : List Nat} (h : k ∉ chl l s) : idxOf l s (k :: q) = none := by
  unfold idxOf
  rw [if_neg fun z => h z.2]
theorem idx_end {l : SRow} {k : Nat} {q : List Nat} : idxOf l l.length (k :: q) = none := by
  unfold idxOf
  rw [if_neg fun z => Nat.lt_irrefl _ z.1]
theorem idx_step {l : SRow} {s k : Nat} {q : List Nat} (hs : s < l.length) (h : k ∈ chl l s) : idxOf l s (k :: q) = (idxOf l ((spG l k).2 + 1) q).map (befW l s k + ·) := by
  conv => lhs; unfold idxOf
  rw [if_pos ⟨hs, h⟩]
theorem pu_plain (k : Nat) : (puD k).hasDict = false ∧ (puD k).depth ≤ 60 ∧ puD k ≠ .none := ⟨by simp [puD, PyData.hasDict, PyData.hasDictAll], by simp [puD, PyData.depth, PyData.depthAll], fun z => by cases z⟩
theorem push_qp (p : Nat × Bool) : pushOf p = qpD ((p.1 : Nat), sideOf p.2) := rfl
theorem push_qps (ps : List (Nat × Bool)) : ps.map pushOf = (ps.map fun p => (((p.1 : Nat) : Int), sideOf p.2)).map qpD := by rw [List.map_map]; rfl
theorem perm_inv {α β : Type} {g : α → β} {xs ys : List β} (h : xs.Perm ys) : ∀ ps : List α, ys = ps.map g → ∃ qs : List α, qs.Perm ps ∧ qs.map g = xs := by
  induction h with
  | nil => 
    intro ps e
    cases ps with
    | nil => exact ⟨[], List.Perm.refl _, rfl⟩
    | cons _ _ => cases e
  | cons x _ ih =>
    intro ps e
    cases ps with
    | nil => cases e
    | cons p ps =>
      obtain ⟨rfl, e2⟩ := List.cons.inj e
      obtain ⟨qs, h1, h2⟩ := ih ps e2
      exact ⟨p :: qs, h1.cons p, by rw [List.map_cons, h2]⟩
  | swap x y r =>
    intro ps e
    match ps, e with
    | [], e => cases e
    | [_], e => cases e
    | p :: q :: ps, e =>
      obtain ⟨rfl, e2⟩ := List.cons.inj e
      obtain ⟨rfl, rfl⟩ := List.cons.inj e2
      exact ⟨q :: p :: ps, .swap p q ps, rfl⟩
  | trans _ _ ih1 ih2 =>
    intro ps e
    obtain ⟨qs, h1, h2⟩ := ih2 ps e
    obtain ⟨rs, h3, h4⟩ := ih1 qs h2.symm
    exact ⟨rs, h3.trans h1, h4⟩
/-- sorting pushes gives the same ones in another order -/
theorem sort_push (ps : List (Nat × Bool)) : ∃ qs : List (Nat × Bool), qs.Perm ps ∧ (sortH (ps.map fun p => (((p.1 : Nat) : Int), sideOf p.2))).map qpD = qs.map pushOf := by
  obtain ⟨qs, h1, h2⟩ : ∃ qs : List (Nat × Bool), qs.Perm ps ∧ qs.map (fun p => (((p.1 : Nat) : Int), sideOf p.2)) = sortH (ps.map fun p => (((p.1 : Nat) : Int), sideOf p.2)) := by
    exact perm_inv (sortH_perm (ps := ps.map fun p => (((p.1 : Nat) : Int), sideOf p.2))) ps rfl
  exact ⟨qs, h1, by rw [push_qps, h2]⟩
theorem push_pu (p : Nat × Bool) : pushOf p = puD (posOf p) := by
  obtain ⟨s, b⟩ := p
  unfold pushOf puD posOf
  cases b
  · rw [show (2 * s + (if false = true then 1 else 0)) / 2 = s by simp, if_pos (by simp)]; rfl
  · rw [show (2 * s + (if true = true then 1 else 0)) / 2 = s by simp; omega, if_neg (by simp)]; rfl
theorem pus_map (ps : List (Nat × Bool)) : ps.map pushOf = (ps.map posOf).map puD := by
  rw [List.map_map]
  exact List.map_congr_left fun p _ => push_pu p
/-- sorting pushes: ascending -/
theorem sort_push' (ps : List (Nat × Bool)) (hn : (ps.map posOf).Nodup) : ∃ qs : List (Nat × Bool), qs.Perm ps ∧ (qs.map posOf).Pairwise (· < ·) ∧ (sortH (ps.map fun p => (((p.1 : Nat) : Int), sideOf p.2))).map qpD = qs.map pushOf := by
  obtain ⟨qs, h1, h2⟩ := sort_push ps
  refine ⟨qs, h1, ?_, h2⟩
  have a := sortH_asc (ps := ps.map fun p => (((p.1 : Nat) : Int), sideOf p.2))
  have b : ((sortH (ps.map fun p => (((p.1 : Nat) : Int), sideOf p.2))).map qpD).Pairwise fun a b => (!PySem.W.dataLt b a) = true := List.pairwise_map.mpr (a.imp fun h => h)
  rw [h2, pus_map] at b
  have c : (qs.map posOf).Pairwise (· ≤ ·) := (List.pairwise_map.mp b).imp fun {x y} h => by
    rw [pu_ltk] at h
    simp at h
    exact h
  have d : (qs.map posOf).Nodup := ((h1.map posOf).nodup_iff).mpr hn
  exact (List.pairwise_and_iff.mpr ⟨c, d⟩).imp fun h => Nat.lt_of_le_of_ne h.1 h.2
theorem far_one {l : SRow} {i : Nat} {p q : Nat × Bool} (hp : Far l i p) (hq : Far l i q) : p = q := by
  have e : hpOf (farE l i) p = hpOf (farE l i) q := hp.2.2.2.symm.trans hq.2.2.2
  obtain ⟨s, b⟩ := p
  obtain ⟨t, c⟩ := q
  have e1 : ((s : Nat) : Int) = (t : Nat) := congrArg (fun x : HP => x.2.1) e
  have e2 : sideOf b = sideOf c := congrArg (fun x : HP => x.2.2) e
  have e3 : b = c := by cases b <;> cases c <;> first | rfl | exact absurd e2 (by decide +kernel)
  rw [e3, show s = t by omega]
/-- the pushes that are taken, from a stone on -/
inductive MfP (l : SRow) : Nat → Nat → List (Nat × Bool) → Prop
  | stop {i lf : Nat} : (lf = 0 ∨ l.length ≤ i) → MfP l i lf []
  | skip {i lf : Nat} {rs : List (Nat × Bool)} : 0 < lf → i < l.length → wT (farE l) l.length lf (l.length - i) = wT (farE l) l.length lf (l.length - (i + 1)) → MfP l (i + 1) lf rs → MfP l i lf rs
  | take {i lf : Nat} {p : Nat × Bool} {rs : List (Nat × Bool)} : i < l.length → wT (farE l) l.length (lf + 1) (l.length - i) ≠ wT (farE l) l.length (lf + 1) (l.length - (i + 1)) → Far l i p → MfP l (farE l i + 1) lf rs → MfP l i (lf + 1) (p :: rs)
theorem mfp_one {l : SRow} {i lf : Nat} {rs : List (Nat × Bool)} (h : MfP l i lf rs) : ∀ {rs' : List (Nat × Bool)}, MfP l i lf rs' → rs' = rs := by
  induction h with
  | stop h =>
    intro rs' h'
    cases h' with
    | stop _ => rfl
    | skip _ _ _ _ => omega
    | take _ _ _ _ => omega
  | skip h0 h1 h2 _ ih =>
    intro rs' h'
    cases h' with
    | stop _ => omega
    | skip _ _ _ h => exact ih h
    | take _ h3 _ _ => exact absurd h2 h3
  | take h1 h2 hf _ ih =>
    intro rs' h'
    cases h' with
    | stop _ => omega
    | skip _ _ h3 _ => exact absurd h3 h2
    | take _ _ hf2 h => rw [far_one hf hf2, ih h]
theorem pos_sort {ps qs : List (Nat × Bool)} (hp : ps.Perm qs) (h1 : (ps.map posOf).Pairwise (· < ·)) (h2 : (qs.map posOf).Pairwise (· < ·)) : ps = qs := by
  have e : ps.map posOf = qs.map posOf := List.Perm.eq_of_pairwise (fun a b _ _ x y => by omega) h1 h2 (hp.map posOf)
  exact (List.map_inj_right fun a b => pos_inj).mp e
def mf_most_felled : MF := fun as R ex => ∃ (l : SRow) (v : PyData), as = [.d (rowD l), .d v] ∧ Inc l ∧ l.length ≤ 1000 ∧ (isInt v 0 (l.length : Nat) = false → ex (noIndex v)) ∧ ∀ t : Nat, v = .int (t : Nat) → t ≤ l.length →
  ∀ ps0 ps : List (Nat × Bool), MfP l 0 t ps0 → ps.Perm ps0 → (∀ p ∈ ps, p.1 < l.length) → ps.length ≤ t → (ps.map posOf).Pairwise (· < ·) → cntC (spansP l ps) l.length = wT (farE l) l.length t l.length → R (.d (.tuple [natD (wT (farE l) l.length t l.length), .tuple (ps.map pushOf)]))
theorem d_most_felled {f : Addr} {fd : FuncData} (T : Txt K mg) (hm : mg "most_felled" = some (.ref f)) (F0 : L2.Fun K "most_felled" "most_felled" s_most_felled f fd) (hb : Binds K fd ["row", "many"] []) (F_check_index : DFn P w K mg base CK "check_index" 3 0 2 mf_check_index) (F_best_from : DFn P w K mg base CK "best_from" 5 0 2 mf_best_from) (F_far_ends : DFn P w K mg base CK "far_ends" 4 0 1 mf_far_ends) : DFn P w K mg base CK "most_felled" 6 0 2 mf_most_felled :=
  (dfn_of hm F0 hb sc_most_felled (fun cdv A outer s H E cx =>
 (dss_cons (ds_expr (de_call cx F_check_index (by decide) (by rfl) (da_cons (de_pv 1) (da_cons (de_add (de_len (by rfl) T.n_len (da_cons (de_pv 0) da_nil)) de_int) da_nil))))
 (dss_cons (ds_par2 (i := 2) (j := 3) (by rfl) sc_most_felled.nd rfl rfl (by decide) rfl rfl (da_cons (de_call cx F_best_from (by decide) (by rfl) (da_cons (de_pv 0) (da_cons (de_pv 1) da_nil))) (da_cons (de_call cx F_far_ends (by decide) (by rfl) (da_cons (de_pv 0) da_nil)) da_nil)) (by rfl))
 (dss_cons (ds_par3 (i := 4) (j := 5) (l := 6) (by rfl) sc_most_felled.nd rfl rfl rfl (by decide) (by decide) (by decide) rfl rfl rfl (da_cons de_int (da_cons (de_pv 1) (da_cons (de_lst da_nil) da_nil))) (by rfl))
 (dss_cons (ds_while (Ctx.passes rfl) (DW.dt (dw_and (dt_gt (de_pv 5) de_int) (dw_and1 (dt_lt (de_pv 4) (de_len (by rfl) T.n_len (da_cons (de_pv 0) da_nil)))))) (dss_one (ds_if (dt_eq cx.u (de_ix (de_ix (de_pv 2) (de_pv 5)) (de_pv 4)) (de_ix (de_ix (de_pv 2) (de_pv 5)) (de_add (de_pv 4) de_int))) (dss_one (ds_aug (i := 4) sc_most_felled.nd rfl (by first | exact Or.inl rfl | exact Or.inr rfl) de_int ip_add)) (dss_cons (ds_mut PySem.F.slot_list_append PySem.F.type_list_append mt_append mut_app (pv 6) (da_cons (de_ix (de_ix (de_pv 3) (de_pv 4)) de_int) da_nil))
 (dss_cons (ds_set (i := 4) sc_most_felled.nd rfl (by first | exact Or.inl rfl | exact Or.inr rfl) (de_add (de_ix (de_ix (de_pv 3) (de_pv 4)) de_int) de_int))
 (dss_one (ds_aug (i := 5) sc_most_felled.nd rfl (by first | exact Or.inl rfl | exact Or.inr rfl) de_int ip_sub)))))))
 (dss_one (ds_ret (de_tup (da_cons (de_ix (de_ix (de_pv 2) (de_pv 1)) de_int) (da_cons (de_tupleC (by rfl) T.n_tuple (da_cons (de_sortedH cx.u (by rfl) T.n_sorted (da_cons (de_pv 6) da_nil)) da_nil)) da_nil))))))))))
  (by
    rintro as R ex hl ⟨l, v, rfl, I, hn, h0, h⟩
    have hlen : oLen (.d (rowD l)) = fun R => R (.d (.int l.length)) := by
      unfold rowD
      funext R
      walk_at "dx"
      rw [List.length_map]
    walk_at "dx"
    rw [hlen]
    walk_at "dx"
    refine ⟨v, _, rfl, fun hv => ?_, fun hv => h0 (by rw [← hv]; congr 1; omega)⟩
    rw [show ((l.length : Nat) : Int) + 1 - 1 = ((l.length + 1 : Nat) : Int) - 1 by push_cast; rfl] at hv
    obtain ⟨t, rfl, ht⟩ : ∃ t : Nat, v = .int (t : Nat) ∧ t ≤ l.length := by
      cases v with
      | int i =>
        simp only [isInt, Bool.and_eq_true, decide_eq_true_eq] at hv
        exact ⟨i.toNat, by rw [Int.toNat_of_nonneg hv.1], by omega⟩
      | _ => simp [isInt] at hv
    replace h := h t rfl ht
    have C := cov_of I
    refine ⟨l, t, rfl, I, hn, by omega, ?_⟩
    refine ⟨l, rfl, I, fun es hE => ?_⟩
    refine ⟨rfl, rfl, by walk_at "lim", ?_⟩
    refine ⟨fun n δ => ∃ (ps : List (Nat × Bool)) (i lf : Nat), δ = [some (.d (rowD l)), some (.d (.int (t : Nat))), some (.d (.list (wTab l t))), some (.d (.list (es.map hpD))), some (.d (.int (i : Nat))), some (.d (.int (lf : Nat))), some (.own (ps.map pushOf))] ∧ n = l.length - i ∧ ps.length + lf = t ∧ (∀ p ∈ ps, p.1 < l.length) ∧ i ≤ l.length ∧ ((ps.map posOf).Nodup ∧ (∀ p ∈ ps, (spanOf l p).2 < i) ∧ ∀ rs, MfP l i lf rs → MfP l 0 t (ps ++ rs)) ∧ wT (farE l) l.length t l.length ≤ cntC (spansP l ps) i + wT (farE l) l.length lf (l.length - i), ⟨_, [], 0, t, rfl, rfl, by simp, fun p hp => (by cases hp), Nat.zero_le _, ⟨List.nodup_nil, fun p hp => (by cases hp), fun rs h => h⟩, by rw [Nat.sub_zero]; omega⟩, ?_⟩
    rintro n δ ⟨ps, i, lf, rfl, rfl, hlf, hps, hi, ⟨hnd, hlo, hmf⟩, hw⟩
    have fin : wT (farE l) l.length lf (l.length - i) = 0 → (lf = 0 ∨ l.length ≤ i) → mRet (mTup (mCons (mBin oIx (mBin oIx (mVar 2) (mVar 1)) (mC (.int 0))) (mCons (mCB (o1 oTuple) (mCons (mCB (o1 oSortH) (mCons (mVar 6) mNil)) mNil)) mNil))) (fun e x => ex e) { nx := fun x => R (.d .none), rt := R, bk := fun x => False, ct := fun x => False } [some (.d (rowD l)), some (.d (.int (t : Nat))), some (.d (.list (wTab l t))), some (.d (.list (es.map hpD))), some (.d (.int (i : Nat))), some (.d (.int (lf : Nat))), some (.own (ps.map pushOf))]   := fun hz hst => by
      have hm0 : MfP l 0 t ps := by have := hmf [] (.stop hst); rwa [List.append_nil] at this
      obtain ⟨qs, q1, q3, q2⟩ := sort_push' ps hnd
      walk_at "dx"
      rw [wTab_get (Nat.le_refl t)]
      walk_at "dx"
      rw [show atI ((wRowL l t).map natD) 0 = some (natD (wT (farE l) l.length t l.length)) from atI_map (f := natD) 0 rfl (by rw [wRowL_get (Nat.zero_le _), Nat.sub_zero])]
      walk_at "dx"
      rw [push_qps, qpsL_map]
      dsimp only
      rw [q2]
      refine ⟨by walk_at "lim", h ps qs hm0 q1 (fun p hp => hps p (q1.mem_iff.mp hp)) (by rw [q1.length_eq]; omega) q3 ?_⟩
      have hS : ∀ q ∈ spansP l qs, q ∈ spN l := fun q hq => by
        obtain ⟨p, hp, rfl⟩ := List.mem_map.mp hq
        exact span_sp (hps p (q1.mem_iff.mp hp))
      have h1 := cnt_le_v (S := spN l) qs.length l.length (spansP l qs) (by unfold spansP; rw [List.length_map]) hS
      have h2 := v_many (S := spN l) (j := l.length) (show qs.length ≤ t by rw [q1.length_eq]; omega)
      rw [← w_eq_v C t] at h2
      have h3 : cntC (spansP l ps) l.length ≤ cntC (spansP l qs) l.length := cnt_sub fun x _ hc => by
        obtain ⟨z, hz, z1⟩ := cov_iff.mp hc
        obtain ⟨p, hp, rfl⟩ := List.mem_map.mp hz
        exact cov_iff.mpr ⟨_, List.mem_map.mpr ⟨p, q1.mem_iff.mpr hp, rfl⟩, z1⟩
      have h4 := (cnt_up (P := spansP l ps) (i := i) (l.length - i)).1
      rw [show i + (l.length - i) = l.length by omega] at h4
      omega
    walk_at "dx"
    rw [hlen]
    walk_at "dx"
    refine ⟨fun c => ⟨fun c2 => ?_, fun c2 => ?_⟩, fun c => ?_⟩
    · have hil : i < l.length := by omega
      obtain ⟨p, hp, hat⟩ := hE.get hil
      have hf1 := far_own I hil
      have hf2 := far_lt I hil
      rw [wTab_get (show lf ≤ t by omega)]
      walk_at "dx"
      rw [show ((i : Nat) : Int) + 1 = ((i + 1 : Nat) : Int) by push_cast; rfl, nat_at (wRowL_get (show i ≤ l.length by omega)), nat_at (wRowL_get (show i + 1 ≤ l.length by omega)), hat]
      walk_at "dx"
      rw [if_pos (show (ps.map pushOf).length < sizeLine from by rw [List.length_map]; walk_at "lim")]
      obtain ⟨k, rfl⟩ : ∃ k, lf = k + 1 := ⟨lf - 1, by omega⟩
      have hs := w_step (f := farE l) (n := l.length) (t := k) hil
      refine ⟨fun e => ⟨l.length - (i + 1), by omega, ps, i + 1, k + 1, rfl, rfl, by omega, hps, by omega, ⟨hnd, fun p hp => Nat.lt_succ_of_lt (hlo p hp), fun rs h => hmf rs (.skip (by omega) hil (by omega) h)⟩, ?_⟩, fun e => ⟨l.length - (farE l i + 1), by omega, ps ++ [p], farE l i + 1, k, ?_, rfl, by rw [List.length_append, List.length_singleton]; omega, fun q hq => ?_, by omega, ⟨?_, fun q hq => ?_, fun rs h => ?_⟩, ?_⟩⟩
      · have e : wT (farE l) l.length (k + 1) (l.length - i) = wT (farE l) l.length (k + 1) (l.length - (i + 1)) := by omega
        have h4 := (cnt_up (P := spansP l ps) (i := i) 1).1
        omega
      · rw [List.map_append (f := pushOf)]
        rw [show (((k + 1 : Nat) : Int) - 1) = (k : Nat) by push_cast; omega]
        rfl
      · rcases List.mem_append.mp hq with hq | hq
        · exact hps q hq
        · cases List.mem_singleton.mp hq
          exact hp.1
      · rw [List.map_append, List.nodup_append]
        refine ⟨hnd, by simp, fun a ha b hb e => ?_⟩
        obtain ⟨q, hq, rfl⟩ := List.mem_map.mp ha
        cases List.mem_singleton.mp hb
        cases pos_inj e
        have := hlo _ hq
        have := hp.2.2.1
        omega
      · rcases List.mem_append.mp hq with hq | hq
        · have := hlo q hq
          omega
        · cases List.mem_singleton.mp hq
          have := hp.2.2.1
          omega
      · rw [List.append_assoc]
        refine hmf _ (.take hil ?_ hp h)
        omega
      · have hg := cnt_grow (P := spansP l ps) (q := spanOf l p) (i := i) hp.2.1 (by rw [hp.2.2.1]; exact hf1)
        rw [hp.2.2.1] at hg
        have e2 : spansP l (ps ++ [p]) = spansP l ps ++ [spanOf l p] := by unfold spansP; rw [List.map_append]; rfl
        rw [e2]
        omega
    · have : i = l.length := by omega
      refine fin ?_ (.inr (by omega))
      rw [this, Nat.sub_self, w_nil]
    · have : lf = 0 := by omega
      refine fin ?_ (.inl this)
      rw [this]
      rfl)).le (by decide +kernel)
theorem d__law_opened {f : Addr} {fd : FuncData} (T : Txt K mg) (hm : mg "_law_opened" = some (.ref f)) (F0 : L2.Fun K "_law_opened" "_law_opened" s__law_opened f fd) (hb : Binds K fd ["_law_script"] []) : DBag P w K mg base := by
  refine ⟨f, fd, _, hm, F0.kp, hb, rfl, fnG_of F0 sc__law_opened (fun vs H Q E h => ?_) fun cdv A outer s H vs Q E hg hr h => ?_⟩
  · obtain ⟨a, ns, rfl, _⟩ := h
    rfl
  · obtain ⟨a, ns, rfl, hl, hS, k⟩ := h
    have cx : DL.Ctx (cxOf (L2.CX P w) P w K mg base ["_law_script", "_law_great", "_law_small", "_law_cell"] "_law_opened" (defScope s__law_opened) f cdv A outer s H E) ⟨fun _ _ _ _ => False, fun _ _ _ _ => True⟩ 0 := ⟨hg, hr, takes0⟩
    refine ⟨_, pss_cons (DS.ps (W := ⟨fun _ _ _ _ => False, fun _ _ _ _ => True⟩) (ds_par2 (i := 1) (j := 2) (by rfl) sc__law_opened.nd rfl rfl (by decide) rfl rfl (da_cons de_int (da_cons (de_add de_int (de_len (by rfl) T.n_len (da_cons (de_pv 0) da_nil))) da_nil)) (by rfl))) (pss_cons (DS.ps (W := ⟨fun _ _ _ _ => False, fun _ _ _ _ => True⟩) (ds_for (Ctx.passes rfl) (by rfl) (di_list (de_slice (de_pv 0) do_none (do_some de_int))) (dg_name (i := 3) sc__law_opened.nd rfl (by first | exact Or.inl rfl | exact Or.inr rfl)) (dss_one (ds_if (dt_lt (de_abs (by rfl) T.n_abs (da_cons (de_pv 3) da_nil)) (de_pow de_int de_int)) (dss_one (ds_set (i := 2) sc__law_opened.nd rfl (by first | exact Or.inl rfl | exact Or.inr rfl) (de_mod (de_add (de_add (de_mul (de_pv 2) de_int) (de_mul de_int (de_abs (by rfl) T.n_abs (da_cons (de_pv 3) da_nil)))) (de_intC (by rfl) T.n_int (da_cons (de_lt (de_pv 3) de_int) da_nil))) de_int))) (dss_one (ds_if (dt_eq cx.u (de_pv 1) de_int) (dss_one (ds_set (i := 1) sc__law_opened.nd rfl (by first | exact Or.inl rfl | exact Or.inr rfl) (de_abs (by rfl) T.n_abs (da_cons (de_pv 3) da_nil)))) dss_nil))))))
      (pss_one (ps_ret (pe_disp (pps_cons pe_str (pv 1) (pps_cons pe_str (pv 2) (pps_cons pe_str pe_int pps_nil))) (by rfl) (by rfl) (fun z => by cases z) (by show 3 ≤ 15; decide))))), ?_⟩
    have nol : ∀ {u : Nat} {G : Gm} {τ : DL.Env} {ts : L2.St}, Link K mg ⟨fun _ _ _ _ => False, fun _ _ _ _ => True⟩ u G τ ts (fun _ _ => False) := fun _ _ _ _ _ _ _ _ _ _ _ _ _ _ z => z
    have nb : ∀ {x y z : Option DV}, (∀ t, x = some t → t.isBor = false) → (∀ t, y = some t → t.isBor = false) → (∀ t, z = some t → t.isBor = false) → NoBor ([some (.scr ns), x, y, z] ++ []) := fun {x y z} h1 h2 h3 i t e => by
      match i, e with
      | 0, e => cases e; rfl
      | 1, e => simp at e; exact h1 t e
      | 2, e => simp at e; exact h2 t e
      | 3, e => simp at e; exact h3 t e
      | i + 4, e => simp at e
    have no0 : ∀ t, (none : Option DV) = some t → t.isBor = false := fun t e => by cases e
    have noI : ∀ {i : Int} t, some (DV.d (.int i)) = some t → t.isBor = false := fun t e => by cases e; rfl
    have last : ∀ (g z : Int) (σ : L2.St) (F1 H1 : Hp) (a3 : Option DV) (G : Gm), σ.length = 4 → 0 ≤ z → z < 2 ^ 63 → Good G F1 [some (.scr ns), some (.d (.int g)), some (.d (.int z)), a3] σ H1 → (tDisp [(tC (.str "great"), tVar 1), (tC (.str "small"), tVar 2), (tC (.str "drawn"), tC (.int 0))]) σ H1 Q := fun g z σ F1 H1 a3 G hl q0 q1 gg => by
      obtain ⟨v1, e1, h1⟩ := gg.sl 1 _ rfl
      obtain ⟨v2, e2, h2⟩ := gg.sl 2 _ rfl
      cases int_of h1
      cases int_of h2
      have n1 : ("great" : Str) ≠ "small" := by decide +kernel
      have n2 : ("great" : Str) ≠ "drawn" := by decide +kernel
      have n3 : ("small" : Str) ≠ "drawn" := by decide +kernel
      intro p hp
      refine ⟨.int g, e1, .int z, e2, upd_same, [(.inr "great", .int g), (.inr "small", .int z), (.inr "drawn", .int 0)], rfl, by show 3 ≤ 15; decide, ?_⟩
      refine k p _ ⟨g, z, 0, ?_, q0, q1, Int.le_refl _, Int.le_refl _⟩
      rw [upd_same]
      simp [mergeK, putK, bagK, n1, n2, n3, n1.symm, n2.symm, n3.symm]
    refine ⟨fun _ _ => False, _, _, [some (.scr ns), none, none, none], [], [], ⟨fun δ => ∃ (g z : Int), δ = [some (.scr ns), some (.d (.int g)), some (.d (.int z)), none] ∧ 0 ≤ z ∧ z < 2 ^ 63, fun _ => False, fun _ => False, fun _ => False, fun _ _ => False⟩, ⟨rfl, rfl, rfl, good_script hS 3 0, nol, trivial, Nat.le_refl _⟩, nb no0 no0 no0, ⟨?_, fun _ z => z.elim, fun _ z => z.elim, fun _ z => z.elim, fun _ _ z => z.elim⟩, ?_⟩
    · rintro δ ⟨g, z, rfl, z0, z1⟩ b σ F1 H1 hb hl1 nb1 g1
      cases Nat.le_zero.mp hb
      have g1' := g1
      simp only [List.append_nil] at g1'
      refine ⟨fun _ _ => False, _, F1, [some (.scr ns), some (.d (.int g)), some (.d (.int z)), none], [], [], ⟨fun δ => ∃ (g z : Int) (a3 : Option DV), δ = [some (.scr ns), some (.d (.int g)), some (.d (.int z)), a3] ∧ 0 ≤ z ∧ z < 2 ^ 63, fun _ => False, fun _ => False, fun _ => False, fun _ _ => False⟩, ⟨rfl, hl1, rfl, by simpa using g1', nol, trivial, Nat.le_refl _⟩, nb noI noI no0, ⟨?_, fun _ z => z.elim, fun _ z => z.elim, fun _ z => z.elim, fun _ _ z => z.elim⟩, ?_⟩
      · rintro δ ⟨g, z, a3, rfl, z0, z1⟩ b σ F1 H1 hb hl1 nb1 g1
        simp only [List.append_nil] at g1
        exact last g z σ F1 H1 a3 _ hl1.symm z0 z1 g1
      · walk_at "dl"
        have e62 : cutD (ns.map PyData.int) none (some 62) = (ns.take 62).map PyData.int := by rw [cut_pre (by decide), List.map_take]; rfl
        rw [e62]
        refine ⟨by simp [DV.isBor], ?_⟩
        refine for_ind (fun ds δ => (∃ ms : List Int, ds = ms.map PyData.int) ∧ ∃ (g z : Int) (a3 : Option DV), δ = [some (.scr ns), some (.d (.int g)), some (.d (.int z)), a3] ∧ 0 ≤ z ∧ z < 2 ^ 63) ?_ ?_ _ _ ⟨⟨_, rfl⟩, g, z, none, rfl, z0, z1⟩
        · rintro δ ⟨_, g, z, a3, rfl, z0, z1⟩
          exact ⟨g, z, a3, rfl, z0, z1⟩
        · rintro x ds δ Kn ⟨⟨ms, hms⟩, g, z, a3, rfl, z0, z1⟩ hK
          cases ms with
          | nil => cases hms
          | cons n ms =>
            obtain ⟨rfl, rfl⟩ := List.cons.inj hms
            walk_at "dx"
            have m0 := Int.emod_nonneg ((z * 524287 + 2 * if n < 0 then -n else n) + if n < 0 then 1 else 0) (show (9223372036854775783 : Int) ≠ 0 by decide)
            have m1 := Int.emod_lt_of_pos ((z * 524287 + 2 * if n < 0 then -n else n) + if n < 0 then 1 else 0) (show (0 : Int) < 9223372036854775783 by decide)
            generalize ((z * 524287 + 2 * if n < 0 then -n else n) + if n < 0 then 1 else 0) % 9223372036854775783 = A at m0 m1 ⊢
            exact ⟨fun _ => ⟨.inr ⟨by decide, by decide⟩, .inl ⟨by decide, by decide⟩, by decide, hK _ ⟨⟨ms, rfl⟩, _, A, _, rfl, m0, by omega⟩⟩, fun _ => ⟨fun _ => hK _ ⟨⟨ms, rfl⟩, _, z, _, rfl, z0, z1⟩, fun _ => hK _ ⟨⟨ms, rfl⟩, _, z, _, rfl, z0, z1⟩⟩⟩
    · walk_at "dl"
      exact ⟨_, _, rfl, by omega, by omega⟩
theorem d__law_take {f : Addr} {fd : FuncData} (T : Txt K mg) (hm : mg "_law_take" = some (.ref f)) (F0 : L2.Fun K "_law_take" "_law_take" s__law_take f fd) (hb : Binds K fd ["_law_bag", "_law_many"] []) : DFn P w K mg base CK "_law_take" 1 1 2 mf__law_take := by
  refine ⟨f, fd, _, hm, F0.kp, hb, rfl, fnG_of F0 sc__law_take (fun vs H Q E q => q.1) fun cdv A outer s H vs Q E hg hr q => ?_⟩
  obtain ⟨hn, G, F, as, R, ex, hK, ⟨⟨c, hC, hcv, hJ, hlim⟩, hnu⟩, hl, harg, g, ⟨m, rfl, hm0, hm1, hR⟩, hQ, hE⟩ := q
  obtain ⟨v1, v2, rfl, h1, h2, _⟩ := two_of (A := []) (A' := []) hl (by simpa using g)
  have e1 : v1 = .ref c := by rw [← hcv]; exact h1
  subst e1
  cases int_of h2
  have hj := g.jh
  rw [hJ] at hj
  obtain ⟨gr, sm, dn, hc, hs0, hs1, hd0, hd1⟩ := hj
  have hdl : dn ≤ 2 ^ 40 := by rw [hlim] at hnu; omega
  have hu := hu_of hr
  have hu64 := hr.units
  have hu1 := Nat.lt_of_le_of_lt (Nat.add_le_add_left (show 1 ≤ 64 by decide) _) hr.units
  have n1 : ("great" : Str) ≠ "small" := by decide +kernel
  have n2 : ("great" : Str) ≠ "drawn" := by decide +kernel
  have n3 : ("small" : Str) ≠ "drawn" := by decide +kernel
  refine ⟨_, pss_cons (ps_if (pt_cmpR op_gt (pe_dget hu1 (pv 0) pe_str (fun _ _ => rfl)) pe_int (nomark _))
      (pss_cons (ps_set (i := 2) sc__law_take.nd rfl (Or.inl rfl) (pe_op op_mod (pe_dget hu1 (pv 0) pe_str (fun _ _ => rfl)) (pv 1)))
      (pss_cons (ps_dput hu1 (pv 0) pe_str (pe_op op_fdivW (pe_dget hu1 (pv 0) pe_str (fun _ _ => rfl)) (pv 1)) (by rfl))
      (pss_one (ps_ret (pv 2))))) pss_nil)
    (pss_cons (ps_set (i := 3) sc__law_take.nd rfl (Or.inl rfl) (pe_op op_add (pe_dget hu1 (pv 0) pe_str (fun _ _ => rfl)) pe_int))
    (pss_cons (ps_dput hu1 (pv 0) pe_str (pv 3) (by rfl))
    (pss_cons (ps_set (i := 4) sc__law_take.nd rfl (Or.inl rfl) (pe_op op_mod (pe_op op_mul (pe_op op_add (pe_dget hu1 (pv 0) pe_str (fun _ _ => rfl)) (pe_op op_mul pe_int (pv 3))) (pe_op op_add (pe_op op_mul pe_int (pv 3)) pe_int)) pe_int))
    (pss_cons (ps_set (i := 4) sc__law_take.nd rfl (Or.inl rfl) (pe_op op_mod (pe_op op_mul (pv 4) (pv 4)) pe_int))
    (pss_one (ps_ret (pe_op op_mod (pe_op op_fdivW (pe_op op_mod (pe_op op_mul (pv 4) (pe_op op_add (pe_op op_mod (pv 4) pe_int) pe_int)) pe_int) pe_int) (pv 1)))))))), ?_⟩
  have fin : ∀ (H' : Hp) (gr' sm' dn' : Int) (r : Int), H' c = some (.dK (bagK gr' sm' dn')) → 0 ≤ sm' → sm' < 2 ^ 63 → 0 ≤ dn' → dn' ≤ G.n + 1 → (∀ p, p ≠ c → ∀ o, H p = some o → H' p = some o) → 0 ≤ r → r < m → Q (.int r) H' := fun H' gr' sm' dn' r q1 q2 q3 q4 q4' q5 q6 q7 => by
    refine hQ (.d (.int r)) (hR r q6 q7) rfl (.int r) F H' ?_
    have g0 : Good (G.up 1) F ([] : DL.Env) ([] : L2.St) H' := g.draw (k := 1) (fun p np o e => by
      rw [hC] at np
      exact q5 p np o e) (by
      rw [hJ]
      exact ⟨gr', sm', dn', q1, q2, q3, q4, by push_cast; exact q4'⟩)
    exact Good.pushD (δ := []) (σ := []) g0 (.int r)
  have gG : ∀ {H' : Hp} {g s d : Int}, H' c = some (.dK (bagK g s d)) → DGet H' c (.str "great") (some (.int g)) := fun {H' g s d} e => by
    have := DGet.k (k := .inr "great") e
    rwa [show valV (bagK g s d) (.inr "great") = some (.int g) from rfl] at this
  have gS : ∀ {H' : Hp} {g s d : Int}, H' c = some (.dK (bagK g s d)) → DGet H' c (.str "small") (some (.int s)) := fun {H' g s d} e => by
    have := DGet.k (k := .inr "small") e
    rwa [show valV (bagK g s d) (.inr "small") = some (.int s) by simp [valV, bagK, n1, n2, n3]] at this
  have gD : ∀ {H' : Hp} {g s d : Int}, H' c = some (.dK (bagK g s d)) → DGet H' c (.str "drawn") (some (.int d)) := fun {H' g s d} e => by
    have := DGet.k (k := .inr "drawn") e
    rwa [show valV (bagK g s d) (.inr "drawn") = some (.int d) by simp [valV, bagK, n1, n2, n3]] at this
  refine ⟨.ref c, rfl, c, .int gr, rfl, gG hc, gr, 0, rfl, rfl, _, rfl, ?_⟩
  refine ite2 (fun c0 => ?_) (fun c0 => ?_)
  · refine ⟨.ref c, rfl, c, .int gr, rfl, gG hc, .int m, rfl, gr, m, rfl, rfl, hm0, ?_⟩
    refine ⟨.ref c, rfl, c, .int gr, rfl, gG hc, .int m, rfl, gr, m, rfl, rfl, cdiv hm0 hm1, ?_⟩
    refine ⟨.ref c, rfl, c, _, rfl, DPut.k (k := .inr "great") hc (by show 3 < sizeLine; decide), ?_⟩
    refine ⟨.int (gr % m), rfl, ?_⟩
    refine fin _ (gr / m) sm dn _ (by rw [upd_same]; rfl) hs0 hs1 hd0 (by omega) (fun p np o e => by rw [upd_ne np]; exact e) (Int.emod_nonneg _ (by omega)) (Int.emod_lt_of_pos _ hm0)
  · refine ⟨.ref c, rfl, c, .int dn, rfl, gD hc, dn, 1, rfl, rfl, ?_⟩
    refine ⟨.int (dn + 1), rfl, .ref c, rfl, c, _, rfl, DPut.k (k := .inr "drawn") hc (by show 3 < sizeLine; decide), ?_⟩
    obtain ⟨H2, hH2⟩ : ∃ H2, H2 = upd H c (.dK (putK (bagK gr sm dn) (.inr "drawn") (.int (dn + 1)))) := ⟨_, rfl⟩
    rw [← hH2]
    have y1 : H2 c = some (.dK (bagK gr sm (dn + 1))) := by rw [hH2, upd_same]; simp [putK, bagK, n1, n2, n3]
    have y2 : ∀ p, p ≠ c → ∀ o, H p = some o → H2 p = some o := fun p np o e => by rw [hH2, upd_ne np]; exact e
    refine ⟨.ref c, rfl, c, .int sm, rfl, gS y1, .int (dn + 1), rfl, 40503, dn + 1, rfl, rfl, .inl ⟨by decide, by decide⟩, sm, _, rfl, rfl, .int (dn + 1), rfl, 2, dn + 1, rfl, rfl, .inl ⟨by decide, by decide⟩, _, 131071, rfl, rfl, _, _, rfl, rfl, .inl ⟨by omega, by omega⟩, _, 9223372036854775783, rfl, rfl, (by show (0 : Int) < _; decide), ?_⟩
    show gName _ (.int ((sm + 40503 * (dn + 1)) * (2 * (dn + 1) + 131071) % 9223372036854775783)) _ _ _
    have a0 := Int.emod_nonneg ((sm + 40503 * (dn + 1)) * (2 * (dn + 1) + 131071)) (show (9223372036854775783 : Int) ≠ 0 by decide)
    have a1 := Int.emod_lt_of_pos ((sm + 40503 * (dn + 1)) * (2 * (dn + 1) + 131071)) (show (0 : Int) < 9223372036854775783 by decide)
    generalize (sm + 40503 * (dn + 1)) * (2 * (dn + 1) + 131071) % 9223372036854775783 = A at a0 a1 ⊢
    refine ⟨.int A, rfl, .int A, rfl, A, A, rfl, rfl, .inl ⟨by omega, by omega⟩, _, 9223372036854775783, rfl, rfl, (by show (0 : Int) < _; decide), ?_⟩
    show gName _ (.int (A * A % 9223372036854775783)) _ _ _
    have b0 := Int.emod_nonneg (A * A) (show (9223372036854775783 : Int) ≠ 0 by decide)
    have b1 := Int.emod_lt_of_pos (A * A) (show (0 : Int) < 9223372036854775783 by decide)
    generalize A * A % 9223372036854775783 = B at b0 b1 ⊢
    refine ⟨.int B, rfl, .int B, rfl, B, 65521, rfl, rfl, (by show (0 : Int) < _; decide), _, 1, rfl, rfl, B, _, rfl, rfl, .inl ⟨by omega, by omega⟩, _, 9223372036854775783, rfl, rfl, (by show (0 : Int) < _; decide), _, 8192, rfl, rfl, cdiv (by decide) (by decide), .int m, rfl, _, m, rfl, rfl, hm0, ?_⟩
    exact fin H2 gr sm (dn + 1) _ y1 hs0 hs1 (by omega) (by omega) y2 (Int.emod_nonneg _ (by omega)) (Int.emod_lt_of_pos _ hm0)
/-- a row as it is taken -/
structure RowC (l : SRow) : Prop where
  i : Inc l
  n : l.length ≤ 64
  b : ∀ i, i < l.length → 0 ≤ pl l i ∧ pl l i ≤ 10000000000000 ∧ 1 ≤ ht l i ∧ ht l i ≤ 10000000000000
theorem sz_rowC {l : SRow} (h : RowC l) : Sz (rowD l) 2 (4 + 64 * (4 + 2 * (1922 + 2) + 2)) := by
  refine Sz.tup (fun x hx => ?_) (by rw [List.length_map]; exact h.n)
  obtain ⟨p, hp, rfl⟩ := List.mem_map.mp hx
  obtain ⟨i, hi, e1, e2⟩ := row_mem hp
  have := h.b i hi
  exact Sz.pair (Sz.int' ⟨by omega, by omega⟩) (Sz.int' ⟨by omega, by omega⟩)
structure RowG (l : SRow) (w pp : Int) : Prop where
  inc : ∀ i j, i < j → j < l.length → pl l i < pl l j
  lt : ∀ i, i < l.length → pl l i < pp
  b : ∀ i, i < l.length → 0 ≤ pl l i ∧ pl l i ≤ w + i * w ∧ 1 ≤ ht l i ∧ ht l i ≤ 10000000000000
theorem plA {l : SRow} {p : Int × Int} {i : Nat} (h : i < l.length) : pl (l ++ [p]) i = pl l i ∧ ht (l ++ [p]) i = ht l i := by
  unfold pl ht
  rw [List.getD_eq_getElem?_getD, List.getD_eq_getElem?_getD, List.getElem?_append_left h]
  exact ⟨rfl, rfl⟩
theorem plE {l : SRow} {p : Int × Int} : pl (l ++ [p]) l.length = p.1 ∧ ht (l ++ [p]) l.length = p.2 := by
  unfold pl ht
  rw [List.getD_eq_getElem?_getD, List.getElem?_append_right (Nat.le_refl _)]
  simp
theorem RowG.snoc {l : SRow} {w pp q h : Int} (r : RowG l w pp) (h0 : 0 ≤ pp) (h1 : pp ≤ w + l.length * w) (hq : pp < q) (h2 : 1 ≤ h) (h3 : h ≤ 10000000000000) : RowG (l ++ [(pp, h)]) w q := by
  refine ⟨fun i j a b => ?_, fun i a => ?_, fun i a => ?_⟩
  · rw [List.length_append, List.length_singleton] at b
    rw [(plA (p := (pp, h)) (show i < l.length by omega)).1]
    rcases Nat.lt_or_ge j l.length with c | c
    · rw [(plA c).1]; exact r.inc i j a c
    · have : j = l.length := by omega
      subst this
      rw [plE.1]
      exact r.lt i a
  · rw [List.length_append, List.length_singleton] at a
    rcases Nat.lt_or_ge i l.length with c | c
    · rw [(plA c).1]
      have := r.lt i c
      omega
    · have : i = l.length := by omega
      subst this
      rw [plE.1]
      exact hq
  · rw [List.length_append, List.length_singleton] at a
    rcases Nat.lt_or_ge i l.length with c | c
    · rw [(plA c).1, (plA c).2]
      exact r.b i c
    · have : i = l.length := by omega
      subst this
      rw [plE.1, plE.2]
      exact ⟨h0, h1, h2, h3⟩
theorem four_of {a b c d : PyData} {z : Int} (z0 : 0 ≤ z) (z1 : z < 4) : atI [a, b, c, d] z = some a ∨ atI [a, b, c, d] z = some b ∨ atI [a, b, c, d] z = some c ∨ atI [a, b, c, d] z = some d := by
  have : z = 0 ∨ z = 1 ∨ z = 2 ∨ z = 3 := by omega
  rcases this with rfl | rfl | rfl | rfl
  · exact .inl rfl
  · exact .inr (.inl rfl)
  · exact .inr (.inr (.inl rfl))
  · exact .inr (.inr (.inr rfl))
def mf__law_stones : MF := fun as R _ => ∃ n w : Int, as = [.cask, .d (.int n), .d (.int w)] ∧ 0 < n ∧ n ≤ 64 ∧ 0 < w ∧ w ≤ 100000000000 ∧ ∀ l, RowC l → (l.length : Int) ≤ n → R (.d (rowD l))
theorem d__law_stones {f : Addr} {fd : FuncData} (T : Txt K mg) (hm : mg "_law_stones" = some (.ref f)) (F0 : L2.Fun K "_law_stones" "_law_stones" s__law_stones f fd) (hb : Binds K fd ["_law_bag", "_law_bound", "_law_wide"] []) (F__law_take : DFn P w K mg base CK "_law_take" 1 1 2 mf__law_take) : DFn P w K mg base CK "_law_stones" 2 323 3 mf__law_stones :=
  (dfn_of hm F0 hb sc__law_stones (fun cdv A outer s H E cx =>
 (dss_cons (ds_par2 (i := 3) (j := 4) (by rfl) sc__law_stones.nd rfl rfl (by decide) rfl rfl (da_cons (de_add de_int (de_call cx F__law_take (by decide) (by rfl) (da_cons (de_pv 0) (da_cons (de_pv 1) da_nil)))) (da_cons (de_call cx F__law_take (by decide) (by rfl) (da_cons (de_pv 0) (da_cons de_int da_nil))) da_nil)) (by rfl))
 (dss_cons (ds_set (i := 5) sc__law_stones.nd rfl (by first | exact Or.inl rfl | exact Or.inr rfl) (de_ix (de_lst (da_cons de_int (da_cons de_int (da_cons de_int (da_cons (de_pv 2) da_nil))))) (de_pv 4)))
 (dss_cons (ds_par2 (i := 6) (j := 7) (by rfl) sc__law_stones.nd rfl rfl (by decide) rfl rfl (da_cons (de_lst da_nil) (da_cons (de_call cx F__law_take (by decide) (by rfl) (da_cons (de_pv 0) (da_cons (de_pv 5) da_nil))) da_nil)) (by rfl))
 (dss_cons (ds_forN 64 (Ctx.passes rfl) (by rfl) (di_range1 (by rfl) T.n_range (da_cons (de_pv 3) da_nil)) (dg_name (i := 8) sc__law_stones.nd rfl (by first | exact Or.inl rfl | exact Or.inr rfl)) (dss_cons (ds_set (i := 9) sc__law_stones.nd rfl (by first | exact Or.inl rfl | exact Or.inr rfl) (de_lst (da_cons de_int (da_cons (de_add de_int (de_call cx F__law_take (by decide) (by rfl) (da_cons (de_pv 0) (da_cons (de_pv 5) da_nil)))) (da_cons (de_add de_int (de_call cx F__law_take (by decide) (by rfl) (da_cons (de_pv 0) (da_cons (de_mul de_int (de_pv 5)) da_nil)))) (da_cons (de_add de_int (de_call cx F__law_take (by decide) (by rfl) (da_cons (de_pv 0) (da_cons (de_mul (de_pv 3) (de_pv 5)) da_nil)))) da_nil))))))
 (dss_cons (ds_mut PySem.F.slot_list_append PySem.F.type_list_append mt_append mut_app (pv 6) (da_cons (de_tup (da_cons (de_pv 7) (da_cons (de_ix (de_pv 9) (de_call cx F__law_take (by decide) (by rfl) (da_cons (de_pv 0) (da_cons de_int da_nil)))) da_nil))) da_nil))
 (dss_one (ds_set (i := 7) sc__law_stones.nd rfl (by first | exact Or.inl rfl | exact Or.inr rfl) (de_add (de_add (de_pv 7) de_int) (de_call cx F__law_take (by decide) (by rfl) (da_cons (de_pv 0) (da_cons (de_pv 5) da_nil)))))))))
 (dss_one (ds_ret (de_tupleC (by rfl) T.n_tuple (da_cons (de_pv 6) da_nil)))))))))
  (by
    rintro as R ex hl ⟨n, w, rfl, n0, n1, w0, w1, h⟩
    walk_at "dx"
    refine ⟨n, rfl, by omega, by omega, fun r r0 r1 => ?_⟩
    walk_at "dx"
    refine ⟨4, rfl, by decide, by decide, fun q q0 q1 => ?_⟩
    have q1 : q < 4 := q1
    walk_at "dx"
    refine ⟨by walk_at "lim", ?_⟩
    obtain ⟨t, ht, t0, t1⟩ : ∃ t : Int, atI [PyData.int 3, .int 9, .int 2, .int w] q = some (.int t) ∧ 1 ≤ t ∧ t ≤ 100000000000 := by
      rcases four_of (a := .int 3) (b := .int 9) (c := .int 2) (d := .int w) q0 q1 with e | e | e | e
      · exact ⟨3, e, by omega, by omega⟩
      · exact ⟨9, e, by omega, by omega⟩
      · exact ⟨2, e, by omega, by omega⟩
      · exact ⟨w, e, by omega, by omega⟩
    rw [ht]
    walk_at "dx"
    refine ⟨by walk_at "lim", t, rfl, by omega, by omega, fun z z0 z1 => ?_⟩
    refine ⟨rfl, by omega, by omega, by rw [rangeD_len]; omega, ?_⟩
    obtain ⟨nn, hnn⟩ : ∃ nn : Nat, (1 + r : Int) = (nn : Nat) := ⟨(1 + r).toNat, by omega⟩
    rw [hnn, Int.toNat_natCast]
    refine for_range (fun k δ => ∃ (l : SRow) (pp : Int) (a b : Option DV), δ = [some .cask, some (.d (.int n)), some (.d (.int w)), some (.d (.int (nn : Nat))), some (.d (.int q)), some (.d (.int t)), some (.own (l.map stD)), some (.d (.int pp)), a, b] ∧ l.length = k ∧ RowG l t pp ∧ 0 ≤ pp ∧ pp ≤ t + k * t) ⟨[], z, none, none, rfl, rfl, ⟨fun i j a b => by simp at b, fun i a => by simp at a, fun i a => by simp at a⟩, z0, by omega⟩ ?_ ?_
    · rintro δ ⟨l, pp, a, b, rfl, hk, hb, h0, h1⟩
      walk_at "dx"
      refine h l ⟨⟨by omega, by omega, hb.inc, fun i hi => by have := hb.b i hi; omega⟩, by omega, fun i hi => ?_⟩ (by omega)
      have h1 := hb.b i hi
      have h3 : (i : Int) * t ≤ 64 * 100000000000 := Int.mul_le_mul (by omega) t1 (by omega) (by decide)
      omega
    · rintro k δ K hk ⟨l, pp, a, b, rfl, hlk, hb, h0, h1⟩ hK
      have hsz : (l.map stD).length < sizeLine := by walk_at "lim"
      have hnt : (nn : Int) * t ≤ 64 * 100000000000 := Int.mul_le_mul (by omega) t1 (by omega) (by decide)
      have hnt0 : 0 < (nn : Int) * t := Int.mul_pos (by omega) (by omega)
      walk_at "dx"
      refine ⟨t, rfl, by omega, by omega, fun ra ra0 ra1 => ?_⟩
      walk_at "dx"
      refine ⟨.inl ⟨by decide, by decide⟩, 3 * t, rfl, by omega, by omega, fun rb rb0 rb1 => ?_⟩
      walk_at "dx"
      refine ⟨.inr ⟨by omega, by omega⟩, (nn : Int) * t, rfl, hnt0, by omega, fun rc rc0 rc1 => ?_⟩
      walk_at "dx"
      refine ⟨by walk_at "lim", 4, rfl, by decide, by decide, fun rd rd0 rd1 => ?_⟩
      have rd1 : rd < 4 := rd1
      obtain ⟨hh, hx, hh1, hh2⟩ : ∃ hh : Int, atI [PyData.int 1, .int (1 + ra), .int (1 + rb), .int (1 + rc)] rd = some (.int hh) ∧ 1 ≤ hh ∧ hh ≤ 10000000000000 := by
        rcases four_of (a := .int 1) (b := .int (1 + ra)) (c := .int (1 + rb)) (d := .int (1 + rc)) rd0 rd1 with e | e | e | e
        · exact ⟨1, e, by omega, by omega⟩
        · exact ⟨1 + ra, e, by omega, by omega⟩
        · exact ⟨1 + rb, e, by omega, by omega⟩
        · exact ⟨1 + rc, e, by omega, by omega⟩
      walk_at "dx"
      rw [hx]
      walk_at "dx"
      rw [if_pos hsz]
      refine ⟨by walk_at "lim", t, rfl, by omega, by omega, fun re re0 re1 => ?_⟩
      walk_at "dx"
      refine hK _ ⟨l ++ [(pp, hh)], pp + 1 + re, _, _, by rw [List.map_append]; rfl, by simp [hlk], hb.snoc h0 (by rw [hlk]; exact h1) (by omega) hh1 hh2, by omega, ?_⟩
      have e : ((k + 1 : Nat) : Int) * t = k * t + t := by push_cast; rw [Int.add_mul, Int.one_mul]
      rw [e]
      omega)).le (by decide +kernel)
theorem d__law_right {f : Addr} {fd : FuncData} (T : Txt K mg) (hm : mg "_law_right" = some (.ref f)) (F0 : L2.Fun K "_law_right" "_law_right" s__law_right f fd) (hb : Binds K fd ["_law_row", "_law_stone"] []) : DFn P w K mg base CK "_law_right" 1 0 2 mf__law_right :=
  (dfn_of hm F0 hb sc__law_right (fun cdv A outer s H E cx =>
 (dss_cons (ds_par2 (i := 2) (j := 3) (by rfl) sc__law_right.nd rfl rfl (by decide) rfl rfl (da_cons (de_add (de_ix (de_ix (de_pv 0) (de_pv 1)) de_int) (de_ix (de_ix (de_pv 0) (de_pv 1)) de_int)) (da_cons (de_pv 1) da_nil)) (by rfl))
 (dss_cons (ds_while (Ctx.passes rfl) (DW.dt (dw_and (dt_lt (de_add (de_pv 3) de_int) (de_len (by rfl) T.n_len (da_cons (de_pv 0) da_nil))) (dw_and1 (dt_le (de_ix (de_ix (de_pv 0) (de_add (de_pv 3) de_int)) de_int) (de_pv 2))))) (dss_cons (ds_set (i := 3) sc__law_right.nd rfl (by first | exact Or.inl rfl | exact Or.inr rfl) (de_add (de_pv 3) de_int))
 (dss_one (ds_set (i := 2) sc__law_right.nd rfl (by first | exact Or.inl rfl | exact Or.inr rfl) (de_max2 (by rfl) (by rfl) T.n_max (da_cons (de_pv 2) (da_cons (de_add (de_ix (de_ix (de_pv 0) (de_pv 3)) de_int) (de_ix (de_ix (de_pv 0) (de_pv 3)) de_int)) da_nil)))))))
 (dss_one (ds_ret (de_pv 3))))))
  (by
    rintro as R ex hl ⟨l, s, rfl, I, hs, h⟩
    have hn1 := I.n1
    unfold rowD
    walk_at "dx"
    rw [row_at hs]
    walk_at "dx"
    refine ⟨fun n δ => ∃ (m : Nat) (r : Int), δ = [some (.d (.tuple (l.map stD))), some (.d (.int (s : Nat))), some (.d (.int r)), some (.d (.int (m : Nat)))] ∧ EndW l s m r ∧ n = l.length - m, ⟨_, s, _, rfl, .init hs, rfl⟩, ?_⟩
    rintro n δ ⟨m, r, rfl, E, rfl⟩
    have hm := E.lt
    walk_at "dx"
    rw [List.length_map]
    rw [show ((m : Nat) : Int) + 1 = ((m + 1 : Nat) : Int) by push_cast; rfl]
    refine ⟨fun c => ?_, fun c => ?_⟩
    · have hm1 : m + 1 < l.length := by omega
      rw [row_at hm1]
      walk_at "dx"
      refine ⟨fun c2 => ⟨l.length - (m + 1), by omega, m + 1, _, rfl, ?_, rfl⟩, fun c2 => ?_⟩
      · have := E.step hm1 c2
        have e : max r (pl l (m + 1) + ht l (m + 1)) = if pl l (m + 1) + ht l (m + 1) > r then pl l (m + 1) + ht l (m + 1) else r := by split <;> omega
        rw [e] at this
        exact this
      · rw [end_of I (E.end_ fun _ => by omega)] at h
        exact h
    · rw [end_of I (E.end_ fun z => absurd z (by omega))] at h
      exact h)).le (by decide +kernel)
theorem d__law_left {f : Addr} {fd : FuncData} (T : Txt K mg) (hm : mg "_law_left" = some (.ref f)) (F0 : L2.Fun K "_law_left" "_law_left" s__law_left f fd) (hb : Binds K fd ["_law_row", "_law_stone"] []) : DFn P w K mg base CK "_law_left" 1 0 2 mf__law_left :=
  (dfn_of hm F0 hb sc__law_left (fun cdv A outer s H E cx =>
 (dss_cons (ds_par2 (i := 2) (j := 3) (by rfl) sc__law_left.nd rfl rfl (by decide) rfl rfl (da_cons (de_sub (de_ix (de_ix (de_pv 0) (de_pv 1)) de_int) (de_ix (de_ix (de_pv 0) (de_pv 1)) de_int)) (da_cons (de_pv 1) da_nil)) (by rfl))
 (dss_cons (ds_while (Ctx.passes rfl) (DW.dt (dw_and (dt_gt (de_pv 3) de_int) (dw_and1 (dt_ge (de_ix (de_ix (de_pv 0) (de_sub (de_pv 3) de_int)) de_int) (de_pv 2))))) (dss_cons (ds_set (i := 3) sc__law_left.nd rfl (by first | exact Or.inl rfl | exact Or.inr rfl) (de_sub (de_pv 3) de_int))
 (dss_one (ds_set (i := 2) sc__law_left.nd rfl (by first | exact Or.inl rfl | exact Or.inr rfl) (de_min2 (by rfl) (by rfl) T.n_min (da_cons (de_pv 2) (da_cons (de_sub (de_ix (de_ix (de_pv 0) (de_pv 3)) de_int) (de_ix (de_ix (de_pv 0) (de_pv 3)) de_int)) da_nil)))))))
 (dss_one (ds_ret (de_pv 3))))))
  (by
    rintro as R ex hl ⟨l, s, rfl, I, hs, h⟩
    have hn1 := I.n1
    unfold rowD
    walk_at "dx"
    rw [row_at hs]
    walk_at "dx"
    refine ⟨fun n δ => ∃ (m : Nat) (r : Int), δ = [some (.d (.tuple (l.map stD))), some (.d (.int (s : Nat))), some (.d (.int r)), some (.d (.int (m : Nat)))] ∧ StaW l s m r ∧ n = m, ⟨_, s, _, rfl, .init hs, rfl⟩, ?_⟩
    rintro n δ ⟨m, r, rfl, E, hnm⟩
    have hm := E.le
    subst hnm
    cases n with
    | zero =>
      walk_at "dx"
      rw [start_of I (E.end_ fun z => absurd z (by omega))] at h
      exact ⟨fun c => absurd c (by omega), fun _ => h⟩
    | succ m =>
      have hml : m < l.length := by omega
      walk_at "dx"
      rw [show ((m + 1 : Nat) : Int) - 1 = (m : Nat) by push_cast; omega, row_at hml]
      walk_at "dx"
      refine ⟨fun c => ⟨fun c2 => ⟨m, by omega, m, _, rfl, ?_, rfl⟩, fun c2 => ?_⟩, fun c => absurd c (by omega)⟩
      · have := E.step c2
        have e : min r (pl l m - ht l m) = if pl l m - ht l m < r then pl l m - ht l m else r := by split <;> omega
        rw [e] at this
        exact this
      · rw [start_of I (E.end_ fun _ => by rw [Nat.add_sub_cancel]; omega)] at h
        exact h)).le (by decide +kernel)
theorem d__law_pushes {f : Addr} {fd : FuncData} (T : Txt K mg) (hm : mg "_law_pushes" = some (.ref f)) (F0 : L2.Fun K "_law_pushes" "_law_pushes" s__law_pushes f fd) (hb : Binds K fd ["_law_row"] []) : DFn P w K mg base CK "_law_pushes" 1 0 1 mf__law_pushes :=
  (dfn_of hm F0 hb sc__law_pushes (fun cdv A outer s H E cx =>
 (dss_cons (ds_set (i := 1) sc__law_pushes.nd rfl (by first | exact Or.inl rfl | exact Or.inr rfl) (de_lst da_nil))
 (dss_cons (ds_for (Ctx.passes rfl) (by rfl) (di_range1 (by rfl) T.n_range (da_cons (de_len (by rfl) T.n_len (da_cons (de_pv 0) da_nil)) da_nil)) (dg_name (i := 2) sc__law_pushes.nd rfl (by first | exact Or.inl rfl | exact Or.inr rfl)) (dss_one (ds_mut PySem.F.slot_list_extend PySem.F.type_list_extend mt_extend mut_ext (pv 1) (da_cons (de_lst (da_cons (de_tup (da_cons (de_pv 2) (da_cons de_str da_nil))) (da_cons (de_tup (da_cons (de_pv 2) (da_cons de_str da_nil))) da_nil))) da_nil))))
 (dss_one (ds_ret (de_pv 1))))))
  (by
    rintro as R ex hl ⟨l, rfl, hn, h⟩
    have hlen : oLen (.d (rowD l)) = fun R => R (.d (.int l.length)) := by
      unfold rowD
      funext R
      walk_at "dx"
      rw [List.length_map]
    walk_at "dx"
    rw [hlen]
    walk_at "dx"
    refine ⟨by walk_at "lim", by omega, by omega, ?_⟩
    refine for_range (fun k δ => ∃ a2 : Option DV, δ = [some (.d (rowD l)), some (.own (pushL k)), a2]) ⟨none, rfl⟩ ?_ ?_
    · rintro δ ⟨a2, rfl⟩
      walk_at "dx"
      exact h
    · rintro s δ K hs ⟨a2, rfl⟩ hK
      have hs : s < l.length := by omega
      walk_at "dx"
      rw [if_pos (show (pushL s).length + 2 ≤ sizeLine from by rw [pushL_len]; walk_at "lim")]
      exact ⟨by walk_at "lim", by walk_at "lim", by walk_at "lim", hK _ ⟨_, by rw [pushL_succ]; rfl⟩⟩)).le (by decide +kernel)
theorem d__law_ends {f : Addr} {fd : FuncData} (T : Txt K mg) (hm : mg "_law_ends" = some (.ref f)) (F0 : L2.Fun K "_law_ends" "_law_ends" s__law_ends f fd) (hb : Binds K fd ["_law_row"] []) (F__law_left : DFn P w K mg base CK "_law_left" 1 0 2 mf__law_left) (F__law_right : DFn P w K mg base CK "_law_right" 1 0 2 mf__law_right) : DFn P w K mg base CK "_law_ends" 2 0 1 mf__law_ends :=
  (dfn_of hm F0 hb sc__law_ends (fun cdv A outer s H E cx =>
 (dss_cons (ds_set (i := 1) sc__law_ends.nd rfl (by first | exact Or.inl rfl | exact Or.inr rfl) (de_lst da_nil))
 (dss_cons (ds_for (Ctx.passes rfl) (by rfl) (di_range1 (by rfl) T.n_range (da_cons (de_len (by rfl) T.n_len (da_cons (de_pv 0) da_nil)) da_nil)) (dg_name (i := 2) sc__law_ends.nd rfl (by first | exact Or.inl rfl | exact Or.inr rfl)) (dss_one (ds_mut PySem.F.slot_list_extend PySem.F.type_list_extend mt_extend mut_ext (pv 1) (da_cons (de_lst (da_cons (de_lst (da_cons (de_call cx F__law_left (by decide) (by rfl) (da_cons (de_pv 0) (da_cons (de_pv 2) da_nil))) (da_cons (de_pv 2) da_nil))) (da_cons (de_lst (da_cons (de_pv 2) (da_cons (de_call cx F__law_right (by decide) (by rfl) (da_cons (de_pv 0) (da_cons (de_pv 2) da_nil))) da_nil))) da_nil))) da_nil))))
 (dss_one (ds_ret (de_pv 1))))))
  (by
    rintro as R ex hl ⟨l, rfl, I, hn, h⟩
    have hlen : oLen (.d (rowD l)) = fun R => R (.d (.int l.length)) := by
      unfold rowD
      funext R
      walk_at "dx"
      rw [List.length_map]
    walk_at "dx"
    rw [hlen]
    walk_at "dx"
    refine ⟨by walk_at "lim", by walk_at "lim", by walk_at "lim", ?_⟩
    refine for_range (fun k δ => ∃ a2 : Option DV, δ = [some (.d (rowD l)), some (.own (endsL l k)), a2]) ⟨none, rfl⟩ ?_ ?_
    · rintro δ ⟨a2, rfl⟩
      walk_at "dx"
      exact h
    · rintro s δ K hs ⟨a2, rfl⟩ hK
      have hs : s < l.length := by omega
      walk_at "dx"
      refine ⟨l, s, rfl, I, hs, ?_⟩
      walk_at "dx"
      refine ⟨by walk_at "lim", l, s, rfl, I, hs, ?_⟩
      walk_at "dx"
      rw [if_pos (show (endsL l s).length + 2 ≤ sizeLine from by rw [endsL_len]; walk_at "lim")]
      exact ⟨by walk_at "lim", by walk_at "lim", hK _ ⟨_, by rw [endsL_succ]; rfl⟩⟩)).le (by decide +kernel)
def mf__law_whole : MF := fun as R _ => ∃ (v : PyData) (lo hi : Int), as = [.d v, .d (.int lo), .d (.int hi)] ∧ R (.d (.bool (isInt v lo hi)))
theorem d__law_whole {f : Addr} {fd : FuncData} (T : Txt K mg) (hm : mg "_law_whole" = some (.ref f)) (F0 : L2.Fun K "_law_whole" "_law_whole" s__law_whole f fd) (hb : Binds K fd ["_law_value", "_law_low", "_law_high"] []) : DFn P w K mg base CK "_law_whole" 1 0 3 mf__law_whole :=
  (dfn_of hm F0 hb sc__law_whole (fun cdv A outer s H E cx =>
 (dss_one (ds_ret (de_and (de_isi (by rfl) T.n_isinstance (da_cons (de_pv 0) (da_cons (de_ty (T := "int") (by rfl) T.n_int (by decide +kernel)) da_nil))) (de_and (de_not (de_isi (by rfl) T.n_isinstance (da_cons (de_pv 0) (da_cons (de_ty (T := "bool") (by rfl) T.n_bool (by decide +kernel)) da_nil)))) (de_one (de_ch op_le op_le (de_pv 1) (de_pv 0) (de_pv 2))))))))
  (by
    rintro as R ex hl ⟨v, lo, hi, rfl, h⟩
    walk_at "dl"
    refine ⟨by decide, fun c => ⟨by decide, fun c2 => ?_, fun c2 => ?_⟩, fun c => ?_⟩
    · cases v with
      | int i =>
        walk_at "dl"
        refine if_dec (fun c3 => ?_) fun c3 => ?_
        · have e : isInt (.int i) lo hi = decide (i ≤ hi) := by simp [isInt, c3]
          rw [e] at h; exact h
        · have e : isInt (.int i) lo hi = false := by simp [isInt, c3]
          rw [e] at h; exact h
      | bool b => simp [isTy] at c2
      | none => simp [isTy] at c
      | str _ => simp [isTy] at c
      | list _ => simp [isTy] at c
      | tuple _ => simp [isTy] at c
      | dict _ => simp [isTy] at c
    · cases v with
      | int i => simp [isTy] at c2
      | bool b => exact h
      | none => simp [isTy] at c
      | str _ => simp [isTy] at c
      | list _ => simp [isTy] at c
      | tuple _ => simp [isTy] at c
      | dict _ => simp [isTy] at c
    · cases v with
      | int i => simp [isTy] at c
      | bool b => exact h
      | none => exact h
      | str _ => exact h
      | list _ => exact h
      | tuple _ => exact h
      | dict _ => exact h)).le (by decide +kernel)
/-- a text in a push can be compared -/
def PushArg (v : PyData) : Prop := ∀ a x, v = .tuple [a, .str x] → SeqAt.shaped (.str x) = true
/-- what can be asked whether it is pushes -/
def PushTup (v : PyData) : Prop := ∀ xs, v = .tuple xs → xs.length ≤ 76 ∧ ∀ x ∈ xs, PushArg x
def pushesV (n : Nat) (v : PyData) : Bool := match v with
  | .tuple xs => xs.all (isPush n)
  | _ => false
/-- the pushes that are meant -/
def psOf (xs : List PyData) : List (Nat × Bool) := xs.map fun x => match x with
  | .tuple [.int i, .str s] => (i.toNat, decide (s = "right"))
  | _ => (0, false)
theorem push_shape {n : Nat} {v : PyData} (h : isPush n v = true) : ∃ p : Nat × Bool, p.1 < n ∧ v = pushOf p := by
  unfold isPush at h
  split at h
  · rename_i a b
    rw [Bool.and_eq_true] at h
    obtain ⟨h1, h2⟩ := h
    cases a with
    | int i =>
      simp only [isInt, Bool.and_eq_true, decide_eq_true_eq] at h1
      cases b with
      | str x =>
        simp only [isSide, Bool.or_eq_true, decide_eq_true_eq] at h2
        rcases h2 with rfl | rfl
        · exact ⟨(i.toNat, false), by show i.toNat < n; omega, by show _ = PyData.tuple [.int ((i.toNat : Nat) : Int), .str "left"]; rw [show ((i.toNat : Nat) : Int) = i by omega]⟩
        · exact ⟨(i.toNat, true), by show i.toNat < n; omega, by show _ = PyData.tuple [.int ((i.toNat : Nat) : Int), .str "right"]; rw [show ((i.toNat : Nat) : Int) = i by omega]⟩
      | _ => cases h2
    | _ => cases h1
  · cases h
theorem push_is {n : Nat} {p : Nat × Bool} (h : p.1 < n) : isPush n (pushOf p) = true := by
  obtain ⟨s, b⟩ := p
  have h : s < n := h
  show (isInt (.int (s : Nat)) 0 ((n : Nat) - 1) && isSide (.str (sideOf b))) = true
  rw [Bool.and_eq_true]
  refine ⟨by simp only [isInt, Bool.and_eq_true, decide_eq_true_eq]; omega, ?_⟩
  cases b <;> decide +kernel
theorem ps_of : ∀ {ps : List (Nat × Bool)}, psOf (ps.map pushOf) = ps
  | [] => rfl
  | (s, b) :: ps => by
    have ih := ps_of (ps := ps)
    unfold psOf at ih ⊢
    rw [List.map_cons, List.map_cons, ih]
    show (((s : Nat) : Int).toNat, decide (sideOf b = "right")) :: ps = _
    rw [Int.toNat_natCast, show decide (sideOf b = "right") = b by cases b <;> decide +kernel]
theorem all_push {n : Nat} : ∀ {xs : List PyData}, xs.all (isPush n) = true → ∃ ps : List (Nat × Bool), xs = ps.map pushOf ∧ ∀ p ∈ ps, p.1 < n
  | [], _ => ⟨[], rfl, fun p hp => absurd hp (List.not_mem_nil)⟩
  | x :: xs, h => by
    rw [List.all_cons, Bool.and_eq_true] at h
    obtain ⟨p, h1, rfl⟩ := push_shape h.1
    obtain ⟨ps, rfl, h2⟩ := all_push h.2
    exact ⟨p :: ps, rfl, fun q hq => (List.mem_cons.mp hq).elim (fun e => e ▸ h1) (h2 q)⟩
theorem tups_ps : ∀ ps : List (Nat × Bool), tupsL (ps.map pushOf) = some (ps.map fun p => [.inl ((p.1 : Nat) : Int), .inr (sideOf p.2)])
  | [] => rfl
  | p :: ps => by
    rw [List.map_cons, List.map_cons]
    unfold pushOf
    show (match keyL [.int ((p.1 : Nat) : Int), .str (sideOf p.2)], tupsL (ps.map pushOf) with
      | some k, some ks => some (k :: ks)
      | _, _ => none) = _
    rw [tups_ps ps, keyL_i, keyL_s, keyL_nil]
    rfl
theorem keys_nd {ps : List (Nat × Bool)} : ((ps.map fun p => ([.inl ((p.1 : Nat) : Int), .inr (sideOf p.2)] : List Key))).Nodup ↔ ps.Nodup := by
  constructor
  · intro h
    exact List.Pairwise.of_map _ (fun a b hne e => hne (by rw [e])) h
  · intro h
    refine List.Pairwise.map _ (fun a b hne e => hne ?_) h
    obtain ⟨s, b1⟩ := a
    obtain ⟨t, b2⟩ := b
    have e1 := List.cons.inj e
    have e2 := List.cons.inj e1.2
    have e3 : ((s : Nat) : Int) = (t : Nat) := Sum.inl.inj e1.1
    have e4 : sideOf b1 = sideOf b2 := Sum.inr.inj e2.1
    have e5 : b1 = b2 := by cases b1 <;> cases b2 <;> first | rfl | exact absurd e4 (by decide +kernel)
    rw [e5, show s = t by omega]
/-- the stones all lie, no push twice -/
noncomputable def coverB (l : SRow) (ps : List (Nat × Bool)) : Bool := decide ps.Nodup && (List.range l.length).all (covB (spansP l ps))
/-- any value: is it a cover? -/
noncomputable def coverV (l : SRow) (v : PyData) : Bool := match v with
  | .tuple xs => xs.all (isPush l.length) && coverB l (psOf xs)
  | _ => false
theorem side_any (x : Str) : (([.str "left", .str "right"] : List PyData).any fun z => PyData.eqv z (.str x)) = isSide (.str x) := by
  simp only [List.any_cons, List.any_nil, Bool.or_false, PyData.eqv, isSide]
  have e1 : ∀ a : Str, (a == x) = decide (x = a) := fun a => by
    by_cases q : a = x
    · subst q; simp
    · have q' : ¬ x = a := fun z => q z.symm
      simp [q, q']
  rw [e1, e1]
def mf__law_is_push : MF := fun as R _ => ∃ (l : SRow) (v : PyData), as = [.d (rowD l), .d v] ∧ PushArg v ∧ R (.d (.bool (isPush l.length v)))
theorem d__law_is_push {f : Addr} {fd : FuncData} (T : Txt K mg) (hm : mg "_law_is_push" = some (.ref f)) (F0 : L2.Fun K "_law_is_push" "_law_is_push" s__law_is_push f fd) (hb : Binds K fd ["_law_row", "_law_value"] []) (F__law_whole : DFn P w K mg base CK "_law_whole" 1 0 3 mf__law_whole) : DFn P w K mg base CK "_law_is_push" 2 0 2 mf__law_is_push :=
  (dfn_of hm F0 hb sc__law_is_push (fun cdv A outer s H E cx =>
 (dss_cons (ds_if (DW.dt (dw_or (dt_not (dt_val (de_isi (by rfl) T.n_isinstance (da_cons (de_pv 1) (da_cons (de_ty (T := "tuple") (by rfl) T.n_tuple (by decide +kernel)) da_nil))))) (dw_or (dt_ne cx.u (de_len (by rfl) T.n_len (da_cons (de_pv 1) da_nil)) de_int) (dw_or1 (dt_not (dt_val (de_isi (by rfl) T.n_isinstance (da_cons (de_ix (de_pv 1) de_int) (da_cons (de_ty (T := "str") (by rfl) T.n_str (by decide +kernel)) da_nil))))))))) (dss_one (ds_ret de_bl)) dss_nil)
 (dss_one (ds_ret (de_and (de_call cx F__law_whole (by decide) (by rfl) (da_cons (de_ix (de_pv 1) de_int) (da_cons de_int (da_cons (de_sub (de_len (by rfl) T.n_len (da_cons (de_pv 0) da_nil)) de_int) da_nil)))) (de_one (de_in cx.u (de_ix (de_pv 1) de_int) (de_lst (da_cons de_str (da_cons de_str da_nil))))))))))
  (by
    rintro as R ex hl ⟨l, v, rfl, hv, h⟩
    unfold rowD
    walk_at "dx"
    refine ⟨by decide, fun c => ?_, fun c => ?_⟩
    · cases v with
      | tuple xs => simp [isTy] at c
      | _ => exact h
    · cases v with
      | tuple xs =>
        match xs, hv, h with
        | [a, b], hv, h =>
          walk_at "dx"
          refine ⟨fun z => absurd rfl z, fun _ => ⟨by decide, fun c1 => ?_, fun c1 => ?_⟩⟩
          · have e : isPush l.length (.tuple [a, b]) = false := by
              cases b with
              | str y => simp [isTy] at c1
              | _ => simp only [isPush, isSide, Bool.and_false]
            rw [e] at h
            exact h
          · refine ⟨a, 0, _, rfl, ?_⟩
            rw [show ((l.map stD).length : Int) - 1 = (l.length : Nat) - 1 by simp]
            cases b with
            | str y =>
              cases hi : isInt a 0 ((l.length : Nat) - 1) with
              | true =>
                have e : isPush l.length (.tuple [a, .str y]) = isSide (.str y) := by simp only [isPush, hi, Bool.true_and]
                rw [e] at h
                walk_at "dx"
                rw [side_any]
                exact ⟨by walk_at "lim", hv _ y rfl, by decide +kernel, h⟩
              | false =>
                have e : isPush l.length (.tuple [a, .str y]) = false := by simp only [isPush, hi, Bool.false_and]
                rw [e] at h
                walk_at "dx"
                exact h
            | _ => simp [isTy] at c1
        | [], _, h =>
          walk_at "dx"
          exact ⟨fun _ => h, fun z => by cases z⟩
        | [a], _, h =>
          walk_at "dx"
          exact ⟨fun _ => h, fun z => by cases z⟩
        | a :: b :: d :: r, _, h =>
          walk_at "dx"
          exact ⟨fun _ => h, fun z => by omega⟩
      | _ => simp [isTy] at c)).le (by decide +kernel)
theorem d__law_felled {f : Addr} {fd : FuncData} (T : Txt K mg) (hm : mg "_law_felled" = some (.ref f)) (F0 : L2.Fun K "_law_felled" "_law_felled" s__law_felled f fd) (hb : Binds K fd ["_law_row", "_law_cover"] []) (F__law_pushes : DFn P w K mg base CK "_law_pushes" 1 0 1 mf__law_pushes) (F__law_ends : DFn P w K mg base CK "_law_ends" 2 0 1 mf__law_ends) : DFn P w K mg base CK "_law_felled" 3 0 2 mf__law_felled :=
  (dfn_of hm F0 hb sc__law_felled (fun cdv A outer s H E cx =>
 (dss_cons (ds_tup3 (i := 2) (j := 3) (l := 4) (by rfl) sc__law_felled.nd rfl rfl rfl (by decide) (by decide) (by decide) (by first | exact Or.inl rfl | exact Or.inr rfl) (by first | exact Or.inl rfl | exact Or.inr rfl) (by first | exact Or.inl rfl | exact Or.inr rfl) (da_cons (de_call cx F__law_pushes (by decide) (by rfl) (da_cons (de_pv 0) da_nil)) (da_cons (de_call cx F__law_ends (by decide) (by rfl) (da_cons (de_pv 0) da_nil)) (da_cons (de_lst da_nil) da_nil))))
 (dss_cons (ds_setLc (i := 5) (own := [("_law_push", 6)]) (dom := [6]) (by rfl) sc__law_felled.nd rfl rfl (sw_true rfl rfl rfl (by decide +kernel)) (di_tup (de_pv 1)) (blkOk_by (by kernel_rfl)) (by decide) (fun _ _ _ _ _ => (dg_name (i := 6) sc__law_felled.nd rfl (by first | exact Or.inl rfl | exact Or.inr rfl))) (fun _ _ _ _ _ => dts_nil) (fun _ _ _ _ _ => (de_ix (de_pv 3) (de_index cx.blk.u (de_pv 2) (da_cons (de_pv 6) da_nil)))))
 (dss_cons (ds_for (Ctx.passes rfl) (by rfl) (di_range1 (by rfl) T.n_range (da_cons (de_len (by rfl) T.n_len (da_cons (de_pv 0) da_nil)) da_nil)) (dg_name (i := 7) sc__law_felled.nd rfl (by first | exact Or.inl rfl | exact Or.inr rfl)) (dss_one (ds_if (dt_ne cx.u (de_lc (own := [("_law_low", 8), ("_law_high", 9)]) (dom := [8, 9]) (by rfl) sc__law_felled.nd (di_list (de_pv 5)) (blkOk_by (by kernel_rfl)) (by decide) (fun _ _ _ _ _ => (dg_lst (by rfl) (dgs_cons (dg_name (i := 8) sc__law_felled.nd rfl (by first | exact Or.inl rfl | exact Or.inr rfl)) (dgs_cons (dg_name (i := 9) sc__law_felled.nd rfl (by first | exact Or.inl rfl | exact Or.inr rfl)) dgs_nil)))) (fun _ _ _ _ _ => (dts_one (dt_ch op_le op_le (de_pv 8) (de_pv 7) (de_pv 9)))) (fun _ _ _ _ _ => (de_pv 8))) (de_lst da_nil)) (dss_one (ds_mut PySem.F.slot_list_append PySem.F.type_list_append mt_append mut_app (pv 4) (da_cons (de_pv 7) da_nil))) dss_nil)))
 (dss_one (ds_ret (de_pv 4)))))))
  (by
    rintro as R ex hl ⟨l, ps, rfl, I, hn, hpl, hps, h⟩
    have hlen : oLen (.d (rowD l)) = fun R => R (.d (.int l.length)) := by
      unfold rowD
      funext R
      walk_at "dx"
      rw [List.length_map]
    walk_at "dx"
    refine ⟨l, rfl, hn, l, rfl, I, hn, ?_⟩
    refine ⟨by walk_at "lim", rfl, rfl, ?_⟩
    refine lc_ind (fun d => match d with
      | .tuple [.int a, .str x] => some (spD2 (spanOf l (a.toNat, decide (x = "right"))))
      | _ => none) _ _ (fun d hd K1 K0 q1 q0 => ?_) (by rw [List.length_map]; walk_at "lim") ?_
    · obtain ⟨p, hp, rfl⟩ := List.mem_map.mp hd
      have hpn := hps p hp
      have hq : (match pushOf p with
        | .tuple [.int a, .str x] => some (spD2 (spanOf l (a.toNat, decide (x = "right"))))
        | _ => none) = some (spD2 (spanOf l p)) := by
        show some (spD2 (spanOf l (Int.toNat (p.1 : Nat), decide (sideOf p.2 = "right")))) = _
        rw [Int.toNat_natCast, show decide (sideOf p.2 = "right") = p.2 by cases p.2 <;> decide +kernel]
      walk_at "dx"
      refine ⟨rfl, (shp_pushL _).shaped, (shp_push p).shaped, posOf p, _, pushL_get hpn, by rw [push_eqv]; exact decide_eq_true rfl, pushL_index hpn, ?_⟩
      rw [atI_nat (endsL_get hpn)]
      exact q1 _ hq
    · rw [show (ps.map pushOf).filterMap (fun d => match d with
        | .tuple [.int a, .str x] => some (spD2 (spanOf l (a.toNat, decide (x = "right"))))
        | _ => none) = (spansP l ps).map spD2 by
        unfold spansP
        rw [List.filterMap_map, List.map_map, ← List.filterMap_eq_map]
        refine fm_congr fun p _ => ?_
        show some (spD2 (spanOf l (Int.toNat (p.1 : Nat), decide (sideOf p.2 = "right")))) = _
        rw [Int.toNat_natCast, show decide (sideOf p.2 = "right") = p.2 by cases p.2 <;> decide +kernel]
        rfl, List.nil_append]
      refine ⟨rfl, ?_⟩
      rw [hlen]
      walk_at "dx"
      refine ⟨by omega, by omega, ?_⟩
      refine for_range (fun k δ => ∃ (a6 a7 a8 a9 : Option DV), δ = [some (.d (rowD l)), some (.d (.tuple (ps.map pushOf))), some (.d (.list (pushL l.length))), some (.d (.list (endsL l l.length))), some (.own (((List.range k).filter (covB (spansP l ps))).map natD)), some (.own ((spansP l ps).map spD2)), a6, a7, a8, a9]) ⟨_, _, _, _, rfl⟩ ?_ ?_
      · rintro δ ⟨a6, a7, a8, a9, rfl⟩
        walk_at "dx"
        exact h
      · rintro k δ K hk ⟨a6, a7, a8, a9, rfl⟩ hK
        walk_at "dx"
        refine lc_ind (onCov k) _ _ (fun d hd K1 K0 q1 q0 => ?_) (by unfold spansP; rw [List.length_map, List.length_map]; simp only [List.length_nil]; walk_at "lim") ?_
        · obtain ⟨q, hq, rfl⟩ := List.mem_map.mp hd
          unfold spD2 at q1 q0 ⊢
          walk_at "dx"
          refine ⟨fun c1 => ⟨fun c2 => q1 _ ?_, fun c2 => q0 ?_⟩, fun c1 => q0 ?_⟩
          · show (if _ then _ else _) = _
            rw [decide_eq_true c1, decide_eq_true c2]; rfl
          · show (if _ then _ else _) = _
            rw [decide_eq_false c2, Bool.and_false]; rfl
          · show (if _ then _ else _) = _
            rw [decide_eq_false c1, Bool.false_and]; rfl
        · rw [cov_lc, List.nil_append]
          have hsz : (List.map natD (List.filter (covB (spansP l ps)) (List.range k))).length < sizeLine := by
            rw [List.length_map]
            have := List.length_filter_le (covB (spansP l ps)) (List.range k)
            rw [List.length_range] at this
            walk_at "lim"
          have hst : (List.range (k + 1)).filter (covB (spansP l ps)) = (List.range k).filter (covB (spansP l ps)) ++ if covB (spansP l ps) k then [k] else [] := by
            rw [List.range_succ, List.filter_append]
            cases h : covB (spansP l ps) k <;> simp [h]
          rw [if_pos hsz]
          walk_at "dx"
          refine ⟨by walk_at "lim", shaped_nats _, ?_⟩
          cases hc : covB (spansP l ps) k with
          | false =>
            rw [hc] at hst
            rw [cov_nil.mp hc]
            rw [show PyData.eqv (.list ((([] : List (Nat × Nat)).map (·.1)).map natD)) (.list []) = true by decide +kernel]
            refine ⟨fun z => (by cases z), fun _ => hK _ ⟨_, _, _, _, by rw [hst, if_neg (by decide), List.append_nil]⟩⟩
          | true =>
            rw [hc] at hst
            have hne : ((spansP l ps).filter fun q => decide (q.1 ≤ k) && decide (k ≤ q.2)) ≠ [] := fun z => by rw [cov_nil.mpr z] at hc; cases hc
            rw [show PyData.eqv (.list ((((spansP l ps).filter fun q => decide (q.1 ≤ k) && decide (k ≤ q.2)).map (·.1)).map natD)) (.list []) = false by
              cases q : ((spansP l ps).filter fun q => decide (q.1 ≤ k) && decide (k ≤ q.2)) with
              | nil => exact absurd q hne
              | cons _ _ => simp [PyData.eqv, PyData.eqvAll]]
            refine ⟨fun _ => hK _ ⟨_, _, _, _, by rw [hst, List.map_append]; rfl⟩, fun z => (by cases z)⟩)).le (by decide +kernel)
def mf__law_power : MF := fun as R _ => ∃ k : Nat, as = [.d (.int (k : Nat))] ∧ k ≤ 1000 ∧ R (.d (.int ((2 ^ k : Nat) : Int)))
theorem d__law_power {f : Addr} {fd : FuncData} (T : Txt K mg) (hm : mg "_law_power" = some (.ref f)) (F0 : L2.Fun K "_law_power" "_law_power" s__law_power f fd) (hb : Binds K fd ["_law_number"] []) : DFn P w K mg base CK "_law_power" 1 0 1 mf__law_power :=
  (dfn_of hm F0 hb sc__law_power (fun cdv A outer s H E cx =>
 (dss_cons (ds_set (i := 1) sc__law_power.nd rfl (by first | exact Or.inl rfl | exact Or.inr rfl) de_int)
 (dss_cons (ds_for (Ctx.passes rfl) (by rfl) (di_range1 (by rfl) T.n_range (da_cons (de_pv 0) da_nil)) (dg_name (i := 2) sc__law_power.nd rfl (by first | exact Or.inl rfl | exact Or.inr rfl)) (dss_one (ds_set (i := 1) sc__law_power.nd rfl (by first | exact Or.inl rfl | exact Or.inr rfl) (de_mul de_int (de_pv 1)))))
 (dss_one (ds_ret (de_pv 1))))))
  (by
    rintro as R ex hl ⟨k, rfl, hk, h⟩
    walk_at "dx"
    refine ⟨by omega, by omega, ?_⟩
    refine for_range (fun j δ => ∃ a2 : Option DV, δ = [some (.d (.int (k : Nat))), some (.d (.int ((2 ^ j : Nat) : Int))), a2]) ⟨none, rfl⟩ ?_ ?_
    · rintro δ ⟨a2, rfl⟩
      walk_at "dx"
      exact h
    · rintro j δ K hj ⟨a2, rfl⟩ hK
      walk_at "dx"
      rw [show (2 : Int) * ((2 ^ j : Nat) : Int) = ((2 ^ (j + 1) : Nat) : Int) by push_cast; rw [Int.pow_succ]; omega]
      exact ⟨.inl ⟨by decide, by decide⟩, hK _ ⟨_, rfl⟩⟩)).le (by decide +kernel)
def sumP (xs : List Nat) : Nat := (xs.map fun x => 2 ^ x).sum
/-- a span as bits -/
def maskN (q : Nat × Nat) : Nat := sumP ((List.range (q.2 + 1 - q.1)).map fun k => q.1 + k)
theorem sum_natI : ∀ {ks : List Nat}, (ks.map fun k : Nat => (k : Int)).sum = ((ks.sum : Nat) : Int)
  | [] => rfl
  | k :: ks => by rw [List.map_cons, List.sum_cons, List.sum_cons, sum_natI (ks := ks)]; push_cast; rfl
theorem fm_map {α β : Type} {f : α → Option β} {g : α → β} : ∀ {xs : List α}, (∀ x ∈ xs, f x = some (g x)) → xs.filterMap f = xs.map g
  | [], _ => rfl
  | x :: xs, h => by
    rw [List.filterMap_cons, h x (List.mem_cons_self ..), List.map_cons, fm_map fun y hy => h y (List.mem_cons_of_mem _ hy)]
theorem nInts (ks : List Nat) : ks.map natD = (ks.map fun k : Nat => (k : Int)).map PyData.int := by rw [List.map_map]; rfl
def mf__law_masks : MF := fun as R _ => ∃ l : SRow, as = [.d (rowD l)] ∧ Inc l ∧ l.length ≤ 64 ∧ R (.d (.list (((spN l).map maskN).map natD)))
theorem d__law_masks {f : Addr} {fd : FuncData} (T : Txt K mg) (hm : mg "_law_masks" = some (.ref f)) (F0 : L2.Fun K "_law_masks" "_law_masks" s__law_masks f fd) (hb : Binds K fd ["_law_row"] []) (F__law_ends : DFn P w K mg base CK "_law_ends" 2 0 1 mf__law_ends) (F__law_power : DFn P w K mg base CK "_law_power" 1 0 1 mf__law_power) : DFn P w K mg base CK "_law_masks" 3 0 1 mf__law_masks :=
  (dfn_of hm F0 hb sc__law_masks (fun cdv A outer s H E cx =>
 (dss_one (ds_ret (de_lc (own := [("_law_low", 2), ("_law_high", 3)]) (dom := [2, 3]) (by rfl) sc__law_masks.nd (di_list (de_call cx F__law_ends (by decide) (by rfl) (da_cons (de_pv 0) da_nil))) (blkOk_by (by kernel_rfl)) (by decide) (fun _ _ _ _ _ => (dg_lst (by rfl) (dgs_cons (dg_name (i := 2) sc__law_masks.nd rfl (by first | exact Or.inl rfl | exact Or.inr rfl)) (dgs_cons (dg_name (i := 3) sc__law_masks.nd rfl (by first | exact Or.inl rfl | exact Or.inr rfl)) dgs_nil)))) (fun _ _ _ _ _ => dts_nil) (fun _ _ _ _ _ => (de_sum (by rfl) (by rfl) T.n_sum (da_cons (de_lc (own := [("_law_stone", 1)]) (dom := [1]) (by rfl) sc__law_masks.nd (di_range2 (by rfl) T.n_range (da_cons (de_pv 2) (da_cons (de_add (de_pv 3) de_int) da_nil))) (blkOk_by (by kernel_rfl)) (by decide) (fun _ _ _ _ _ => (dg_name (i := 1) sc__law_masks.nd rfl (by first | exact Or.inl rfl | exact Or.inr rfl))) (fun _ _ _ _ _ => dts_nil) (fun _ _ _ _ _ => (de_call cx.blk.blk F__law_power (by decide) (by rfl) (da_cons (de_pv 1) da_nil)))) da_nil)))))))
  (by
    rintro as R ex hl ⟨l, rfl, I, hn, h⟩
    walk_at "dx"
    refine ⟨l, rfl, I, by omega, ?_⟩
    walk_at "dx"
    have hE : endsL l l.length = (spN l).map spD2 := endsL_map
    refine lc_ind (fun d => match d with
      | .list [.int a, .int b] => some (natD (maskN (a.toNat, b.toNat)))
      | _ => none) _ _ (fun d hd K1 K0 q1 q0 => ?_) (by rw [endsL_len]; simp only [List.length_nil]; walk_at "lim") ?_
    · rw [hE] at hd
      obtain ⟨q, hq, rfl⟩ := List.mem_map.mp hd
      have hb := sp_bd I hq
      have hq1 : (match spD2 q with
        | .list [.int a, .int b] => some (natD (maskN (a.toNat, b.toNat)))
        | _ => none) = some (natD (maskN q)) := rfl
      unfold spD2
      walk_at "dx"
      refine ⟨⟨by omega, by omega, by omega, by omega⟩, ?_⟩
      rw [show (((q.2 : Nat) : Int) + 1 - (q.1 : Nat)).toNat = q.2 + 1 - q.1 by omega]
      refine lc_ind (onInt fun i => some (natD (2 ^ i.toNat))) _ _ (fun d hd K1 K0 r1 r0 => ?_) (by rw [rangeD_len]; simp only [List.length_nil]; walk_at "lim") ?_
      · obtain ⟨k, hk, rfl⟩ := List.mem_map.mp hd
        have hk := List.mem_range.mp hk
        rw [show ((q.1 : Nat) : Int) + (k : Nat) = ((q.1 + k : Nat) : Int) by push_cast; rfl] at r1 ⊢
        walk_at "dx"
        exact ⟨q.1 + k, rfl, by omega, r1 _ rfl⟩
      · rw [show (rangeD (q.1 : Nat) (q.2 + 1 - q.1)).filterMap (onInt fun i => some (natD (2 ^ i.toNat))) = (((List.range (q.2 + 1 - q.1)).map fun k => q.1 + k).map fun x => 2 ^ x).map natD by
          unfold rangeD
          rw [List.filterMap_map, List.map_map, List.map_map]
          exact fm_map fun k _ => by
            show some (natD (2 ^ (Int.toNat ((q.1 : Nat) + (k : Nat))))) = some (natD (2 ^ (q.1 + k)))
            rw [show Int.toNat (((q.1 : Nat) : Int) + (k : Nat)) = q.1 + k by omega], List.nil_append, nInts]
        walk_at "dx"
        rw [intsOf_map]
        dsimp only
        rw [sum_natI]
        exact q1 _ hq1
    · rw [hE, show ((spN l).map spD2).filterMap (fun d => match d with
        | .list [.int a, .int b] => some (natD (maskN (a.toNat, b.toNat)))
        | _ => none) = ((spN l).map maskN).map natD by
        rw [List.filterMap_map, List.map_map]
        exact fm_map fun q _ => rfl, List.nil_append]
      exact h)).le (by decide +kernel)
/-- what can be asked for sameness with itself, of depth below n -/
def Alk : Nat → PyData → Prop
  | 0, _ => False
  | n + 1, .list xs => xs.length ≤ 1000 ∧ ∀ x ∈ xs, Alk n x
  | n + 1, .tuple xs => xs.length ≤ 1000 ∧ ∀ x ∈ xs, Alk n x
  | n + 1, .dict xs => xs = []
  | n + 1, _ => True
theorem alk_succ : ∀ (n : Nat) (x : PyData), Alk n x → Alk (n + 1) x
  | 0, _, h => h.elim
  | n + 1, .list xs, h => ⟨h.1, fun x hx => alk_succ n x (h.2 x hx)⟩
  | n + 1, .tuple xs, h => ⟨h.1, fun x hx => alk_succ n x (h.2 x hx)⟩
  | n + 1, .dict xs, h => h
  | n + 1, .none, _ => trivial
  | n + 1, .bool _, _ => trivial
  | n + 1, .int _, _ => trivial
  | n + 1, .str _, _ => trivial
theorem alk_mono {n m : Nat} {x : PyData} (h : n ≤ m) (hx : Alk n x) : Alk m x := by
  induction h with
  | refl => exact hx
  | step _ ih => exact alk_succ _ _ ih
def mf__law_same : Nat → MF := fun fu as R _ => ∃ x : PyData, as = [.d x, .d x] ∧ Alk fu x ∧ R (.d (.bool true))
theorem z__law_same : ∀ as R ex, ¬ (mf__law_same 0 as R ex) := fun as R ex h => by
  obtain ⟨x, _, h, _⟩ := h
  exact h
theorem eqk_b {b : Bool} {R : DV → Prop} (h : R (.d (.bool true))) : oEqK (.d (.bool b)) (.d (.bool b)) R := .inr (by
  walk_at "dx"
  rw [decide_eq_true trivial]
  exact h)
theorem eqk_i {b : Int} {R : DV → Prop} (h : R (.d (.bool true))) : oEqK (.d (.int b)) (.d (.int b)) R := .inr (by
  walk_at "dx"
  rw [decide_eq_true trivial]
  exact h)
theorem eqk_s {b : Str} {R : DV → Prop} (h : R (.d (.bool true))) : oEqK (.d (.str b)) (.d (.str b)) R := .inr (by
  walk_at "dx"
  rw [eqv_same]
  exact h)
theorem eqk_n {R : DV → Prop} (h : R (.d (.bool true))) : oEqK (.d .none) (.d .none) R := .inr (by
  walk_at "dx"
  exact h)
theorem st__law_same (fu : Nat) {f : Addr} {fd : FuncData} (T : Txt K mg) (hm : mg "_law_same" = some (.ref f)) (F0 : L2.Fun K "_law_same" "_law_same" s__law_same f fd) (hb : Binds K fd ["_law_one", "_law_other"] []) (F__law_same : DFn P w K mg base CK "_law_same" (2 + fu) 0 2 (mf__law_same fu)) : DFn P w K mg base CK "_law_same" (2 + fu + 1) 0 2 (mf__law_same (fu + 1)) :=
  (dfn_of hm F0 hb sc__law_same (fun cdv A outer s H E cx =>
 (dss_cons (ds_if (DW.dt (dw_and (dt_val (de_isi2 (T1 := "list") (T2 := "tuple") (by decide) (by decide) (by rfl) T.n_isinstance (de_pv 0) (by rfl) T.n_list (by decide +kernel) (by rfl) T.n_tuple (by decide +kernel))) (dw_and1 (dt_val (de_isi2 (T1 := "list") (T2 := "tuple") (by decide) (by decide) (by rfl) T.n_isinstance (de_pv 1) (by rfl) T.n_list (by decide +kernel) (by rfl) T.n_tuple (by decide +kernel)))))) (dss_cons (ds_if (DW.dt (dw_or (dt_ne cx.u (de_isi (by rfl) T.n_isinstance (da_cons (de_pv 0) (da_cons (de_ty (T := "list") (by rfl) T.n_list (by decide +kernel)) da_nil))) (de_isi (by rfl) T.n_isinstance (da_cons (de_pv 1) (da_cons (de_ty (T := "list") (by rfl) T.n_list (by decide +kernel)) da_nil)))) (dw_or1 (dt_ne cx.u (de_len (by rfl) T.n_len (da_cons (de_pv 0) da_nil)) (de_len (by rfl) T.n_len (da_cons (de_pv 1) da_nil)))))) (dss_one (ds_ret de_bl)) dss_nil)
 (dss_one (ds_ret (de_eq cx.u (de_lc (own := [("_law_k", 2)]) (dom := [2]) (by rfl) sc__law_same.nd (di_range1 (by rfl) T.n_range (da_cons (de_len (by rfl) T.n_len (da_cons (de_pv 0) da_nil)) da_nil)) (blkOk_by (by kernel_rfl)) (by decide) (fun _ _ _ _ _ => (dg_name (i := 2) sc__law_same.nd rfl (by first | exact Or.inl rfl | exact Or.inr rfl))) (fun _ _ _ _ _ => (dts_one (dt_not (dt_val (de_call cx.blk F__law_same (by first | decide | omega) (by rfl) (da_cons (de_ix (de_pv 0) (de_pv 2)) (da_cons (de_ix (de_pv 1) (de_pv 2)) da_nil))))))) (fun _ _ _ _ _ => (de_pv 2))) (de_lst da_nil))))) dss_nil)
 (dss_cons (ds_if (DW.dt (dw_or (dt_ne cx.u (de_isi (by rfl) T.n_isinstance (da_cons (de_pv 0) (da_cons (de_ty (T := "bool") (by rfl) T.n_bool (by decide +kernel)) da_nil))) (de_isi (by rfl) T.n_isinstance (da_cons (de_pv 1) (da_cons (de_ty (T := "bool") (by rfl) T.n_bool (by decide +kernel)) da_nil)))) (dw_or1 (dt_ne cx.u (de_isi (by rfl) T.n_isinstance (da_cons (de_pv 0) (da_cons (de_ty (T := "int") (by rfl) T.n_int (by decide +kernel)) da_nil))) (de_isi (by rfl) T.n_isinstance (da_cons (de_pv 1) (da_cons (de_ty (T := "int") (by rfl) T.n_int (by decide +kernel)) da_nil))))))) (dss_one (ds_ret de_bl)) dss_nil)
 (dss_one (ds_ret (de_and (de_eqK cx.u (de_isi (by rfl) T.n_isinstance (da_cons (de_pv 0) (da_cons (de_ty (T := "str") (by rfl) T.n_str (by decide +kernel)) da_nil))) (de_isi (by rfl) T.n_isinstance (da_cons (de_pv 1) (da_cons (de_ty (T := "str") (by rfl) T.n_str (by decide +kernel)) da_nil)))) (de_and (de_eqK cx.u (de_is (de_pv 0) de_non) (de_is (de_pv 1) de_non)) (de_one (de_eqK cx.u (de_pv 0) (de_pv 1))))))))))
  (by
    rintro as R ex hl ⟨x, rfl, hx, h⟩
    have t1 : "list" ∈ tys := by decide
    have t2 : "bool" ∈ tys := by decide
    have t3 : "int" ∈ tys := by decide
    have t4 : "str" ∈ tys := by decide
    cases x with
    | none =>
      walk_at "dx"
      rw [show (isTy (.none) "list" || isTy (.none) "tuple") = false from rfl]
      refine ⟨fun c => (by cases c), fun _ => ⟨t2, t2, fun c => absurd trivial c, t3, t3, fun c => absurd trivial c, t4, t4, ?_⟩⟩
      refine eqk_b ?_
      walk_at "dx"
      cases isTy (.none) "str" <;> (refine eqk_b ?_; walk_at "dx"; exact eqk_n h)
    | bool b =>
      walk_at "dx"
      rw [show (isTy (.bool b) "list" || isTy (.bool b) "tuple") = false from rfl]
      refine ⟨fun c => (by cases c), fun _ => ⟨t2, t2, fun c => absurd trivial c, t3, t3, fun c => absurd trivial c, t4, t4, ?_⟩⟩
      refine eqk_b ?_
      walk_at "dx"
      cases isTy (.bool b) "str" <;> (refine eqk_b ?_; walk_at "dx"; exact eqk_b h)
    | int i =>
      walk_at "dx"
      rw [show (isTy (.int i) "list" || isTy (.int i) "tuple") = false from rfl]
      refine ⟨fun c => (by cases c), fun _ => ⟨t2, t2, fun c => absurd trivial c, t3, t3, fun c => absurd trivial c, t4, t4, ?_⟩⟩
      refine eqk_b ?_
      walk_at "dx"
      cases isTy (.int i) "str" <;> (refine eqk_b ?_; walk_at "dx"; exact eqk_i h)
    | str x =>
      walk_at "dx"
      rw [show (isTy (.str x) "list" || isTy (.str x) "tuple") = false from rfl]
      refine ⟨fun c => (by cases c), fun _ => ⟨t2, t2, fun c => absurd trivial c, t3, t3, fun c => absurd trivial c, t4, t4, ?_⟩⟩
      refine eqk_b ?_
      walk_at "dx"
      cases isTy (.str x) "str" <;> (refine eqk_b ?_; walk_at "dx"; exact eqk_s h)
    | list xs =>
      walk_at "dx"
      rw [show (isTy (.list xs) "list" || isTy (.list xs) "tuple") = true from rfl]
      refine ⟨fun _ => ⟨fun _ => ⟨t1, t1, fun c => absurd trivial c, fun c => absurd trivial c, by have := hx.1; omega, by have := hx.1; omega, ?_⟩, fun c => (by cases c)⟩, fun c => (by cases c)⟩
      refine lc_ind (fun _ => none) _ _ (fun d hd K1 K0 q1 q0 => ?_) (by rw [rangeD_len]; have := hx.1; simp only [List.length_nil]; walk_at "lim") ?_
      · obtain ⟨i, hi, rfl⟩ := List.mem_map.mp hd
        have hi := List.mem_range.mp hi
        walk_at "dx"
        rw [atI_nat (List.getElem?_eq_getElem hi)]
        walk_at "dx"
        refine ⟨_, rfl, hx.2 _ (List.getElem_mem hi), ?_⟩
        walk_at "dx"
        exact q0 rfl
      · rw [show (rangeD 0 xs.length).filterMap (fun _ => (none : Option PyData)) = [] by simp]
        walk_at "dx"
        rw [show PyData.eqv (.list []) (.list []) = true by decide +kernel]; exact ⟨by walk_at "lim", h⟩
    | tuple xs =>
      walk_at "dx"
      rw [show (isTy (.tuple xs) "list" || isTy (.tuple xs) "tuple") = true from rfl]
      refine ⟨fun _ => ⟨fun _ => ⟨t1, t1, fun c => absurd trivial c, fun c => absurd trivial c, by have := hx.1; omega, by have := hx.1; omega, ?_⟩, fun c => (by cases c)⟩, fun c => (by cases c)⟩
      refine lc_ind (fun _ => none) _ _ (fun d hd K1 K0 q1 q0 => ?_) (by rw [rangeD_len]; have := hx.1; simp only [List.length_nil]; walk_at "lim") ?_
      · obtain ⟨i, hi, rfl⟩ := List.mem_map.mp hd
        have hi := List.mem_range.mp hi
        walk_at "dx"
        rw [atI_nat (List.getElem?_eq_getElem hi)]
        walk_at "dx"
        refine ⟨_, rfl, hx.2 _ (List.getElem_mem hi), ?_⟩
        walk_at "dx"
        exact q0 rfl
      · rw [show (rangeD 0 xs.length).filterMap (fun _ => (none : Option PyData)) = [] by simp]
        walk_at "dx"
        rw [show PyData.eqv (.list []) (.list []) = true by decide +kernel]; exact ⟨by walk_at "lim", h⟩
    | dict xs =>
      cases (show xs = [] from hx)
      walk_at "dx"
      rw [show (isTy (.dict []) "list" || isTy (.dict []) "tuple") = false from rfl]
      refine ⟨fun c => (by cases c), fun _ => ⟨t2, t2, fun c => absurd trivial c, t3, t3, fun c => absurd trivial c, t4, t4, ?_⟩⟩
      refine eqk_b ?_
      walk_at "dx"
      simp only [oIsN]
      refine eqk_b ?_
      walk_at "dx"
      exact .inl ⟨rfl, rfl, h⟩)).le (by decide +kernel)
theorem d__law_same {f : Addr} {fd : FuncData} (T : Txt K mg) (hm : mg "_law_same" = some (.ref f)) (F0 : L2.Fun K "_law_same" "_law_same" s__law_same f fd) (hb : Binds K fd ["_law_one", "_law_other"] []) : DFn P w K mg base CK "_law_same" (6) 0 2 (mf__law_same 4) := by
  have all : ∀ fu : Nat, DFn P w K mg base CK "_law_same" (2 + fu) 0 2 (mf__law_same fu) := fun fu => by
    induction fu with
    | zero => exact DFn.void (ps := ["_law_one", "_law_other"]) hm F0 hb z__law_same
    | succ fu ih => exact st__law_same fu T hm F0 hb ih
  exact all 4
/-! ### the masks of at most t pushes, as keys of a dict -/
def bitsD (S : List Nat) : List (PyData × PyData) := S.map fun x => (.int ((x : Nat) : Int), .bool true)
def bitPs (S : List Nat) : List PyData := S.map fun x => .tuple [.int ((x : Nat) : Int), .bool true]
def addK (S : List Nat) : List Nat → List Nat
  | [] => S
  | x :: T => addK (if x ∈ S then S else S ++ [x]) T
theorem isObj_bits {S : List Nat} : isObj (bitsD S) = false := by cases S <;> rfl
theorem lk_bits {x : Nat} : ∀ {S : List Nat}, (lkD (bitsD S) (.inl ((x : Nat) : Int))).isSome = decide (x ∈ S)
  | [] => by simp [bitsD, lkD]
  | a :: S => by
    have ih := lk_bits (x := x) (S := S)
    have e : keyQ (.inl ((x : Nat) : Int)) (.int ((a : Nat) : Int)) = decide (a = x) := by
      show decide (((a : Nat) : Int) = (x : Nat)) = _
      exact decide_eq_decide.mpr ⟨fun h => by omega, fun h => by omega⟩
    show (if keyQ (.inl ((x : Nat) : Int)) (.int ((a : Nat) : Int)) = true then some (PyData.bool true) else lkD (bitsD S) (.inl ((x : Nat) : Int))).isSome = _
    rw [e]
    by_cases c : a = x
    · simp [c]
    · rw [if_neg (by simpa using c), ih]
      exact decide_eq_decide.mpr ⟨fun h => List.mem_cons_of_mem _ h, fun h => (List.mem_cons.mp h).elim (fun e => absurd e.symm c) id⟩
theorem map_same {x : Nat} {S : List Nat} : (bitsD S).map (fun p => if keyQ (.inl ((x : Nat) : Int)) p.1 = true then (p.1, PyData.bool true) else p) = bitsD S := by
  unfold bitsD
  rw [List.map_map]
  refine List.map_congr_left fun a _ => ?_
  show (if keyQ (.inl ((x : Nat) : Int)) (.int ((a : Nat) : Int)) = true then _ else _) = _
  split <;> rfl
theorem put_bits {x : Nat} {S : List Nat} : putD (bitsD S) (.inl ((x : Nat) : Int)) (.bool true) = bitsD (if x ∈ S then S else S ++ [x]) := by
  unfold putD
  rw [lk_bits]
  by_cases c : x ∈ S
  · rw [if_pos (decide_eq_true c), if_pos c]
    exact map_same
  · rw [if_neg (by simpa using c), if_neg c]
    unfold bitsD
    rw [List.map_append]
    rfl
theorem merge_bits : ∀ {T S : List Nat}, mergeD (bitsD S) (bitsD T) = bitsD (addK S T)
  | [], _ => rfl
  | x :: T, S => by
    show mergeD (putD (bitsD S) (.inl ((x : Nat) : Int)) (.bool true)) (bitsD T) = _
    rw [put_bits, merge_bits]
    rfl
theorem mergeK_bits : ∀ {T S : List Nat}, mergeDK (bitsD S) (T.map fun x => (.inl ((x : Nat) : Int), .bool true)) = bitsD (addK S T)
  | [], _ => rfl
  | x :: T, S => by
    show mergeDK (putD (bitsD S) (.inl ((x : Nat) : Int)) (.bool true)) _ = _
    rw [put_bits, mergeK_bits]
    rfl
theorem pairs_bits : ∀ {S : List Nat}, pairsK (bitPs S) = some (S.map fun x => (.inl ((x : Nat) : Int), .bool true))
  | [] => rfl
  | x :: S => by
    have ih := pairs_bits (S := S)
    show (pairsK (bitPs S)).map _ = _
    rw [ih]
    rfl
theorem addK_mem {y : Nat} : ∀ {T S : List Nat}, y ∈ addK S T ↔ y ∈ S ∨ y ∈ T
  | [], _ => by simp [addK]
  | x :: T, S => by
    show y ∈ addK _ T ↔ _
    rw [addK_mem, List.mem_cons]
    by_cases c : x ∈ S
    · rw [if_pos c]
      constructor
      · rintro (h | h)
        · exact .inl h
        · exact .inr (.inr h)
      · rintro (h | rfl | h)
        · exact .inl h
        · exact .inl c
        · exact .inr h
    · rw [if_neg c, List.mem_append, List.mem_singleton, or_assoc]
theorem addK_nd : ∀ {T S : List Nat}, S.Nodup → (addK S T).Nodup
  | [], _, h => h
  | x :: T, S, h => by
    show (addK _ T).Nodup
    refine addK_nd ?_
    split
    · exact h
    · rename_i c
      rw [List.nodup_append]
      exact ⟨h, by simp, fun a ha b hb e => by cases List.mem_singleton.mp hb; exact c (e ▸ ha)⟩
theorem nd_len {S : List Nat} {n : Nat} (h : S.Nodup) (hb : ∀ x ∈ S, x < n) : S.length ≤ n := by
  have := List.Nodup.length_le_of_subset h (l₂ := List.range n) fun i hi => by simpa using hb i hi
  simpa using this
/-- bits of a sum of powers -/
theorem bit_sum : ∀ (S : List Nat), S.Pairwise (· < ·) → (∀ b, (∀ x ∈ S, x < b) → sumP S < 2 ^ b) ∧ ∀ x, (sumP S).testBit x = decide (x ∈ S) := fun S => by
  have key : ∀ R : List Nat, R.Pairwise (fun a b => b < a) → (∀ b, (∀ x ∈ R, x < b) → sumP R < 2 ^ b) ∧ ∀ x, (sumP R).testBit x = decide (x ∈ R) := by
    intro R
    induction R with
    | nil => exact fun _ => ⟨fun b _ => Nat.two_pow_pos b, fun x => by simp [sumP]⟩
    | cons a R ih =>
      intro hp
      obtain ⟨h1, h2⟩ := List.pairwise_cons.mp hp
      obtain ⟨hb, ht⟩ := ih h2
      have e : sumP (a :: R) = 2 ^ a * 1 + sumP R := by simp [sumP]
      have hlt := hb a h1
      refine ⟨fun b hx => ?_, fun x => ?_⟩
      · have hab : a + 1 ≤ b := hx a (List.mem_cons_self ..)
        have h3 : 2 ^ (a + 1) ≤ 2 ^ b := Nat.pow_le_pow_right (by decide) hab
        rw [Nat.pow_succ] at h3
        omega
      · rw [e, Nat.two_pow_add_eq_or_of_lt hlt, Nat.mul_one, Nat.testBit_or, Nat.testBit_two_pow, ht x]
        simp only [List.mem_cons]
        by_cases c : a = x
        · simp [c]
        · simp [c, Ne.symm c]
  intro hp
  have hr : sumP S.reverse = sumP S := by simp [sumP, List.sum_reverse]
  obtain ⟨k1, k2⟩ := key S.reverse (List.pairwise_reverse.mpr hp)
  rw [hr] at k1 k2
  exact ⟨fun b hx => k1 b fun x hx' => hx x (List.mem_reverse.mp hx'), fun x => by rw [k2 x]; simp⟩
theorem bit_mask (q : Nat × Nat) (x : Nat) : (maskN q).testBit x = (decide (q.1 ≤ x) && decide (x ≤ q.2)) := by
  unfold maskN
  rw [(bit_sum _ ?_).2 x]
  · rw [Bool.eq_iff_iff]
    simp only [List.mem_map, List.mem_range, decide_eq_true_eq, Bool.and_eq_true]
    constructor
    · rintro ⟨k, hk, rfl⟩; omega
    · rintro ⟨h1, h2⟩; exact ⟨x - q.1, by omega, by omega⟩
  · exact List.Pairwise.map _ (fun a b h => by omega) List.pairwise_lt_range
/-! ### how many bits -/
def pop : Nat → Nat → Nat
  | 0, _ => 0
  | k + 1, x => x % 2 + pop k (x / 2)
theorem pop_0 : ∀ k, pop k 0 = 0
  | 0 => rfl
  | k + 1 => by show 0 % 2 + pop k (0 / 2) = 0; rw [show 0 / 2 = 0 from rfl, pop_0 k]
theorem pop_le : ∀ k x, pop k x ≤ k
  | 0, _ => Nat.le_refl _
  | k + 1, x => by
    have := pop_le k (x / 2)
    show x % 2 + pop k (x / 2) ≤ k + 1
    omega
theorem pop_filter : ∀ k x, pop k x = ((List.range k).filter x.testBit).length
  | 0, _ => rfl
  | k + 1, x => by
    show x % 2 + pop k (x / 2) = _
    rw [pop_filter k (x / 2), List.range_succ_eq_map, List.filter_cons, List.filter_map, Nat.testBit_zero]
    have e : (x.testBit ∘ Nat.succ) = (x / 2).testBit := by
      funext b
      exact Nat.testBit_succ x b
    rw [e]
    by_cases c : x % 2 = 1
    · rw [if_pos (decide_eq_true c), List.length_cons, List.length_map]
      omega
    · rw [if_neg (by simpa using c), List.length_map]
      omega
theorem pop_cnt {k x : Nat} {P : List (Nat × Nat)} (h : ∀ b, x.testBit b = covB P b) : pop k x = cntC P k := by
  rw [pop_filter]
  unfold cntC
  congr 2
  funext b
  exact h b
/-! ### what the masks tell -/
structure Msk (l : SRow) (t : Nat) (S : List Nat) : Prop where
  nd : S.Nodup
  bd : ∀ x ∈ S, x < 2 ^ l.length
  of : ∀ x ∈ S, ∃ ps : List (Nat × Bool), ps.length ≤ t ∧ (∀ p ∈ ps, p.1 < l.length) ∧ ∀ b, x.testBit b = covB (spansP l ps) b
  al : ∀ ps : List (Nat × Bool), ps.length ≤ t → (∀ p ∈ ps, p.1 < l.length) → ∃ x ∈ S, ∀ b, x.testBit b = covB (spansP l ps) b
theorem spN_ex {l : SRow} {q : Nat × Nat} (h : q ∈ spN l) : ∃ p : Nat × Bool, p.1 < l.length ∧ spanOf l p = q := by
  unfold spN at h
  obtain ⟨i, hi, h⟩ := List.mem_flatMap.mp h
  have hi := List.mem_range.mp hi
  simp only [List.mem_cons, List.not_mem_nil, or_false] at h
  rcases h with rfl | rfl
  · exact ⟨(i, false), hi, rfl⟩
  · exact ⟨(i, true), hi, rfl⟩
theorem cov_cons {l : SRow} {p : Nat × Bool} {ps : List (Nat × Bool)} {b : Nat} : covB (spansP l (p :: ps)) b = ((decide ((spanOf l p).1 ≤ b) && decide (b ≤ (spanOf l p).2)) || covB (spansP l ps) b) := rfl
theorem lt_pow {x n : Nat} (h : ∀ b, n ≤ b → x.testBit b = false) : x < 2 ^ n := Nat.lt_pow_two_of_testBit x fun b hb => h b hb
theorem cov_far {l : SRow} (I : Inc l) {ps : List (Nat × Bool)} (hp : ∀ p ∈ ps, p.1 < l.length) {b : Nat} (hb : l.length ≤ b) : covB (spansP l ps) b = false := by
  cases c : covB (spansP l ps) b with
  | false => rfl
  | true =>
    obtain ⟨q, hq, h1, h2⟩ := cov_iff.mp c
    obtain ⟨p, hp', rfl⟩ := List.mem_map.mp hq
    have := (sp_bd I (span_sp (hp p hp'))).2
    omega
theorem msk_0 {l : SRow} : Msk l 0 [0] := by
  refine ⟨by simp, fun x hx => ?_, fun x hx => ?_, fun ps h _ => ?_⟩
  · cases List.mem_singleton.mp hx
    exact Nat.two_pow_pos _
  · cases List.mem_singleton.mp hx
    exact ⟨[], Nat.le_refl _, (fun p hp => by cases hp), fun b => by simp [covB, spansP]⟩
  · cases List.eq_nil_of_length_eq_zero (Nat.le_zero.mp h)
    exact ⟨0, by simp, fun b => by simp [covB, spansP]⟩
theorem msk_step {l : SRow} (I : Inc l) {t : Nat} {S S' : List Nat} (h : Msk l t S) (nd : S'.Nodup) (hm : ∀ y, y ∈ S' ↔ y ∈ S ∨ ∃ x ∈ S, ∃ q ∈ spN l, y = x ||| maskN q) : Msk l (t + 1) S' := by
  have of : ∀ x ∈ S', ∃ ps : List (Nat × Bool), ps.length ≤ t + 1 ∧ (∀ p ∈ ps, p.1 < l.length) ∧ ∀ b, x.testBit b = covB (spansP l ps) b := fun y hy => by
    rcases (hm y).mp hy with hy | ⟨x, hx, q, hq, rfl⟩
    · obtain ⟨ps, h1, h2, h3⟩ := h.of y hy
      exact ⟨ps, by omega, h2, h3⟩
    · obtain ⟨ps, h1, h2, h3⟩ := h.of x hx
      obtain ⟨p, hp, rfl⟩ := spN_ex hq
      refine ⟨p :: ps, by rw [List.length_cons]; omega, fun p' hp' => ?_, fun b => ?_⟩
      · rcases List.mem_cons.mp hp' with rfl | hp'
        · exact hp
        · exact h2 p' hp'
      · rw [Nat.testBit_or, h3 b, bit_mask, cov_cons, Bool.or_comm]
  refine ⟨nd, fun x hx => ?_, of, fun ps hp hps => ?_⟩
  · obtain ⟨ps, _, h2, h3⟩ := of x hx
    exact lt_pow fun b hb => by rw [h3 b, cov_far I h2 hb]
  · rcases Nat.lt_or_ge t ps.length with c | c
    · obtain ⟨p, ps, rfl⟩ : ∃ p r, ps = p :: r := by cases ps with | nil => simp at c | cons p r => exact ⟨p, r, rfl⟩
      rw [List.length_cons] at hp
      obtain ⟨x, hx, h3⟩ := h.al ps (by omega) fun p' hp' => hps p' (List.mem_cons_of_mem _ hp')
      refine ⟨x ||| maskN (spanOf l p), (hm _).mpr (.inr ⟨x, hx, _, span_sp (hps p (List.mem_cons_self ..)), rfl⟩), fun b => ?_⟩
      rw [Nat.testBit_or, h3 b, bit_mask, cov_cons, Bool.or_comm]
    · obtain ⟨x, hx, h3⟩ := h.al ps c hps
      exact ⟨x, (hm x).mpr (.inl hx), h3⟩
theorem msk_le {l : SRow} (I : Inc l) {t : Nat} {S : List Nat} (h : Msk l t S) {x : Nat} (hx : x ∈ S) : pop l.length x ≤ wT (farE l) l.length t l.length := by
  obtain ⟨ps, h1, h2, h3⟩ := h.of x hx
  rw [pop_cnt h3, w_eq_v (cov_of I) t]
  refine Nat.le_trans (cnt_le_v (S := spN l) ps.length l.length (spansP l ps) (by unfold spansP; rw [List.length_map]) fun q hq => ?_) (v_many h1)
  obtain ⟨p, hp, rfl⟩ := List.mem_map.mp hq
  exact span_sp (h2 p hp)
theorem msk_ex {l : SRow} {t : Nat} {S : List Nat} (h : Msk l t S) {ps : List (Nat × Bool)} (h1 : ps.length ≤ t) (h2 : ∀ p ∈ ps, p.1 < l.length) (h3 : cntC (spansP l ps) l.length = wT (farE l) l.length t l.length) : ∃ x ∈ S, pop l.length x = wT (farE l) l.length t l.length := by
  obtain ⟨x, hx, h4⟩ := h.al ps h1 h2
  exact ⟨x, hx, by rw [pop_cnt h4, h3]⟩
theorem spn_len {l : SRow} : (spN l).length = 2 * l.length := by
  unfold spN
  have : ∀ n, ((List.range n).flatMap fun i => [(startOf l i, i), (i, endOf l i)]).length = 2 * n := fun n => by
    induction n with
    | zero => rfl
    | succ n ih =>
      rw [List.range_succ, List.flatMap_append, List.length_append, ih]
      simp
      omega
  exact this _
theorem bor_nat (a b : Nat) : Builtin.bitOr ((a : Nat) : Int) ((b : Nat) : Int) = ((a ||| b : Nat) : Int) := by
  have nn : ∀ k : Nat, Builtin.bitNot ((k : Nat) : Int) < 0 := fun k => by unfold Builtin.bitNot; omega
  have nk : ∀ k : Int, Builtin.bitNot (Builtin.bitNot k) = k := fun k => by unfold Builtin.bitNot; omega
  unfold Builtin.bitOr Builtin.bitAnd
  rw [decide_eq_false (show ¬ (0 : Int) ≤ Builtin.bitNot ((a : Nat) : Int) by have := nn a; omega), decide_eq_false (show ¬ (0 : Int) ≤ Builtin.bitNot ((b : Nat) : Int) by have := nn b; omega)]
  simp only [nk, Int.toNat_natCast]
def mf__law_bits : MF := fun as R _ => ∃ (k x : Nat), as = [.d (.int (x : Nat))] ∧ x < 2 ^ k ∧ k ≤ 64 ∧ R (.d (.int ((pop k x : Nat) : Int)))
theorem d__law_bits {f : Addr} {fd : FuncData} (T : Txt K mg) (hm : mg "_law_bits" = some (.ref f)) (F0 : L2.Fun K "_law_bits" "_law_bits" s__law_bits f fd) (hb : Binds K fd ["_law_number"] []) : DFn P w K mg base CK "_law_bits" 1 0 1 mf__law_bits :=
  (dfn_of hm F0 hb sc__law_bits (fun cdv A outer s H E cx =>
 (dss_cons (ds_set (i := 1) sc__law_bits.nd rfl (by first | exact Or.inl rfl | exact Or.inr rfl) de_int)
 (dss_cons (ds_while (Ctx.passes rfl) (dt_gt (de_pv 0) de_int) (dss_cons (ds_set (i := 1) sc__law_bits.nd rfl (by first | exact Or.inl rfl | exact Or.inr rfl) (de_add (de_pv 1) (de_mod (de_pv 0) de_int)))
 (dss_one (ds_set (i := 0) sc__law_bits.nd rfl (by first | exact Or.inl rfl | exact Or.inr rfl) (de_div (de_pv 0) de_int)))))
 (dss_one (ds_ret (de_pv 1))))))
  (by
    rintro as R ex hl ⟨k, x, rfl, hx, hk, h⟩
    walk_at "dx"
    refine ⟨fun n δ => ∃ (j y f : Nat), δ = [some (.d (.int (y : Nat))), some (.d (.int (f : Nat)))] ∧ n = y ∧ y < 2 ^ j ∧ f + pop j y = pop k x, ⟨x, k, x, 0, rfl, rfl, hx, by omega⟩, ?_⟩
    rintro n δ ⟨j, y, f, rfl, rfl, hy, hf⟩
    walk_at "dx"
    refine ⟨fun c => ?_, fun c => ?_⟩
    · have hn : 0 < n := by omega
      obtain ⟨i, rfl⟩ : ∃ i, j = i + 1 := by
        cases j with
        | zero => exact absurd hy (by show ¬ n < 1; omega)
        | succ i => exact ⟨i, rfl⟩
      refine ⟨by decide, cdiv (by decide) (by decide), n / 2, by omega, i, n / 2, f + n % 2, by push_cast; rfl, rfl, ?_, ?_⟩
      · rw [Nat.pow_succ] at hy
        omega
      · rw [← hf]
        show f + n % 2 + pop i (n / 2) = f + (n % 2 + pop i (n / 2))
        omega
    · have : n = 0 := by omega
      subst this
      rw [pop_0, Nat.add_zero] at hf
      rw [hf]
      exact h)).le (by decide +kernel)
theorem sort_pus {ks : List Nat} (h : ks.Pairwise (· < ·)) {ds : List PyData} (hp : ds.Perm (ks.map puD)) : sortX ds = ks.map puD := by
  obtain ⟨ms, h1, rfl⟩ : ∃ ms : List Nat, ms.Perm ks ∧ ms.map puD = ds := perm_inv hp ks rfl
  have e2 : sortX (ms.map puD) = (ms.mergeSort fun a b => decide (a ≤ b)).map puD := by
    unfold sortX
    refine (List.map_mergeSort fun a ha b hb => ?_).symm
    show _ = !PySem.W.dataLt (puD b) (puD a)
    rw [pu_ltk, Bool.eq_iff_iff]
    simp
  rw [e2]
  congr 1
  exact (srt_of (h1.symm.trans (List.Perm.refl _) |>.symm.symm) (h.imp fun h => Nat.le_of_lt h)).symm
theorem eqv_pus (ks : List Nat) : PyData.eqv (.list (ks.map puD)) (.list (ks.map puD)) = true := by
  have h : ∀ ks : List Nat, PyData.eqvAll (ks.map puD) (ks.map puD) = true := fun ks => by
    induction ks with
    | nil => simp [PyData.eqvAll]
    | cons k ks ih =>
      rw [List.map_cons]
      simp only [PyData.eqvAll, ih, Bool.and_true]
      rw [pu_eqv]
      exact decide_eq_true rfl
  simp only [PyData.eqv]
  exact h ks
theorem srt_pus (ks : List Nat) : SrtOk (ks.map puD) := ⟨fun d hd => by
    obtain ⟨k, _, rfl⟩ := List.mem_map.mp hd
    exact ⟨_, _, rfl⟩, fun d hd e he => by
    obtain ⟨k, _, rfl⟩ := List.mem_map.mp hd
    obtain ⟨j, _, rfl⟩ := List.mem_map.mp he
    exact pu_alike k j, fun d hd => by
    obtain ⟨k, _, rfl⟩ := List.mem_map.mp hd
    exact (pu_plain k).1, fun d hd => by
    obtain ⟨k, _, rfl⟩ := List.mem_map.mp hd
    simp [puD, PyData.depth, PyData.depthAll]⟩
theorem cask_ok {K : PySem.W.Frag} {F0 H : Hp} {c : Addr} {n lim : Nat} (hC : BagAt c n H) : Gm.Ok ⟨K, F0, H, fun p => p = c, .ref c, BagAt c, n, lim⟩ := by
  have full : ∀ {n : Nat} {H : Hp}, BagAt c n H → ∀ p, p = c → H p ≠ none := fun h p q z => by
    obtain ⟨m, gs, d, h1, _⟩ := h
    rw [q, h1] at z; cases z
  refine ⟨fun n H H' h e _ => ?_, fun n k H hnk h => ?_, fun n H h p q => full (n := n) h p q, fun p q => full (n := n) hC p q, fun n H h p q vs z => by
    obtain ⟨m, gs, d, h1, _⟩ := h
    rw [q, h1] at z; cases z⟩
  · obtain ⟨m, gs, d, h1, h2⟩ := h
    exact ⟨m, gs, d, by rw [e c rfl]; exact h1, h2⟩
  · obtain ⟨m, gs, d, h1, h2, h3, h4, h5⟩ := h
    exact ⟨m, gs, d, h1, h2, h3, h4, by omega⟩
theorem nb_cask (n i : Nat) : NoBor ((List.replicate n (none : Option DV)).set i (some .cask) ++ []) := fun j x e => by
  rw [List.append_nil] at e
  rcases get_set e with ⟨_, q, _⟩ | ⟨_, q⟩
  · cases q; rfl
  · rw [List.getElem?_replicate] at q
    split at q <;> cases q
theorem d_law {f : Addr} {fd : FuncData} (T : Txt K mg) (F0 : L2.Fun K "law" "law" s_law f fd) (F__law_opened : DBag P w K mg base) (F__law_stones : DFn P w K mg base CK "_law_stones" 2 323 3 mf__law_stones) (F__law_masks : DFn P w K mg base CK "_law_masks" 3 0 1 mf__law_masks) (F_most_felled : DFn P w K mg base CK "most_felled" 6 0 2 mf_most_felled) (F__law_same : DFn P w K mg base CK "_law_same" 6 0 2 (mf__law_same 4)) (F__law_bits : DFn P w K mg base CK "_law_bits" 1 0 1 mf__law_bits) (F__law_felled : DFn P w K mg base CK "_law_felled" 3 0 2 mf__law_felled) (F__law_is_push : DFn P w K mg base CK "_law_is_push" 2 0 2 mf__law_is_push) : FnG P w K mg base 7 f fd ["_law_script"] (spLaw K) := by
  obtain ⟨fc, fdc, psc, hmc, hkc, hbc, hnc, hFc⟩ := F__law_opened.ex
  refine fnG_of F0 sc_law (fun vs H Q E h => ?_) fun cdv A outer s H vs Q E hg hr h => ?_
  · obtain ⟨a, ns, rfl, _⟩ := h
    rfl
  · obtain ⟨a, ns, rfl, hl, hS, k⟩ := h
    have cx : DL.Ctx (cxOf (L2.CX P w) P w K mg base ["_law_script", "_law_bag", "_law_turn", "_law_row", "_law_held", "_law_masks_here", "_law_states", "_law_many", "_law_told", "_law_best", "_law_some", "_law_felt", "_law_push", "_law_later", "_law_mask"] "law" (defScope s_law) f cdv A outer s H E) ⟨fun _ _ _ _ => False, CK⟩ 6 := ⟨hg, hr, takes0⟩
    refine ⟨_, pss_cons (ps_set (i := 1) sc_law.nd rfl (by first | exact Or.inl rfl | exact Or.inr rfl) (pe_callG hg hr takes0 hFc (by decide) hmc hkc hbc (by rfl) (pa_cons (pv 0) pa_nil)))
      (DSs.pss (W := ⟨fun _ _ _ _ => False, CK⟩)
 (dss_cons (ds_forN 5 (Ctx.passes rfl) (by rfl) (di_range1 (by rfl) T.n_range (da_cons de_int da_nil)) (dg_name (i := 2) sc_law.nd rfl (by first | exact Or.inl rfl | exact Or.inr rfl)) (dss_cons (ds_set (i := 3) sc_law.nd rfl (by first | exact Or.inl rfl | exact Or.inr rfl) (de_call cx F__law_stones (by decide) (by rfl) (da_cons (de_pv 1) (da_cons de_int (da_cons (de_pow de_int de_int) da_nil)))))
 (dss_cons (ds_par3 (i := 4) (j := 5) (l := 6) (by rfl) sc_law.nd rfl rfl rfl (by decide) (by decide) (by decide) rfl rfl rfl (da_cons (de_reprD cx.u (by rfl) T.n_repr (da_cons (de_pv 3) da_nil)) (da_cons (de_call cx F__law_masks (by decide) (by rfl) (da_cons (de_pv 3) da_nil)) (da_cons (de_disp1 de_int de_bl) da_nil))) (by rfl))
 (dss_one (ds_frz 6 (ds_for (Ctx.passes rfl) (by rfl) (di_range1 (by rfl) T.n_range (da_cons (de_add (de_len (by rfl) T.n_len (da_cons (de_pv 3) da_nil)) de_int) da_nil)) (dg_name (i := 7) sc_law.nd rfl (by first | exact Or.inl rfl | exact Or.inr rfl)) (dss_cons (ds_set (i := 8) sc_law.nd rfl (by first | exact Or.inl rfl | exact Or.inr rfl) (de_call cx F_most_felled (by decide) (by rfl) (da_cons (de_pv 3) (da_cons (de_pv 7) da_nil))))
 (dss_cons (ds_if (DW.dt (dw_or (dt_not (dt_val (de_isi (by rfl) T.n_isinstance (da_cons (de_pv 8) (da_cons (de_ty (T := "tuple") (by rfl) T.n_tuple (by decide +kernel)) da_nil))))) (dw_or (dt_ne cx.u (de_len (by rfl) T.n_len (da_cons (de_pv 8) da_nil)) de_int) (dw_or1 (dt_ne cx.u (de_reprD cx.u (by rfl) T.n_repr (da_cons (de_call cx F_most_felled (by decide) (by rfl) (da_cons (de_pv 3) (da_cons (de_pv 7) da_nil))) da_nil)) (de_reprD cx.u (by rfl) T.n_repr (da_cons (de_pv 8) da_nil))))))) (dss_one (ds_ret de_bl)) dss_nil)
 (dss_cons (ds_par2 (i := 9) (j := 10) (by rfl) sc_law.nd rfl rfl (by decide) rfl rfl (da_cons (de_maxA cx.u (by rfl) (by rfl) T.n_max (da_cons (de_lck 6 (de_lc (own := [("_law_felt", 11)]) (dom := [11]) (by rfl) sc_law.nd (di_keys (de_pv 6)) (blkOk_by (by kernel_rfl)) (by decide) (fun _ _ _ _ _ => (dg_name (i := 11) sc_law.nd rfl (by first | exact Or.inl rfl | exact Or.inr rfl))) (fun _ _ _ _ _ => dts_nil) (fun _ _ _ _ _ => (de_call cx.blk F__law_bits (by decide) (by rfl) (da_cons (de_pv 11) da_nil))))) da_nil)) (da_cons (de_ix (de_pv 8) de_int) da_nil)) (by rfl))
 (dss_cons (ds_if (DW.dt (dw_or (dt_not (dt_val (de_call cx F__law_same (by decide) (by rfl) (da_cons (de_ix (de_pv 8) de_int) (da_cons (de_pv 9) da_nil))))) (dw_or (dt_not (dt_val (de_isi (by rfl) T.n_isinstance (da_cons (de_pv 10) (da_cons (de_ty (T := "tuple") (by rfl) T.n_tuple (by decide +kernel)) da_nil))))) (dw_or1 (dt_gt (de_len (by rfl) T.n_len (da_cons (de_pv 10) da_nil)) (de_pv 7)))))) (dss_one (ds_ret de_bl)) dss_nil)
 (dss_cons (ds_if (DW.dt (dw_or (dt_neE cx.u (de_lc (own := [("_law_push", 12)]) (dom := [12]) (by rfl) sc_law.nd (di_tup (de_pv 10)) (blkOk_by (by kernel_rfl)) (by decide) (fun _ _ _ _ _ => (dg_name (i := 12) sc_law.nd rfl (by first | exact Or.inl rfl | exact Or.inr rfl))) (fun _ _ _ _ _ => (dts_one (dt_not (dt_val (de_call cx.blk F__law_is_push (by decide) (by rfl) (da_cons (de_pv 3) (da_cons (de_pv 12) da_nil))))))) (fun _ _ _ _ _ => (de_pv 12))) (de_lst da_nil)) (dw_or1 (dt_ne cx.u (de_listC (by rfl) T.n_list (da_cons (de_pv 10) da_nil)) (de_sortSetU (by rfl) cx.u (by rfl) T.n_sorted (by rfl) T.n_set (de_pv 10)))))) (dss_one (ds_ret de_bl)) dss_nil)
 (dss_cons (ds_if (DW.dt (dw_or (dt_ne cx.u (de_len (by rfl) T.n_len (da_cons (de_call cx F__law_felled (by decide) (by rfl) (da_cons (de_pv 3) (da_cons (de_pv 10) da_nil))) da_nil)) (de_pv 9)) (dw_or1 (dt_ne cx.u (de_reprD cx.u (by rfl) T.n_repr (da_cons (de_pv 3) da_nil)) (de_pv 4))))) (dss_one (ds_ret de_bl)) dss_nil)
 (dss_cons (ds_set (i := 13) sc_law.nd rfl (by first | exact Or.inl rfl | exact Or.inr rfl) (de_dictP (by rfl) (by rfl) T.n_dict (da_cons (de_lck 6 (de_lc (own := [("_law_felt", 11)]) (dom := [11]) (by rfl) sc_law.nd (di_keys (de_pv 6)) (blkOk_by (by kernel_rfl)) (by decide) (fun _ _ _ _ _ => (dg_name (i := 11) sc_law.nd rfl (by first | exact Or.inl rfl | exact Or.inr rfl))) (fun _ _ _ _ _ => dts_nil) (fun _ _ _ _ _ => (de_tup (da_cons (de_pv 11) (da_cons de_bl da_nil)))))) da_nil)))
 (dss_cons (ds_lck 6 (ds_for (Ctx.passes rfl) (by rfl) (di_keys (de_pv 6)) (dg_name (i := 11) sc_law.nd rfl (by first | exact Or.inl rfl | exact Or.inr rfl)) (dss_one (ds_upd (pv 13) (da_cons (de_dictP (by rfl) (by rfl) T.n_dict (da_cons (de_lc (own := [("_law_mask", 14)]) (dom := [14]) (by rfl) sc_law.nd (di_list (de_pv 5)) (blkOk_by (by kernel_rfl)) (by decide) (fun _ _ _ _ _ => (dg_name (i := 14) sc_law.nd rfl (by first | exact Or.inl rfl | exact Or.inr rfl))) (fun _ _ _ _ _ => dts_nil) (fun _ _ _ _ _ => (de_tup (da_cons (de_bor (de_pv 11) (de_pv 14)) (da_cons de_bl da_nil))))) da_nil)) da_nil)))))
 (dss_one (ds_frz 13 (ds_set (i := 6) sc_law.nd rfl (by first | exact Or.inl rfl | exact Or.inr rfl) (de_pv 13))))))))))))))))))
 (dss_one (ds_ret de_bl)))), ?_⟩
    refine ⟨.ref a, rfl, a, ns, rfl, hl, hS, fun c H' hC => ?_⟩
    refine ⟨fun _ _ => False, ⟨K, fun _ => none, H', fun p => p = c, .ref c, BagAt c, 0, 2 ^ 40⟩, fun _ => none, (List.replicate 15 none).set 1 (some .cask), [], [], ⟨fun _ => False, fun r => r = .d (.bool true), fun _ => False, fun _ => False, fun _ _ => False⟩,
      ⟨rfl, by simp [L2.start], rfl, ?_, fun _ _ _ _ _ _ _ _ _ _ _ _ _ _ z => z.elim, ⟨c, rfl, rfl, rfl, rfl⟩, by first | exact Nat.le_of_ble_eq_true rfl | decide +kernel⟩, nb_cask _ _, ⟨fun _ z => z.elim, fun _ z => z.elim, fun _ z => z.elim, fun r hr' _ b v F2 H2 _ g => ?_, fun _ _ z => z.elim⟩, ?_⟩
    · have g := good_cask (G := ⟨K, fun _ => none, H', fun p => p = c, .ref c, BagAt c, 0, 2 ^ 40⟩) (H := H') (i := 1) (σ := (L2.start ["_law_script", "_law_bag", "_law_turn", "_law_row", "_law_held", "_law_masks_here", "_law_states", "_law_many", "_law_told", "_law_best", "_law_some", "_law_felt", "_law_push", "_law_later", "_law_mask"] [.ref a]).set 1 (some (.ref c))) (cask_ok hC) rfl rfl hC rfl
      simpa [L2.start] using g
    · cases hr'
      obtain ⟨v', e1, h1⟩ := g.sl 0 _ rfl
      cases e1
      have h2 : At K F2 v (.bool true) := h1
      cases h2
      exact k H2
    · exact (by
      walk_at "dx"
      refine ⟨by decide, by decide, by decide, ?_⟩
      refine for_range (fun _ δ => ∃ (a2 a3 a4 a5 a6 a7 a8 a9 a10 a13 : Option DV) (o : Option PyData), δ = [none, some .cask, a2, a3, a4, a5, a6, a7, a8, a9, a10, o.map DV.d, none, a13, none]) ⟨_, _, _, _, _, _, _, _, _, _, none, rfl⟩ ?_ ?_
      · rintro δ ⟨a2, a3, a4, a5, a6, a7, a8, a9, a10, a13, o, rfl⟩
        walk_at "dx"
      · rintro k δ Kn hk ⟨a2, a3, a4, a5, a6, a7, a8, a9, a10, a13, o, rfl⟩ hK
        rw [show (0 : Int) + (k : Nat) = (k : Nat) from Int.zero_add _]
        refine ⟨rfl, by simp, ?_⟩
        change mSeq _ _ _ _ [none, some .cask, some (.d (.int (k : Nat))), a3, a4, a5, a6, a7, a8, a9, a10, o.map DV.d, none, a13, none]
        refine seq_gen (fun δ => ∃ row, RowC row ∧ row.length ≤ 7 ∧ δ = [none, some .cask, some (.d (.int (k : Nat))), some (.d (rowD row)), a4, a5, a6, a7, a8, a9, a10, o.map DV.d, none, a13, none]) ?_ fun K hK => ?_
        rotate_left
        · walk_at "dx"
          refine ⟨7, _, rfl, by decide, by decide, by decide, by decide, fun row hB h7 => ?_⟩
          exact ⟨rfl, hK _ ⟨row, hB, by omega, rfl⟩⟩
        rintro δ ⟨row, hB, h7, rfl⟩
        have I := hB.i
        have hr0 := I.n0
        have hlen : oLen (.d (rowD row)) = fun R => R (.d (.int row.length)) := by
          unfold rowD
          funext R
          walk_at "dx"
          rw [List.length_map]
        have hS := (sz_rowC hB).d.shows (by decide) (by decide)
        obtain ⟨M, hM⟩ : ∃ M, M = (spN row).map maskN := ⟨_, rfl⟩
        refine seq_gen (fun δ => δ = [none, some .cask, some (.d (.int (k : Nat))), some (.d (rowD row)), some (.d (.str (rowD row).shown)), some (.d (.list (M.map natD))), some (.odk (bitsD [0])), a7, a8, a9, a10, o.map DV.d, none, a13, none]) ?_ fun K hK => ?_
        rotate_left
        · walk_at "dx"
          refine ⟨hS, row, rfl, I, by omega, ?_⟩
          rw [← hM]
          exact ⟨rfl, hK _ rfl⟩
        rintro δ rfl
        walk_at "dx"
        rw [hlen]
        walk_at "dx"
        refine ⟨by omega, by omega, ?_⟩
        rw [show (((row.length : Nat) : Int) + 1).toNat = row.length + 1 by omega]
        refine for_range (fun t δ => ∃ (S : List Nat) (a7 a8 a9 a10 a13 : Option DV) (o : Option PyData), Msk row t S ∧ δ = [none, some .cask, some (.d (.int (k : Nat))), some (.d (rowD row)), some (.d (.str (rowD row).shown)), some (.d (.list (M.map natD))), some (.d (.dict (bitsD S))), a7, a8, a9, a10, o.map DV.d, none, a13, none]) ⟨[0], a7, a8, a9, a10, a13, o, msk_0, rfl⟩ ?_ ?_
        · rintro δ ⟨S, a7, a8, a9, a10, a13, o, _, rfl⟩
          walk_at "dx"
          exact hK _ ⟨_, _, _, _, _, _, _, _, _, _, _, rfl⟩
        rintro t δ K ht ⟨S, a7, a8, a9, a10, a13, o, hSt, rfl⟩ hK2
        rw [show (0 : Int) + (t : Nat) = (t : Nat) from Int.zero_add _]
        refine ⟨rfl, by simp, ?_⟩
        obtain ⟨w, hw⟩ : ∃ w, w = wT (farE row) row.length t row.length := ⟨_, rfl⟩
        change mSeq _ _ _ _ [none, some .cask, some (.d (.int (k : Nat))), some (.d (rowD row)), some (.d (.str (rowD row).shown)), some (.d (.list (M.map natD))), some (.d (.dict (bitsD S))), some (.d (.int (t : Nat))), a8, a9, a10, o.map DV.d, none, a13, none]
        refine seq_gen (fun δ => ∃ ps0 ps : List (Nat × Bool), MfP row 0 t ps0 ∧ ps.Perm ps0 ∧ (∀ p ∈ ps, p.1 < row.length) ∧ ps.length ≤ t ∧ (ps.map posOf).Pairwise (· < ·) ∧ cntC (spansP row ps) row.length = w ∧ δ = [none, some .cask, some (.d (.int (k : Nat))), some (.d (rowD row)), some (.d (.str (rowD row).shown)), some (.d (.list (M.map natD))), some (.d (.dict (bitsD S))), some (.d (.int (t : Nat))), some (.d (.tuple [natD w, .tuple (ps.map pushOf)])), a9, a10, o.map DV.d, none, a13, none]) ?_ fun K hK => ?_
        rotate_left
        · walk_at "dx"
          refine ⟨row, .int (t : Nat), rfl, I, by omega, fun c => ?_, fun t' e ht' => ?_⟩
          · exfalso
            simp [isInt] at c
            omega
          · have e : t' = t := by
              have := PyData.int.inj e
              omega
            subst e
            rw [← hw]
            exact fun ps0 ps h1 h2 h3 h4 h5 h6 => ⟨rfl, hK _ ⟨ps0, ps, h1, h2, h3, h4, h5, h6, rfl⟩⟩
        rintro δ ⟨ps0, ps, q1, q2, q3, q4, q5, q6, rfl⟩
        have hTo : ShowsD (.tuple [natD w, .tuple (ps.map pushOf)]) := by
          have h1 : ∀ x ∈ ps.map pushOf, SzD x 1 (4 + 2 * (1922 + 2)) := fun x hx => by
            obtain ⟨p, hp, rfl⟩ := List.mem_map.mp hx
            have := q3 p hp
            unfold pushOf
            refine SzD.tup (dp := 0) (wd := 1922) (fun y hy => ?_) (by simp)
            simp only [List.mem_cons, List.not_mem_nil, or_false] at hy
            rcases hy with rfl | rfl
            · exact (sz_nat (by omega)).d
            · cases p.2 <;> exact ⟨rfl, by decide +kernel, by decide +kernel⟩
          refine (SzD.tup (dp := 2) (wd := 4 + 7 * (4 + 2 * (1922 + 2) + 2)) (n := 2) (fun y hy => ?_) (by simp)).shows (by decide) (by decide)
          simp only [List.mem_cons, List.not_mem_nil, or_false] at hy
          rcases hy with rfl | rfl
          · have hw7 : w ≤ 1000000 := by
              rw [← q6]
              exact Nat.le_trans (List.length_filter_le _ _) (by rw [List.length_range]; omega)
            exact (sz_nat hw7).d.mono (by decide) (by decide)
          · exact SzD.tup h1 (by rw [List.length_map]; omega)
        refine seq_gen (fun δ => δ = [none, some .cask, some (.d (.int (k : Nat))), some (.d (rowD row)), some (.d (.str (rowD row).shown)), some (.d (.list (M.map natD))), some (.d (.dict (bitsD S))), some (.d (.int (t : Nat))), some (.d (.tuple [natD w, .tuple (ps.map pushOf)])), a9, a10, o.map DV.d, none, a13, none]) ?_ fun K hK => ?_
        rotate_left
        · walk_at "dx"
          refine ⟨by decide, fun c => absurd c (by rw [show isTy (.tuple [natD w, .tuple (ps.map pushOf)]) "tuple" = true from rfl]; decide), fun _ => ⟨fun c => absurd rfl c, fun _ => ?_⟩⟩
          refine ⟨row, .int (t : Nat), rfl, I, by omega, fun c => ?_, fun t' e ht' => ?_⟩
          · exfalso
            simp [isInt] at c
            omega
          · have e : t' = t := by
              have := PyData.int.inj e
              omega
            subst e
            rw [← hw]
            intro ps0' ps' h1 h2 h3 h4 h5 h6
            cases mfp_one q1 h1
            cases pos_sort (h2.trans q2.symm) h5 q5
            walk_at "dx"
            rw [eqv_same]
            exact ⟨hTo, hTo, fun c => (by cases c), fun _ => hK _ rfl⟩
        rintro δ rfl
        refine seq_gen (fun δ => ∃ o : Option PyData, δ = [none, some .cask, some (.d (.int (k : Nat))), some (.d (rowD row)), some (.d (.str (rowD row).shown)), some (.d (.list (M.map natD))), some (.d (.dict (bitsD S))), some (.d (.int (t : Nat))), some (.d (.tuple [natD w, .tuple (ps.map pushOf)])), some (.d (.int (w : Nat))), some (.d (.tuple (ps.map pushOf))), o.map DV.d, none, a13, none]) ?_ fun K hK => ?_
        rotate_left
        · walk_at "dx"
          refine ⟨isObj_bits, fun p => ?_⟩
          rw [show keysD (bitsD S) = S.map natD by unfold keysD bitsD; rw [List.map_map]; rfl]
          refine lc_ind (onInt fun i => some (natD (pop row.length i.toNat))) _ _ (fun d hd K1 K0 r1 r0 => ?_) (by rw [List.length_map]; have := nd_len hSt.nd hSt.bd; have h2 := Nat.pow_le_pow_right (show 0 < 2 by decide) h7; simp only [List.length_nil]; walk_at "lim") ?_
          · obtain ⟨x, hx, rfl⟩ := List.mem_map.mp hd
            walk_at "dx"
            exact ⟨row.length, x, rfl, hSt.bd x hx, by omega, r1 _ rfl⟩
          · rw [show (S.map natD).filterMap (onInt fun i => some (natD (pop row.length i.toNat))) = (S.map fun x => pop row.length x).map natD by
              rw [List.filterMap_map, List.map_map]
              exact fm_map fun x _ => rfl, List.nil_append, nInts]
            walk_at "dx"
            rw [intsOf_map]
            dsimp only
            obtain ⟨x, hx, hxw⟩ := msk_ex hSt q4 q3 (by rw [q6, hw])
            refine ⟨by rw [List.length_map, List.length_map]; exact List.length_pos_of_mem hx, fun m hm hmx => ?_⟩
            obtain ⟨y, hy, rfl⟩ := List.mem_map.mp hm
            obtain ⟨x', hx', rfl⟩ := List.mem_map.mp hy
            have h1 := msk_le I hSt hx'
            have h2 := hmx _ (List.mem_map.mpr ⟨_, List.mem_map.mpr ⟨x, hx, rfl⟩, rfl⟩)
            have e : pop row.length x' = w := by
              rw [hw]
              omega
            rw [e]
            exact hK _ ⟨_, rfl⟩
        rintro δ ⟨o, rfl⟩
        refine seq_gen (fun δ => δ = [none, some .cask, some (.d (.int (k : Nat))), some (.d (rowD row)), some (.d (.str (rowD row).shown)), some (.d (.list (M.map natD))), some (.d (.dict (bitsD S))), some (.d (.int (t : Nat))), some (.d (.tuple [natD w, .tuple (ps.map pushOf)])), some (.d (.int (w : Nat))), some (.d (.tuple (ps.map pushOf))), o.map DV.d, none, a13, none]) ?_ fun K hK => ?_
        rotate_left
        · walk_at "dx"
          refine ⟨natD w, rfl, trivial, ?_⟩
          walk_at "dx"
          refine ⟨by decide, fun c => absurd c (by rw [show isTy (.tuple (ps.map pushOf)) "tuple" = true from rfl]; decide), fun _ => ⟨fun c => ?_, fun _ => hK _ rfl⟩⟩
          rw [List.length_map] at c
          omega
        rintro δ rfl
        refine seq_gen (fun δ => δ = [none, some .cask, some (.d (.int (k : Nat))), some (.d (rowD row)), some (.d (.str (rowD row).shown)), some (.d (.list (M.map natD))), some (.d (.dict (bitsD S))), some (.d (.int (t : Nat))), some (.d (.tuple [natD w, .tuple (ps.map pushOf)])), some (.d (.int (w : Nat))), some (.d (.tuple (ps.map pushOf))), o.map DV.d, none, a13, none]) ?_ fun K hK => ?_
        rotate_left
        · walk_at "dx"
          refine lc_ind (fun _ => none) _ _ (fun d hd K1 K0 r1 r0 => ?_) (by rw [List.length_map]; simp only [List.length_nil]; walk_at "lim") ?_
          · obtain ⟨p, hp, rfl⟩ := List.mem_map.mp hd
            walk_at "dx"
            refine ⟨row, _, rfl, fun a x e => ?_, ?_⟩
            · unfold pushOf at e
              cases e
              cases p.2 <;> decide +kernel
            · rw [push_is (q3 p hp)]
              walk_at "dx"
              exact r0 rfl
          · rw [show (ps.map pushOf).filterMap (fun _ => (none : Option PyData)) = [] by simp, List.nil_append]
            walk_at "dx"
            refine ⟨by walk_at "lim", fun c => ?_, fun _ => ?_⟩
            · cases c
            · unfold mSortSetU
              walk_at "dx"
              unfold oSortSetU
              refine ⟨_, tups_ps ps, ?_, by rw [List.length_map]; omega, by rw [pus_map]; exact srt_pus _, fun ds' hp => ?_⟩
              · have h1 : ps.Nodup := List.Pairwise.of_map posOf (fun a b h e => by rw [e] at h; omega) q5
                refine List.Pairwise.map _ (fun a b h e => h ?_) h1
                have e1 := List.cons.inj e
                have e2 := Sum.inl.inj e1.1
                have e3 := Sum.inr.inj (List.cons.inj e1.2).1
                obtain ⟨s, b1⟩ := a
                obtain ⟨s2, b2⟩ := b
                have e2 : ((s : Nat) : Int) = (s2 : Nat) := e2
                have e3 : sideOf b1 = sideOf b2 := e3
                have e4 : b1 = b2 := by cases b1 <;> cases b2 <;> first | rfl | exact absurd e3 (by decide +kernel)
                rw [e4, show s = s2 by omega]
              · rw [pus_map] at hp ⊢
                rw [sort_pus q5 hp]
                walk_at "dx"
                refine ⟨shaped_pus _, shaped_pus _, fun c => ?_, fun _ => ?_⟩
                · rw [eqv_pus] at c
                  cases c
                · have := hK _ rfl
                  rw [pus_map] at this
                  exact this
        rintro δ rfl
        refine seq_gen (fun δ => δ = [none, some .cask, some (.d (.int (k : Nat))), some (.d (rowD row)), some (.d (.str (rowD row).shown)), some (.d (.list (M.map natD))), some (.d (.dict (bitsD S))), some (.d (.int (t : Nat))), some (.d (.tuple [natD w, .tuple (ps.map pushOf)])), some (.d (.int (w : Nat))), some (.d (.tuple (ps.map pushOf))), o.map DV.d, none, a13, none]) ?_ fun K hK => ?_
        rotate_left
        · walk_at "dx"
          refine ⟨row, ps, rfl, I, by omega, by omega, q3, ?_⟩
          walk_at "dx"
          rw [eqv_same, List.length_map]
          refine ⟨fun c => ?_, fun _ => ⟨hS, fun c => (by cases c), fun _ => hK _ rfl⟩⟩
          unfold cntC at q6
          omega
        rintro δ rfl
        refine seq_gen (fun δ => ∃ o : Option PyData, δ = [none, some .cask, some (.d (.int (k : Nat))), some (.d (rowD row)), some (.d (.str (rowD row).shown)), some (.d (.list (M.map natD))), some (.d (.dict (bitsD S))), some (.d (.int (t : Nat))), some (.d (.tuple [natD w, .tuple (ps.map pushOf)])), some (.d (.int (w : Nat))), some (.d (.tuple (ps.map pushOf))), o.map DV.d, none, some (.odk (bitsD (addK [] S))), none]) ?_ fun K hK => ?_
        rotate_left
        · walk_at "dx"
          refine ⟨isObj_bits, fun p => ?_⟩
          rw [show keysD (bitsD S) = S.map natD by unfold keysD bitsD; rw [List.map_map]; rfl]
          refine lc_ind (onInt fun i => some (.tuple [.int i, .bool true])) _ _ (fun d hd K1 K0 r1 r0 => ?_) (by rw [List.length_map]; have := nd_len hSt.nd hSt.bd; have h2 := Nat.pow_le_pow_right (show 0 < 2 by decide) h7; simp only [List.length_nil]; walk_at "lim") ?_
          · obtain ⟨x, hx, rfl⟩ := List.mem_map.mp hd
            walk_at "dx"
            exact ⟨by walk_at "lim", r1 _ rfl⟩
          · rw [show (S.map natD).filterMap (onInt fun i => some (.tuple [.int i, .bool true])) = bitPs S by
              rw [List.filterMap_map]
              exact fm_map fun x _ => rfl, List.nil_append]
            refine ⟨rfl, ?_⟩
            unfold oDictP
            walk_at "dx"
            rw [pairs_bits]
            dsimp only
            rw [show ([] : List (PyData × PyData)) = bitsD [] from rfl, mergeK_bits]
            exact hK _ ⟨_, rfl⟩
        rintro δ ⟨o, rfl⟩
        refine seq_gen (fun δ => ∃ (S' : List Nat) (o : Option PyData), S'.Nodup ∧ (∀ y, y ∈ S' ↔ y ∈ S ∨ ∃ x ∈ S, ∃ q ∈ spN row, y = x ||| maskN q) ∧ δ = [none, some .cask, some (.d (.int (k : Nat))), some (.d (rowD row)), some (.d (.str (rowD row).shown)), some (.d (.list (M.map natD))), some (.d (.dict (bitsD S))), some (.d (.int (t : Nat))), some (.d (.tuple [natD w, .tuple (ps.map pushOf)])), some (.d (.int (w : Nat))), some (.d (.tuple (ps.map pushOf))), o.map DV.d, none, some (.odk (bitsD S')), none]) ?_ fun K hK => ?_
        rotate_left
        · unfold mLckS
          walk_at "dx"
          refine ⟨isObj_bits, fun p => ?_⟩
          unfold unLkE
          walk_at "dx"
          rw [show keysD (bitsD S) = S.map natD by unfold keysD bitsD; rw [List.map_map]; rfl]
          refine ⟨by simp [DV.isBor], ?_⟩
          refine for_at (fun j δ => ∃ (L : List Nat) (o : Option PyData), L.Nodup ∧ (∀ y ∈ L, y < 2 ^ row.length) ∧ (∀ y, y ∈ L ↔ y ∈ S ∨ ∃ x ∈ S.take j, ∃ q ∈ spN row, y = x ||| maskN q) ∧ δ = [none, some .cask, some (.d (.int (k : Nat))), some (.d (rowD row)), some (.d (.str (rowD row).shown)), some (.d (.list (M.map natD))), some (.ldk p (bitsD S)), some (.d (.int (t : Nat))), some (.d (.tuple [natD w, .tuple (ps.map pushOf)])), some (.d (.int (w : Nat))), some (.d (.tuple (ps.map pushOf))), o.map DV.d, none, some (.odk (bitsD L)), none]) ⟨addK [] S, o, addK_nd List.nodup_nil, fun y hy => ?_, fun y => ?_, rfl⟩ ?_ ?_
          · rcases addK_mem.mp hy with h | h
            · cases h
            · exact hSt.bd y h
          · rw [addK_mem, List.take_zero]
            simp
          · rintro δ ⟨L, o, h1, h2, h3, rfl⟩
            walk_at "dx"
            refine ⟨rfl, by cases o <;> rfl, ?_⟩
            walk_at "dx"
            rw [List.length_map, List.take_length] at h3
            exact hK _ ⟨L, o, h1, h3, rfl⟩
          · rintro j d δ K4 hd ⟨L, o, h1, h2, h3, rfl⟩ hK4
            rw [List.getElem?_map] at hd
            cases hx : S[j]? with
            | none => rw [hx] at hd; cases hd
            | some x =>
            rw [hx] at hd
            cases hd
            unfold mUpd
            walk_at "dx"
            have hxS : x ∈ S := List.mem_of_getElem? hx
            have hML : M.length = 2 * row.length := by rw [hM, List.length_map, ← spn_len]
            refine lc_ind (onInt fun i => some (.tuple [.int ((x ||| i.toNat : Nat) : Int), .bool true])) _ _ (fun d hd K1 K0 r1 r0 => ?_) (by rw [List.length_map]; simp only [List.length_nil]; walk_at "lim") ?_
            · obtain ⟨m, hm, rfl⟩ := List.mem_map.mp hd
              walk_at "dx"
              exact ⟨trivial, by walk_at "lim", r1 _ (by show some _ = some (PyData.tuple [.int (Builtin.bitOr ((x : Nat) : Int) ((m : Nat) : Int)), .bool true]); rw [bor_nat]; rfl)⟩
            · rw [show (M.map natD).filterMap (onInt fun i => some (.tuple [.int ((x ||| i.toNat : Nat) : Int), .bool true])) = bitPs (M.map fun m => x ||| m) by
                unfold bitPs
                rw [List.filterMap_map, List.map_map]
                exact fm_map fun m _ => rfl, List.nil_append]
              unfold oDictP
              walk_at "dx"
              rw [pairs_bits]
              dsimp only
              rw [show ([] : List (PyData × PyData)) = bitsD [] from rfl, mergeK_bits]
              dsimp only [DV.upk]
              rw [merge_bits]
              have hbd : ∀ y ∈ addK [] (M.map fun m => x ||| m), y < 2 ^ row.length := fun y hy => by
                rcases addK_mem.mp hy with h | h
                · cases h
                · obtain ⟨m, hm, rfl⟩ := List.mem_map.mp h
                  refine Nat.or_lt_two_pow (hSt.bd x hxS) ?_
                  rw [hM] at hm
                  obtain ⟨q, hq, rfl⟩ := List.mem_map.mp hm
                  obtain ⟨p, hp, rfl⟩ := spN_ex hq
                  have hq := (sp_bd I hq).2
                  refine lt_pow fun b hb => ?_
                  rw [bit_mask]
                  simp
                  omega
              have l1 := nd_len h1 h2
              have l2 := nd_len (addK_nd (T := M.map fun m => x ||| m) List.nodup_nil) hbd
              have h7' := Nat.pow_le_pow_right (show 0 < 2 by decide) h7
              refine ⟨by unfold bitsD; rw [List.length_map, List.length_map, PySem.sizeLine_eq]; omega, hK4 _ ⟨addK L (addK [] (M.map fun m => x ||| m)), some (natD x), addK_nd h1, fun y hy => ?_, fun y => ?_, rfl⟩⟩
              · rcases addK_mem.mp hy with h | h
                · exact h2 y h
                · exact hbd y h
              · rw [addK_mem, addK_mem, h3, List.take_add_one, hx]
                simp only [List.not_mem_nil, false_or, List.mem_map, List.mem_append, Option.toList_some, List.mem_singleton]
                constructor
                · rintro ((h | ⟨z, hz, q, hq, e⟩) | ⟨m, hm, rfl⟩)
                  · exact .inl h
                  · exact .inr ⟨z, .inl hz, q, hq, e⟩
                  · rw [hM] at hm
                    obtain ⟨q, hq, rfl⟩ := List.mem_map.mp hm
                    exact .inr ⟨x, .inr rfl, q, hq, rfl⟩
                · rintro (h | ⟨z, hz | rfl, q, hq, e⟩)
                  · exact .inl (.inl h)
                  · exact .inl (.inr ⟨z, hz, q, hq, e⟩)
                  · exact .inr ⟨maskN q, by rw [hM]; exact List.mem_map.mpr ⟨q, hq, rfl⟩, e.symm⟩
        rintro δ ⟨S', o, hnd, hm, rfl⟩
        walk_at "dx"
        refine hK2 _ ⟨S', _, _, _, _, _, _, msk_step I hSt hnd hm, rfl⟩)
end
theorem all_mk {l : PySem.W.OpenLaw} {w : World} {K : PySem.W.Frag} {h : Heap} {mg : Str → Option Value} {fa : Addr} (X : K.In h) (G : h.Ns mainGlobals mg) (hfa : mg "law" = some (.ref fa))
    (gget : PySem.W.specialIn K (.builtin "object.__class__") "__get__" = some (some (.builtin "getset_descriptor.__get__")))
    (gtak : PySem.W.takesIn K (.builtin "object.__class__") = some true)
    {f0 : Addr} {od0 an0 : Option Addr} {sl0 : Array (Option Value)} {oc0 kV0 dc0 pm0 cd0 ct0 : Value}
    {f1 : Addr} {od1 an1 : Option Addr} {sl1 : Array (Option Value)} {oc1 kV1 dc1 pm1 cd1 ct1 : Value}
    {f2 : Addr} {od2 an2 : Option Addr} {sl2 : Array (Option Value)} {oc2 kV2 dc2 pm2 cd2 ct2 : Value}
    {f3 : Addr} {od3 an3 : Option Addr} {sl3 : Array (Option Value)} {oc3 kV3 dc3 pm3 cd3 ct3 : Value}
    {f4 : Addr} {od4 an4 : Option Addr} {sl4 : Array (Option Value)} {oc4 kV4 dc4 pm4 cd4 ct4 : Value}
    {f5 : Addr} {od5 an5 : Option Addr} {sl5 : Array (Option Value)} {oc5 kV5 dc5 pm5 cd5 ct5 : Value}
    {f6 : Addr} {od6 an6 : Option Addr} {sl6 : Array (Option Value)} {oc6 kV6 dc6 pm6 cd6 ct6 : Value}
    {f7 : Addr} {od7 an7 : Option Addr} {sl7 : Array (Option Value)} {oc7 kV7 dc7 pm7 cd7 ct7 : Value}
    {f8 : Addr} {od8 an8 : Option Addr} {sl8 : Array (Option Value)} {oc8 kV8 dc8 pm8 cd8 ct8 : Value}
    {f9 : Addr} {od9 an9 : Option Addr} {sl9 : Array (Option Value)} {oc9 kV9 dc9 pm9 cd9 ct9 : Value}
    {f10 : Addr} {od10 an10 : Option Addr} {sl10 : Array (Option Value)} {oc10 kV10 dc10 pm10 cd10 ct10 : Value}
    {f11 : Addr} {od11 an11 : Option Addr} {sl11 : Array (Option Value)} {oc11 kV11 dc11 pm11 cd11 ct11 : Value}
    {f12 : Addr} {od12 an12 : Option Addr} {sl12 : Array (Option Value)} {oc12 kV12 dc12 pm12 cd12 ct12 : Value}
    {f13 : Addr} {od13 an13 : Option Addr} {sl13 : Array (Option Value)} {oc13 kV13 dc13 pm13 cd13 ct13 : Value}
    {f14 : Addr} {od14 an14 : Option Addr} {sl14 : Array (Option Value)} {oc14 kV14 dc14 pm14 cd14 ct14 : Value}
    {f15 : Addr} {od15 an15 : Option Addr} {sl15 : Array (Option Value)} {oc15 kV15 dc15 pm15 cd15 ct15 : Value}
    {f16 : Addr} {od16 an16 : Option Addr} {sl16 : Array (Option Value)} {oc16 kV16 dc16 pm16 cd16 ct16 : Value}
    {f17 : Addr} {od17 an17 : Option Addr} {sl17 : Array (Option Value)} {oc17 kV17 dc17 pm17 cd17 ct17 : Value}
    {f18 : Addr} {od18 an18 : Option Addr} {sl18 : Array (Option Value)} {oc18 kV18 dc18 pm18 cd18 ct18 : Value}
    {f19 : Addr} {od19 an19 : Option Addr} {sl19 : Array (Option Value)} {oc19 kV19 dc19 pm19 cd19 ct19 : Value}
    {f20 : Addr} {od20 an20 : Option Addr} {sl20 : Array (Option Value)} {oc20 kV20 dc20 pm20 cd20 ct20 : Value}
    {f21 : Addr} {od21 an21 : Option Addr} {sl21 : Array (Option Value)} {oc21 kV21 dc21 pm21 cd21 ct21 : Value}
    {f22 : Addr} {od22 an22 : Option Addr} {sl22 : Array (Option Value)} {oc22 kV22 dc22 pm22 cd22 ct22 : Value}
    {f23 : Addr} {od23 an23 : Option Addr} {sl23 : Array (Option Value)} {oc23 kV23 dc23 pm23 cd23 ct23 : Value}
    (a0 : PySem.W.nsIn K mainGlobals "is_integer" = some (some (.ref f0))) (l0 : K.lookup f0 = some ⟨oc0, od0, .func (PySem.W.fnOf "is_integer" "is_integer" (defArgs s_is_integer) (defBody s_is_integer) (defScope s_is_integer) .none kV0 dc0 pm0 an0 cd0 ct0), sl0⟩) (c0 : PySem.W.codeIn K cd0 "is_integer" = true) (k0 : PySem.W.keepIn K (.ref f0) = true)
    (a1 : PySem.W.nsIn K mainGlobals "right_ends" = some (some (.ref f1))) (l1 : K.lookup f1 = some ⟨oc1, od1, .func (PySem.W.fnOf "right_ends" "right_ends" (defArgs s_right_ends) (defBody s_right_ends) (defScope s_right_ends) .none kV1 dc1 pm1 an1 cd1 ct1), sl1⟩) (c1 : PySem.W.codeIn K cd1 "right_ends" = true) (k1 : PySem.W.keepIn K (.ref f1) = true)
    (a2 : PySem.W.nsIn K mainGlobals "mirrored" = some (some (.ref f2))) (l2 : K.lookup f2 = some ⟨oc2, od2, .func (PySem.W.fnOf "mirrored" "mirrored" (defArgs s_mirrored) (defBody s_mirrored) (defScope s_mirrored) .none kV2 dc2 pm2 an2 cd2 ct2), sl2⟩) (c2 : PySem.W.codeIn K cd2 "mirrored" = true) (k2 : PySem.W.keepIn K (.ref f2) = true)
    (a3 : PySem.W.nsIn K mainGlobals "stretches" = some (some (.ref f3))) (l3 : K.lookup f3 = some ⟨oc3, od3, .func (PySem.W.fnOf "stretches" "stretches" (defArgs s_stretches) (defBody s_stretches) (defScope s_stretches) .none kV3 dc3 pm3 an3 cd3 ct3), sl3⟩) (c3 : PySem.W.codeIn K cd3 "stretches" = true) (k3 : PySem.W.keepIn K (.ref f3) = true)
    (a4 : PySem.W.nsIn K mainGlobals "spans_of" = some (some (.ref f4))) (l4 : K.lookup f4 = some ⟨oc4, od4, .func (PySem.W.fnOf "spans_of" "spans_of" (defArgs s_spans_of) (defBody s_spans_of) (defScope s_spans_of) .none kV4 dc4 pm4 an4 cd4 ct4), sl4⟩) (c4 : PySem.W.codeIn K cd4 "spans_of" = true) (k4 : PySem.W.keepIn K (.ref f4) = true)
    (a5 : PySem.W.nsIn K mainGlobals "far_ends" = some (some (.ref f5))) (l5 : K.lookup f5 = some ⟨oc5, od5, .func (PySem.W.fnOf "far_ends" "far_ends" (defArgs s_far_ends) (defBody s_far_ends) (defScope s_far_ends) .none kV5 dc5 pm5 an5 cd5 ct5), sl5⟩) (c5 : PySem.W.codeIn K cd5 "far_ends" = true) (k5 : PySem.W.keepIn K (.ref f5) = true)
    (a6 : PySem.W.nsIn K mainGlobals "check_index" = some (some (.ref f6))) (l6 : K.lookup f6 = some ⟨oc6, od6, .func (PySem.W.fnOf "check_index" "check_index" (defArgs s_check_index) (defBody s_check_index) (defScope s_check_index) .none kV6 dc6 pm6 an6 cd6 ct6), sl6⟩) (c6 : PySem.W.codeIn K cd6 "check_index" = true) (k6 : PySem.W.keepIn K (.ref f6) = true)
    (a7 : PySem.W.nsIn K mainGlobals "best_from" = some (some (.ref f7))) (l7 : K.lookup f7 = some ⟨oc7, od7, .func (PySem.W.fnOf "best_from" "best_from" (defArgs s_best_from) (defBody s_best_from) (defScope s_best_from) .none kV7 dc7 pm7 an7 cd7 ct7), sl7⟩) (c7 : PySem.W.codeIn K cd7 "best_from" = true) (k7 : PySem.W.keepIn K (.ref f7) = true)
    (a8 : PySem.W.nsIn K mainGlobals "most_felled" = some (some (.ref f8))) (l8 : K.lookup f8 = some ⟨oc8, od8, .func (PySem.W.fnOf "most_felled" "most_felled" (defArgs s_most_felled) (defBody s_most_felled) (defScope s_most_felled) .none kV8 dc8 pm8 an8 cd8 ct8), sl8⟩) (c8 : PySem.W.codeIn K cd8 "most_felled" = true) (k8 : PySem.W.keepIn K (.ref f8) = true)
    (a9 : PySem.W.nsIn K mainGlobals "_law_opened" = some (some (.ref f9))) (l9 : K.lookup f9 = some ⟨oc9, od9, .func (PySem.W.fnOf "_law_opened" "_law_opened" (defArgs s__law_opened) (defBody s__law_opened) (defScope s__law_opened) .none kV9 dc9 pm9 an9 cd9 ct9), sl9⟩) (c9 : PySem.W.codeIn K cd9 "_law_opened" = true) (k9 : PySem.W.keepIn K (.ref f9) = true)
    (a10 : PySem.W.nsIn K mainGlobals "_law_take" = some (some (.ref f10))) (l10 : K.lookup f10 = some ⟨oc10, od10, .func (PySem.W.fnOf "_law_take" "_law_take" (defArgs s__law_take) (defBody s__law_take) (defScope s__law_take) .none kV10 dc10 pm10 an10 cd10 ct10), sl10⟩) (c10 : PySem.W.codeIn K cd10 "_law_take" = true) (k10 : PySem.W.keepIn K (.ref f10) = true)
    (a11 : PySem.W.nsIn K mainGlobals "_law_stones" = some (some (.ref f11))) (l11 : K.lookup f11 = some ⟨oc11, od11, .func (PySem.W.fnOf "_law_stones" "_law_stones" (defArgs s__law_stones) (defBody s__law_stones) (defScope s__law_stones) .none kV11 dc11 pm11 an11 cd11 ct11), sl11⟩) (c11 : PySem.W.codeIn K cd11 "_law_stones" = true) (k11 : PySem.W.keepIn K (.ref f11) = true)
    (a12 : PySem.W.nsIn K mainGlobals "_law_right" = some (some (.ref f12))) (l12 : K.lookup f12 = some ⟨oc12, od12, .func (PySem.W.fnOf "_law_right" "_law_right" (defArgs s__law_right) (defBody s__law_right) (defScope s__law_right) .none kV12 dc12 pm12 an12 cd12 ct12), sl12⟩) (c12 : PySem.W.codeIn K cd12 "_law_right" = true) (k12 : PySem.W.keepIn K (.ref f12) = true)
    (a13 : PySem.W.nsIn K mainGlobals "_law_left" = some (some (.ref f13))) (l13 : K.lookup f13 = some ⟨oc13, od13, .func (PySem.W.fnOf "_law_left" "_law_left" (defArgs s__law_left) (defBody s__law_left) (defScope s__law_left) .none kV13 dc13 pm13 an13 cd13 ct13), sl13⟩) (c13 : PySem.W.codeIn K cd13 "_law_left" = true) (k13 : PySem.W.keepIn K (.ref f13) = true)
    (a14 : PySem.W.nsIn K mainGlobals "_law_pushes" = some (some (.ref f14))) (l14 : K.lookup f14 = some ⟨oc14, od14, .func (PySem.W.fnOf "_law_pushes" "_law_pushes" (defArgs s__law_pushes) (defBody s__law_pushes) (defScope s__law_pushes) .none kV14 dc14 pm14 an14 cd14 ct14), sl14⟩) (c14 : PySem.W.codeIn K cd14 "_law_pushes" = true) (k14 : PySem.W.keepIn K (.ref f14) = true)
    (a15 : PySem.W.nsIn K mainGlobals "_law_ends" = some (some (.ref f15))) (l15 : K.lookup f15 = some ⟨oc15, od15, .func (PySem.W.fnOf "_law_ends" "_law_ends" (defArgs s__law_ends) (defBody s__law_ends) (defScope s__law_ends) .none kV15 dc15 pm15 an15 cd15 ct15), sl15⟩) (c15 : PySem.W.codeIn K cd15 "_law_ends" = true) (k15 : PySem.W.keepIn K (.ref f15) = true)
    (a16 : PySem.W.nsIn K mainGlobals "_law_whole" = some (some (.ref f16))) (l16 : K.lookup f16 = some ⟨oc16, od16, .func (PySem.W.fnOf "_law_whole" "_law_whole" (defArgs s__law_whole) (defBody s__law_whole) (defScope s__law_whole) .none kV16 dc16 pm16 an16 cd16 ct16), sl16⟩) (c16 : PySem.W.codeIn K cd16 "_law_whole" = true) (k16 : PySem.W.keepIn K (.ref f16) = true)
    (a17 : PySem.W.nsIn K mainGlobals "_law_is_push" = some (some (.ref f17))) (l17 : K.lookup f17 = some ⟨oc17, od17, .func (PySem.W.fnOf "_law_is_push" "_law_is_push" (defArgs s__law_is_push) (defBody s__law_is_push) (defScope s__law_is_push) .none kV17 dc17 pm17 an17 cd17 ct17), sl17⟩) (c17 : PySem.W.codeIn K cd17 "_law_is_push" = true) (k17 : PySem.W.keepIn K (.ref f17) = true)
    (a18 : PySem.W.nsIn K mainGlobals "_law_felled" = some (some (.ref f18))) (l18 : K.lookup f18 = some ⟨oc18, od18, .func (PySem.W.fnOf "_law_felled" "_law_felled" (defArgs s__law_felled) (defBody s__law_felled) (defScope s__law_felled) .none kV18 dc18 pm18 an18 cd18 ct18), sl18⟩) (c18 : PySem.W.codeIn K cd18 "_law_felled" = true) (k18 : PySem.W.keepIn K (.ref f18) = true)
    (a19 : PySem.W.nsIn K mainGlobals "_law_power" = some (some (.ref f19))) (l19 : K.lookup f19 = some ⟨oc19, od19, .func (PySem.W.fnOf "_law_power" "_law_power" (defArgs s__law_power) (defBody s__law_power) (defScope s__law_power) .none kV19 dc19 pm19 an19 cd19 ct19), sl19⟩) (c19 : PySem.W.codeIn K cd19 "_law_power" = true) (k19 : PySem.W.keepIn K (.ref f19) = true)
    (a20 : PySem.W.nsIn K mainGlobals "_law_masks" = some (some (.ref f20))) (l20 : K.lookup f20 = some ⟨oc20, od20, .func (PySem.W.fnOf "_law_masks" "_law_masks" (defArgs s__law_masks) (defBody s__law_masks) (defScope s__law_masks) .none kV20 dc20 pm20 an20 cd20 ct20), sl20⟩) (c20 : PySem.W.codeIn K cd20 "_law_masks" = true) (k20 : PySem.W.keepIn K (.ref f20) = true)
    (a21 : PySem.W.nsIn K mainGlobals "_law_same" = some (some (.ref f21))) (l21 : K.lookup f21 = some ⟨oc21, od21, .func (PySem.W.fnOf "_law_same" "_law_same" (defArgs s__law_same) (defBody s__law_same) (defScope s__law_same) .none kV21 dc21 pm21 an21 cd21 ct21), sl21⟩) (c21 : PySem.W.codeIn K cd21 "_law_same" = true) (k21 : PySem.W.keepIn K (.ref f21) = true)
    (a22 : PySem.W.nsIn K mainGlobals "_law_bits" = some (some (.ref f22))) (l22 : K.lookup f22 = some ⟨oc22, od22, .func (PySem.W.fnOf "_law_bits" "_law_bits" (defArgs s__law_bits) (defBody s__law_bits) (defScope s__law_bits) .none kV22 dc22 pm22 an22 cd22 ct22), sl22⟩) (c22 : PySem.W.codeIn K cd22 "_law_bits" = true) (k22 : PySem.W.keepIn K (.ref f22) = true)
    (a23 : PySem.W.nsIn K mainGlobals "law" = some (some (.ref f23))) (l23 : K.lookup f23 = some ⟨oc23, od23, .func (PySem.W.fnOf "law" "law" (defArgs s_law) (defBody s_law) (defScope s_law) .none kV23 dc23 pm23 an23 cd23 ct23), sl23⟩) (c23 : PySem.W.codeIn K cd23 "law" = true) (k23 : PySem.W.keepIn K (.ref f23) = true)
    (z_abs : PySem.W.nsIn K mainGlobals "abs" = some none)
    (z_bool : PySem.W.nsIn K mainGlobals "bool" = some none)
    (z_dict : PySem.W.nsIn K mainGlobals "dict" = some none)
    (z_enumerate : PySem.W.nsIn K mainGlobals "enumerate" = some none)
    (z_int : PySem.W.nsIn K mainGlobals "int" = some none)
    (z_isinstance : PySem.W.nsIn K mainGlobals "isinstance" = some none)
    (z_len : PySem.W.nsIn K mainGlobals "len" = some none)
    (z_list : PySem.W.nsIn K mainGlobals "list" = some none)
    (z_max : PySem.W.nsIn K mainGlobals "max" = some none)
    (z_min : PySem.W.nsIn K mainGlobals "min" = some none)
    (z_range : PySem.W.nsIn K mainGlobals "range" = some none)
    (z_repr : PySem.W.nsIn K mainGlobals "repr" = some none)
    (z_set : PySem.W.nsIn K mainGlobals "set" = some none)
    (z_sorted : PySem.W.nsIn K mainGlobals "sorted" = some none)
    (z_str : PySem.W.nsIn K mainGlobals "str" = some none)
    (z_sum : PySem.W.nsIn K mainGlobals "sum" = some none)
    (z_tuple : PySem.W.nsIn K mainGlobals "tuple" = some none)
    {t_LEFT : Tok} (y_LEFT : PySem.W.nsIn K mainGlobals "LEFT" = some (some (.str "left" t_LEFT)))
    {t_RIGHT : Tok} (y_RIGHT : PySem.W.nsIn K mainGlobals "RIGHT" = some (some (.str "right" t_RIGHT)))
    {cc_NoIndex : Addr} (q_NoIndex : PySem.W.nsIn K mainGlobals "NoIndex" = some (some (.ref cc_NoIndex)))
    {cc_FallError : Addr} (q_FallError : PySem.W.nsIn K mainGlobals "FallError" = some (some (.ref cc_FallError)))
    {nm_NoIndex qn_NoIndex : Str} {N_NoIndex : Addr} {bs_NoIndex : List Value} {sn_NoIndex : List Str} {sb_NoIndex : List Value} {ab_NoIndex : Bool} {co_NoIndex : Option Bool} {dd_NoIndex : Option Addr} {m0_NoIndex m1_NoIndex m2_NoIndex m3_NoIndex m5_NoIndex : Option Value}
    (xl_NoIndex : K.lookup cc_NoIndex = some (PySem.excClassObj nm_NoIndex qn_NoIndex cc_NoIndex N_NoIndex bs_NoIndex [.ref cc_FallError, .type "ValueError", .type "Exception", .type "BaseException", .type "object"] true sn_NoIndex sb_NoIndex ab_NoIndex co_NoIndex dd_NoIndex m0_NoIndex m1_NoIndex m2_NoIndex m3_NoIndex m5_NoIndex "ValueError.__new__"))
    (sa_NoIndex : PySem.W.findIn K (.ref cc_NoIndex) "__setattr__" = some (some (.builtin "object.__setattr__")))
    (ga_NoIndex : PySem.W.findIn K (.ref cc_NoIndex) "__getattribute__" = some (some (.builtin "BaseException.__getattribute__")))
    (gg_NoIndex : PySem.W.findIn K (.ref cc_NoIndex) "__getattr__" = some none)
    (cl_NoIndex : PySem.W.findIn K (.ref cc_NoIndex) "__class__" = some (some (.builtin "object.__class__")))
    (kc_NoIndex : PySem.W.keepIn K (.ref cc_NoIndex) = true)
    (be_NoIndex : PySem.W.subIn K (.ref cc_NoIndex) (.type "BaseException") = some true)
    (ty_NoIndex : PySem.W.typeIn K (.ref cc_NoIndex) = some (.type "type"))
    (hd_NoIndex : PySem.W.hasDictIn K cc_NoIndex = true)
    (ob_NoIndex : PySem.W.mroIn K cc_NoIndex (.type "object") = some true)
    (ve_NoIndex : PySem.W.subIn K (.ref cc_NoIndex) (.type "ValueError") = some true)
    (se_NoIndex : PySem.W.subIn K (.ref cc_NoIndex) (.ref cc_NoIndex) = some true)
    (nf_NoIndex_index : PySem.W.findIn K (.ref cc_NoIndex) "index" = some none)
    {fi_NoIndex : Addr} {iod_NoIndex ian_NoIndex : Option Addr} {isl_NoIndex : Array (Option Value)} {ioc_NoIndex ikV_NoIndex idc_NoIndex ipm_NoIndex icd_NoIndex ict_NoIndex : Value}
    (i_NoIndex_a : PySem.W.findIn K (.ref cc_NoIndex) "__init__" = some (some (.ref fi_NoIndex)))
    (i_NoIndex_t : PySem.W.typeIn K (.ref fi_NoIndex) = some (.type "function"))
    (i_NoIndex_l : K.lookup fi_NoIndex = some ⟨ioc_NoIndex, iod_NoIndex, .func (PySem.W.fnOf "__init__" "NoIndex.__init__" (defArgs i_NoIndex) (defBody i_NoIndex) (defScope i_NoIndex) .none ikV_NoIndex idc_NoIndex ipm_NoIndex ian_NoIndex icd_NoIndex ict_NoIndex), isl_NoIndex⟩)
    (i_NoIndex_c : PySem.W.codeIn K icd_NoIndex "NoIndex.__init__" = true)
    (i_NoIndex_k : PySem.W.keepIn K (.ref fi_NoIndex) = true) :
    ∃ fd : FuncData, (∀ (s : Shared) (v : Value), BindsTo s fd ⟨[v], []⟩ [("_law_script", v)]) ∧ ∀ base : Heap, K.In base → base.Ns mainGlobals mg → FnG l.prog w K mg base 7 fa fd ["_law_script"] (spLaw K) := by
  have e := hfa.symm.trans (PySem.W.mg_of X G a23)
  cases e
  have k_NoIndex : clsA mg "NoIndex" = cc_NoIndex := clsA_of (PySem.W.mg_of X G q_NoIndex)
  have k_FallError : clsA mg "FallError" = cc_FallError := clsA_of (PySem.W.mg_of X G q_FallError)
  have E_NoIndex : PySem.W.EClass K cc_NoIndex := ⟨ga_NoIndex, gg_NoIndex, be_NoIndex, hd_NoIndex, cl_NoIndex, gget, gtak, ob_NoIndex⟩
  have T : Txt K mg := ⟨PySem.W.mg_none_of X G z_abs, PySem.W.mg_none_of X G z_bool, PySem.W.mg_none_of X G z_dict, PySem.W.mg_none_of X G z_enumerate, PySem.W.mg_none_of X G z_int, PySem.W.mg_none_of X G z_isinstance, PySem.W.mg_none_of X G z_len, PySem.W.mg_none_of X G z_list, PySem.W.mg_none_of X G z_max, PySem.W.mg_none_of X G z_min, PySem.W.mg_none_of X G z_range, PySem.W.mg_none_of X G z_repr, PySem.W.mg_none_of X G z_set, PySem.W.mg_none_of X G z_sorted, PySem.W.mg_none_of X G z_str, PySem.W.mg_none_of X G z_sum, PySem.W.mg_none_of X G z_tuple, ⟨_, PySem.W.mg_of X G y_LEFT⟩, ⟨_, PySem.W.mg_of X G y_RIGHT⟩⟩
  exact ⟨PySem.W.fnOf "law" "law" (defArgs s_law) (defBody s_law) (defScope s_law) .none kV23 dc23 pm23 an23 cd23 ct23, fun s v => .of_eq rfl, fun base _ _ => by
    have V_NoIndex := fun_mk (st := i_NoIndex) i_NoIndex_l i_NoIndex_c i_NoIndex_k
    have Y_NoIndex := V_NoIndex.binds (ps := ["self", "index"]) fun _ _ _ _ _ _ us hl => match us, hl with | [_, _], _ => rfl
    have O_NoIndex : OexC K cc_NoIndex := ⟨⟨nm_NoIndex, qn_NoIndex, N_NoIndex, bs_NoIndex, _, sn_NoIndex, sb_NoIndex, ab_NoIndex, co_NoIndex, dd_NoIndex, m0_NoIndex, m1_NoIndex, m2_NoIndex, m3_NoIndex, m5_NoIndex, xl_NoIndex, rfl⟩, sa_NoIndex, be_NoIndex, ty_NoIndex, kc_NoIndex⟩
    have X_NoIndex : XMk l.prog w K mg base "NoIndex" "index" := ⟨cc_NoIndex, fi_NoIndex, _, _, PySem.W.mg_of X G q_NoIndex, O_NoIndex, i_NoIndex_a, i_NoIndex_t, ini_NoIndex V_NoIndex O_NoIndex nf_NoIndex_index, Y_NoIndex⟩
    have U0 := fun_mk (st := s_is_integer) l0 c0 k0
    have B0 := U0.binds (ps := ["value", "low", "high"]) fun _ _ _ _ _ _ us hl => match us, hl with | [_, _, _], _ => rfl
    have F_is_integer := d_is_integer (P := l.prog) (w := w) (base := base) T (PySem.W.mg_of X G a0) U0 B0 
    have U1 := fun_mk (st := s_right_ends) l1 c1 k1
    have B1 := U1.binds (ps := ["row"]) fun _ _ _ _ _ _ us hl => match us, hl with | [_], _ => rfl
    have F_right_ends := d_right_ends (P := l.prog) (w := w) (base := base) T (PySem.W.mg_of X G a1) U1 B1 
    have U2 := fun_mk (st := s_mirrored) l2 c2 k2
    have B2 := U2.binds (ps := ["row"]) fun _ _ _ _ _ _ us hl => match us, hl with | [_], _ => rfl
    have F_mirrored := d_mirrored (P := l.prog) (w := w) (base := base) T (PySem.W.mg_of X G a2) U2 B2 
    have U3 := fun_mk (st := s_stretches) l3 c3 k3
    have B3 := U3.binds (ps := ["row"]) fun _ _ _ _ _ _ us hl => match us, hl with | [_], _ => rfl
    have F_stretches := d_stretches (P := l.prog) (w := w) (base := base) T (PySem.W.mg_of X G a3) U3 B3 F_right_ends F_mirrored
    have U4 := fun_mk (st := s_spans_of) l4 c4 k4
    have B4 := U4.binds (ps := ["row"]) fun _ _ _ _ _ _ us hl => match us, hl with | [_], _ => rfl
    have F_spans_of := d_spans_of (P := l.prog) (w := w) (base := base) T (PySem.W.mg_of X G a4) U4 B4 F_stretches
    have U5 := fun_mk (st := s_far_ends) l5 c5 k5
    have B5 := U5.binds (ps := ["row"]) fun _ _ _ _ _ _ us hl => match us, hl with | [_], _ => rfl
    have F_far_ends := d_far_ends (P := l.prog) (w := w) (base := base) T (PySem.W.mg_of X G a5) U5 B5 F_spans_of
    have U6 := fun_mk (st := s_check_index) l6 c6 k6
    have B6 := U6.binds (ps := ["value", "many"]) fun _ _ _ _ _ _ us hl => match us, hl with | [_, _], _ => rfl
    have F_check_index := d_check_index (P := l.prog) (w := w) (base := base) T (PySem.W.mg_of X G a6) U6 B6 F_is_integer X_NoIndex
    have U7 := fun_mk (st := s_best_from) l7 c7 k7
    have B7 := U7.binds (ps := ["row", "many"]) fun _ _ _ _ _ _ us hl => match us, hl with | [_, _], _ => rfl
    have F_best_from := d_best_from (P := l.prog) (w := w) (base := base) T (PySem.W.mg_of X G a7) U7 B7 F_far_ends
    have U8 := fun_mk (st := s_most_felled) l8 c8 k8
    have B8 := U8.binds (ps := ["row", "many"]) fun _ _ _ _ _ _ us hl => match us, hl with | [_, _], _ => rfl
    have F_most_felled := d_most_felled (P := l.prog) (w := w) (base := base) T (PySem.W.mg_of X G a8) U8 B8 F_check_index F_best_from F_far_ends
    have U9 := fun_mk (st := s__law_opened) l9 c9 k9
    have B9 := U9.binds (ps := ["_law_script"]) fun _ _ _ _ _ _ us hl => match us, hl with | [_], _ => rfl
    have F__law_opened := d__law_opened (P := l.prog) (w := w) (base := base) T (PySem.W.mg_of X G a9) U9 B9 
    have U10 := fun_mk (st := s__law_take) l10 c10 k10
    have B10 := U10.binds (ps := ["_law_bag", "_law_many"]) fun _ _ _ _ _ _ us hl => match us, hl with | [_, _], _ => rfl
    have F__law_take := d__law_take (P := l.prog) (w := w) (base := base) T (PySem.W.mg_of X G a10) U10 B10 
    have U11 := fun_mk (st := s__law_stones) l11 c11 k11
    have B11 := U11.binds (ps := ["_law_bag", "_law_bound", "_law_wide"]) fun _ _ _ _ _ _ us hl => match us, hl with | [_, _, _], _ => rfl
    have F__law_stones := d__law_stones (P := l.prog) (w := w) (base := base) T (PySem.W.mg_of X G a11) U11 B11 F__law_take
    have U12 := fun_mk (st := s__law_right) l12 c12 k12
    have B12 := U12.binds (ps := ["_law_row", "_law_stone"]) fun _ _ _ _ _ _ us hl => match us, hl with | [_, _], _ => rfl
    have F__law_right := d__law_right (P := l.prog) (w := w) (base := base) T (PySem.W.mg_of X G a12) U12 B12 
    have U13 := fun_mk (st := s__law_left) l13 c13 k13
    have B13 := U13.binds (ps := ["_law_row", "_law_stone"]) fun _ _ _ _ _ _ us hl => match us, hl with | [_, _], _ => rfl
    have F__law_left := d__law_left (P := l.prog) (w := w) (base := base) T (PySem.W.mg_of X G a13) U13 B13 
    have U14 := fun_mk (st := s__law_pushes) l14 c14 k14
    have B14 := U14.binds (ps := ["_law_row"]) fun _ _ _ _ _ _ us hl => match us, hl with | [_], _ => rfl
    have F__law_pushes := d__law_pushes (P := l.prog) (w := w) (base := base) T (PySem.W.mg_of X G a14) U14 B14 
    have U15 := fun_mk (st := s__law_ends) l15 c15 k15
    have B15 := U15.binds (ps := ["_law_row"]) fun _ _ _ _ _ _ us hl => match us, hl with | [_], _ => rfl
    have F__law_ends := d__law_ends (P := l.prog) (w := w) (base := base) T (PySem.W.mg_of X G a15) U15 B15 F__law_left F__law_right
    have U16 := fun_mk (st := s__law_whole) l16 c16 k16
    have B16 := U16.binds (ps := ["_law_value", "_law_low", "_law_high"]) fun _ _ _ _ _ _ us hl => match us, hl with | [_, _, _], _ => rfl
    have F__law_whole := d__law_whole (P := l.prog) (w := w) (base := base) T (PySem.W.mg_of X G a16) U16 B16 
    have U17 := fun_mk (st := s__law_is_push) l17 c17 k17
    have B17 := U17.binds (ps := ["_law_row", "_law_value"]) fun _ _ _ _ _ _ us hl => match us, hl with | [_, _], _ => rfl
    have F__law_is_push := d__law_is_push (P := l.prog) (w := w) (base := base) T (PySem.W.mg_of X G a17) U17 B17 F__law_whole
    have U18 := fun_mk (st := s__law_felled) l18 c18 k18
    have B18 := U18.binds (ps := ["_law_row", "_law_cover"]) fun _ _ _ _ _ _ us hl => match us, hl with | [_, _], _ => rfl
    have F__law_felled := d__law_felled (P := l.prog) (w := w) (base := base) T (PySem.W.mg_of X G a18) U18 B18 F__law_pushes F__law_ends
    have U19 := fun_mk (st := s__law_power) l19 c19 k19
    have B19 := U19.binds (ps := ["_law_number"]) fun _ _ _ _ _ _ us hl => match us, hl with | [_], _ => rfl
    have F__law_power := d__law_power (P := l.prog) (w := w) (base := base) T (PySem.W.mg_of X G a19) U19 B19 
    have U20 := fun_mk (st := s__law_masks) l20 c20 k20
    have B20 := U20.binds (ps := ["_law_row"]) fun _ _ _ _ _ _ us hl => match us, hl with | [_], _ => rfl
    have F__law_masks := d__law_masks (P := l.prog) (w := w) (base := base) T (PySem.W.mg_of X G a20) U20 B20 F__law_ends F__law_power
    have U21 := fun_mk (st := s__law_same) l21 c21 k21
    have B21 := U21.binds (ps := ["_law_one", "_law_other"]) fun _ _ _ _ _ _ us hl => match us, hl with | [_, _], _ => rfl
    have F__law_same := d__law_same (P := l.prog) (w := w) (base := base) T (PySem.W.mg_of X G a21) U21 B21 
    have U22 := fun_mk (st := s__law_bits) l22 c22 k22
    have B22 := U22.binds (ps := ["_law_number"]) fun _ _ _ _ _ _ us hl => match us, hl with | [_], _ => rfl
    have F__law_bits := d__law_bits (P := l.prog) (w := w) (base := base) T (PySem.W.mg_of X G a22) U22 B22 
    have U23 := fun_mk (st := s_law) l23 c23 k23
    exact d_law T U23 F__law_opened F__law_stones F__law_masks F_most_felled F__law_same F__law_bits F__law_felled F__law_is_push⟩
end Lk33
open PySem PySem.W PyProof.Rows in
set_option maxRecDepth 100000 in
set_option maxHeartbeats 0 in
theorem PySem.Challenge.cw_toppleline_k33_most_felled_stones_holds : PySem.Challenge.rw_toppleline_k33_most_felled_stones.Holds := by
  w_on; o_law; k_headL; (case hw => w_witness2)
  k_fill
  refine DL.walkG (l := PySem.Challenge.rw_toppleline_k33_most_felled_stones) (k := 7) (x := "_law_script") (sp := fun K => Lk33.spLaw K) rfl rfl ⟨rfl, by decide, by decide⟩ (fun w h Y => PySem.W.kIn_of Y) ?F (fun K H a ns hl hO hS => Lk33.law_ok hl hS)
  case F =>
    intro w mg fa h KX G hmg
    refine' Lk33.all_mk KX G hmg ?gget ?gtak ?a0 ?l0 ?c0 ?k0 ?a1 ?l1 ?c1 ?k1 ?a2 ?l2 ?c2 ?k2 ?a3 ?l3 ?c3 ?k3 ?a4 ?l4 ?c4 ?k4 ?a5 ?l5 ?c5 ?k5 ?a6 ?l6 ?c6 ?k6 ?a7 ?l7 ?c7 ?k7 ?a8 ?l8 ?c8 ?k8 ?a9 ?l9 ?c9 ?k9 ?a10 ?l10 ?c10 ?k10 ?a11 ?l11 ?c11 ?k11 ?a12 ?l12 ?c12 ?k12 ?a13 ?l13 ?c13 ?k13 ?a14 ?l14 ?c14 ?k14 ?a15 ?l15 ?c15 ?k15 ?a16 ?l16 ?c16 ?k16 ?a17 ?l17 ?c17 ?k17 ?a18 ?l18 ?c18 ?k18 ?a19 ?l19 ?c19 ?k19 ?a20 ?l20 ?c20 ?k20 ?a21 ?l21 ?c21 ?k21 ?a22 ?l22 ?c22 ?k22 ?a23 ?l23 ?c23 ?k23 ?z_abs ?z_bool ?z_dict ?z_enumerate ?z_int ?z_isinstance ?z_len ?z_list ?z_max ?z_min ?z_range ?z_repr ?z_set ?z_sorted ?z_str ?z_sum ?z_tuple ?y_LEFT ?y_RIGHT ?q_NoIndex ?q_FallError ?xl_NoIndex ?sa_NoIndex ?ga_NoIndex ?gg_NoIndex ?cl_NoIndex ?kc_NoIndex ?be_NoIndex ?ty_NoIndex ?hd_NoIndex ?ob_NoIndex ?ve_NoIndex ?se_NoIndex ?nf_NoIndex_index ?i_NoIndex_a ?i_NoIndex_t ?i_NoIndex_l ?i_NoIndex_c ?i_NoIndex_k
    (case gget => k_is)
    (case gtak => k_is)
    (case a0 => k_is)
    (case l0 => k_is)
    (case c0 => k_is)
    (case k0 => k_is)
    (case a1 => k_is)
    (case l1 => k_is)
    (case c1 => k_is)
    (case k1 => k_is)
    (case a2 => k_is)
    (case l2 => k_is)
    (case c2 => k_is)
    (case k2 => k_is)
    (case a3 => k_is)
    (case l3 => k_is)
    (case c3 => k_is)
    (case k3 => k_is)
    (case a4 => k_is)
    (case l4 => k_is)
    (case c4 => k_is)
    (case k4 => k_is)
    (case a5 => k_is)
    (case l5 => k_is)
    (case c5 => k_is)
    (case k5 => k_is)
    (case a6 => k_is)
    (case l6 => k_is)
    (case c6 => k_is)
    (case k6 => k_is)
    (case a7 => k_is)
    (case l7 => k_is)
    (case c7 => k_is)
    (case k7 => k_is)
    (case a8 => k_is)
    (case l8 => k_is)
    (case c8 => k_is)
    (case k8 => k_is)
    (case a9 => k_is)
    (case l9 => k_is)
    (case c9 => k_is)
    (case k9 => k_is)
    (case a10 => k_is)
    (case l10 => k_is)
    (case c10 => k_is)
    (case k10 => k_is)
    (case a11 => k_is)
    (case l11 => k_is)
    (case c11 => k_is)
    (case k11 => k_is)
    (case a12 => k_is)
    (case l12 => k_is)
    (case c12 => k_is)
    (case k12 => k_is)
    (case a13 => k_is)
    (case l13 => k_is)
    (case c13 => k_is)
    (case k13 => k_is)
    (case a14 => k_is)
    (case l14 => k_is)
    (case c14 => k_is)
    (case k14 => k_is)
    (case a15 => k_is)
    (case l15 => k_is)
    (case c15 => k_is)
    (case k15 => k_is)
    (case a16 => k_is)
    (case l16 => k_is)
    (case c16 => k_is)
    (case k16 => k_is)
    (case a17 => k_is)
    (case l17 => k_is)
    (case c17 => k_is)
    (case k17 => k_is)
    (case a18 => k_is)
    (case l18 => k_is)
    (case c18 => k_is)
    (case k18 => k_is)
    (case a19 => k_is)
    (case l19 => k_is)
    (case c19 => k_is)
    (case k19 => k_is)
    (case a20 => k_is)
    (case l20 => k_is)
    (case c20 => k_is)
    (case k20 => k_is)
    (case a21 => k_is)
    (case l21 => k_is)
    (case c21 => k_is)
    (case k21 => k_is)
    (case a22 => k_is)
    (case l22 => k_is)
    (case c22 => k_is)
    (case k22 => k_is)
    (case a23 => k_is)
    (case l23 => k_is)
    (case c23 => k_is)
    (case k23 => k_is)
    (case z_abs => k_is)
    (case z_bool => k_is)
    (case z_dict => k_is)
    (case z_enumerate => k_is)
    (case z_int => k_is)
    (case z_isinstance => k_is)
    (case z_len => k_is)
    (case z_list => k_is)
    (case z_max => k_is)
    (case z_min => k_is)
    (case z_range => k_is)
    (case z_repr => k_is)
    (case z_set => k_is)
    (case z_sorted => k_is)
    (case z_str => k_is)
    (case z_sum => k_is)
    (case z_tuple => k_is)
    (case y_LEFT => k_is)
    (case y_RIGHT => k_is)
    (case q_NoIndex => k_is)
    (case q_FallError => k_is)
    (case xl_NoIndex => k_is)
    (case sa_NoIndex => k_is)
    (case ga_NoIndex => k_is)
    (case gg_NoIndex => k_is)
    (case cl_NoIndex => k_is)
    (case kc_NoIndex => k_is)
    (case be_NoIndex => k_is)
    (case ty_NoIndex => k_is)
    (case hd_NoIndex => k_is)
    (case ob_NoIndex => k_is)
    (case ve_NoIndex => k_is)
    (case se_NoIndex => k_is)
    (case nf_NoIndex_index => k_is)
    (case i_NoIndex_a => k_is)
    (case i_NoIndex_t => k_is)
    (case i_NoIndex_l => k_is)
    (case i_NoIndex_c => k_is)
    (case i_NoIndex_k => k_is)
