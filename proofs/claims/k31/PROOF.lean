import PyProof.Rows.All
import Wide.All
import OpenK.AllK
import Wide.FinOn
import HandS.ForMost
import HandS.ForExc
import HandS.CallSlots
import HandS.IsInst
import HandS.Deep
import HandS.SortInts
import HandS.Style
import HandS.Wide
import HandS.TupAny
import HandS.Conv
import HandS.Iter
import HandS.More
import HandS.ExcInit
import HandS.ExcField
import HandS.ExcIs
import KE.DataMinMax
import HandS.Star
import KE.GoesEnum
import HandS.Zip
import HandS.SetFor
import HandS.Strs
import HandS.TryOnly
import HandS.HotCalls
import HandS.ExcOwn
import KE.SortData
import PyProof.Rows.RowBridgeK
import HandS.Lambda
import HandS.EndTab
import PyProof.EqKinds
import PyProof.P3In
import PyProof.FactsAll.dict_1
import PyProof.FactsAll.subtypes_4
import HandS.Dict
import PyProof.Rows.SortShellAny
import PyProof.TupleOfSeq
import KE.DatumOrd
import KE.KDictZip
import KE.GoesZip
import KE.GoesMore
import HandS.Zip0
import HandS.ListItems
import PyProof.FactsAll.subtypes_1
import PyProof.FactsAll.int_1
import PyProof.WalksMore
import PyProof.SumWalkG
import PyProof.Rows.SumAny
import HandS.TupMul
import KE.KDictKeyed
import KE.DataCmp
import KE.KDictDisplayH
import KE.KDictWalk
import KE.KItemsList
import HandS.TupSets
import KE.KeyNested
import HandS.Text
import HandS.FStr
import HandS.Flow
import HandS.RaiseMore
import PyProof.StrOps2
import KE.IntTextLaws
import HandS.Property
import HandS.ClsMeth
import OpenK.KOps
import KE.KCallOwn
import HandS.Defaults
import KE.KUnpackStar
import HandS.Slots
import HandS.Finally
import HandS.GenList
import HandS.Exc
import HandS.ExcValue
import HandS.Keys
import KE.OsRunLaw
import PySem.Challenge.RW_toppleline_k31_covers_walked
set_option Elab.async false
set_option linter.all false
set_option maxRecDepth 100000
set_option maxHeartbeats 4000000
set_option exponentiation.threshold 3000
namespace DL
open PySem PySem.Spec L2
def keyD : Key → PyData
  | .inl i => .int i
  | .inr x => .str x
def bigI : Int := 2 ^ 1920
abbrev objK : PyData := .tuple [.int bigI]
structure ObjC (K : PySem.W.Frag) (nm : Str) (C : Addr) : Prop where
  cls : Cls K C
  ns : PySem.W.nsIn K mainGlobals nm = some (some (.ref C))
  ha : PySem.W.findIn K (.ref C) "__class__" = some (some (.builtin "object.__class__"))
  hn : PySem.W.specialIn K (.builtin "object.__class__") "__get__" = some (some (.builtin "getset_descriptor.__get__"))
  htk : PySem.W.takesIn K (.builtin "object.__class__") = some true
  hm : PySem.W.mroIn K C (.type "object") = some true
  no : ∀ T ∈ (["int", "bool", "str", "tuple", "list", "dict"] : List String), PySem.W.kitOne K (.ref C) (.type T) = some false
def fKv (fs : List (Str × V)) : List (Key × V) := fs.map fun p => (.inr p.1, p.2)
def isObj : List (PyData × PyData) → Bool
  | (.tuple _, _) :: _ => true
  | _ => false
mutual
inductive At (K : PySem.W.Frag) (F : Hp) : V → PyData → Prop
  | non : At K F .non .none
  | bl (b : Bool) : At K F (.bl b) (.bool b)
  | int (i : Int) : At K F (.int i) (.int i)
  | str (x : Str) : At K F (.str x) (.str x)
  | lst {a : Addr} {vs : List V} {ds : List PyData} : F a = some (.lst vs) → AtL K F vs ds → At K F (.ref a) (.list ds)
  | tup {a : Addr} {vs : List V} {ds : List PyData} : F a = some (.tup vs) → AtL K F vs ds → At K F (.ref a) (.tuple ds)
  | dct {a : Addr} {kvs : List (Key × V)} {ds : List (PyData × PyData)} : Rd F a (.dK kvs) → AtKv K F kvs ds → At K F (.ref a) (.dict ds)
  | obj {a C dx : Addr} {nm : Str} {fs : List (Str × V)} {ds : List (PyData × PyData)} : F a = some (.ins C dx fs) → ObjC K nm C → (∀ p ∈ fs, NoAttr K C p.1) → AtKv K F (fKv fs) ds → At K F (.ref a) (.dict ((objK, .str nm) :: ds))
inductive AtL (K : PySem.W.Frag) (F : Hp) : List V → List PyData → Prop
  | nil : AtL K F [] []
  | cons {v : V} {vs : List V} {d : PyData} {ds : List PyData} : At K F v d → AtL K F vs ds → AtL K F (v :: vs) (d :: ds)
inductive AtKv (K : PySem.W.Frag) (F : Hp) : List (Key × V) → List (PyData × PyData) → Prop
  | nil : AtKv K F [] []
  | cons {k : Key} {v : V} {r : List (Key × V)} {d : PyData} {ds : List (PyData × PyData)} : At K F v d → AtKv K F r ds → AtKv K F ((k, v) :: r) ((keyD k, d) :: ds)
end
theorem rd_mono {F F' : Hp} (e : Same F F') {a : Addr} {u : HO} (h : Rd F a u) : Rd F' a u := by
  rcases h with h | ⟨o, h⟩
  · exact .inl (e _ _ h)
  · exact .inr ⟨o, e _ _ h⟩
theorem sqL_mono {K : PySem.W.Frag} {F F' : Hp} (e : Same F F') {a : Addr} {vs : List V} (h : SqL K F a vs) : SqL K F' a vs := e.seq h
theorem sqT_mono {K : PySem.W.Frag} {F F' : Hp} (e : Same F F') {a : Addr} {vs : List V} (h : SqT K F a vs) : SqT K F' a vs := by
  rcases h with (h | ⟨o, h⟩) | h
  · exact .inl (.inl (e _ _ h))
  · exact .inl (.inr ⟨o, e _ _ h⟩)
  · exact .inr h
section
variable {K : PySem.W.Frag} {F F' : Hp}
mutual
theorem At.mono (e : Same F F') : ∀ (d : PyData) (v : V), At K F v d → At K F' v d
  | .none, _, h => by cases h; exact .non
  | .bool b, _, h => by cases h; exact .bl b
  | .int i, _, h => by cases h; exact .int i
  | .str x, _, h => by cases h; exact .str x
  | .list ds, _, h => by
    cases h with
    | lst hs ha => exact .lst (e _ _ hs) (AtL.mono e ds _ ha)
  | .tuple ds, _, h => by
    cases h with
    | tup hs ha => exact .tup (e _ _ hs) (AtL.mono e ds _ ha)
  | .dict ds, _, h => by
    cases h with
    | dct hs ha => exact .dct (rd_mono e hs) (AtKv.mono e ds _ ha)
    | obj hs ho hn ha => exact .obj (e _ _ hs) ho hn (AtKv.mono e _ _ ha)
theorem AtL.mono (e : Same F F') : ∀ (ds : List PyData) (vs : List V), AtL K F vs ds → AtL K F' vs ds
  | [], _, h => by cases h; exact .nil
  | d :: ds, _, h => by
    cases h with
    | cons h1 h2 => exact .cons (At.mono e d _ h1) (AtL.mono e ds _ h2)
theorem AtKv.mono (e : Same F F') : ∀ (ds : List (PyData × PyData)) (kvs : List (Key × V)), AtKv K F kvs ds → AtKv K F' kvs ds
  | [], _, h => by cases h; exact .nil
  | (k, d) :: ds, _, h => by
    cases h with
    | cons h1 h2 => exact .cons (At.mono e d _ h1) (AtKv.mono e ds _ h2)
end
inductive AtKt (K : PySem.W.Frag) (F : Hp) : List (List Key × V) → List (List Key × PyData) → Prop
  | nil : AtKt K F [] []
  | cons {k : List Key} {v : V} {r : List (List Key × V)} {d : PyData} {ds : List (List Key × PyData)} : At K F v d → AtKt K F r ds → AtKt K F ((k, v) :: r) ((k, d) :: ds)
theorem AtKt.mono (e : Same F F') : ∀ (ds : List (List Key × PyData)) (kvs : List (List Key × V)), AtKt K F kvs ds → AtKt K F' kvs ds
  | [], _, h => by cases h; exact .nil
  | (k, d) :: ds, _, h => by
    cases h with
    | cons h1 h2 => exact .cons (At.mono e d _ h1) (AtKt.mono e ds _ h2)
theorem AtL.length : ∀ {vs : List V} {ds : List PyData}, AtL K F vs ds → vs.length = ds.length
  | _, _, .nil => rfl
  | _, _, .cons _ h => by rw [List.length_cons, List.length_cons, AtL.length h]
theorem AtL.get : ∀ {vs : List V} {ds : List PyData} {i : Nat} {d : PyData}, AtL K F vs ds → ds[i]? = some d → ∃ v, vs[i]? = some v ∧ At K F v d
  | _, _, i, d, .nil, e => by simp at e
  | _, _, 0, d, .cons h _, e => by
    simp at e
    subst e
    exact ⟨_, rfl, h⟩
  | _, _, i + 1, d, .cons _ h, e => by
    obtain ⟨v, h1, h2⟩ := AtL.get (i := i) (d := d) h (by simpa using e)
    exact ⟨v, by simpa using h1, h2⟩
theorem AtL.get' : ∀ {vs : List V} {ds : List PyData} {i : Nat} {v : V}, AtL K F vs ds → vs[i]? = some v → ∃ d, ds[i]? = some d ∧ At K F v d
  | _, _, i, d, .nil, e => by simp at e
  | _, _, 0, d, .cons h _, e => by
    simp at e
    subst e
    exact ⟨_, rfl, h⟩
  | _, _, i + 1, d, .cons _ h, e => by
    obtain ⟨v, h1, h2⟩ := AtL.get' (i := i) h (by simpa using e)
    exact ⟨v, by simpa using h1, h2⟩
theorem AtL.append : ∀ {vs ws : List V} {ds es : List PyData}, AtL K F vs ds → AtL K F ws es → AtL K F (vs ++ ws) (ds ++ es)
  | _, _, _, _, .nil, h => h
  | _, _, _, _, .cons h t, h' => .cons h (AtL.append t h')
theorem AtL.take : ∀ {vs : List V} {ds : List PyData} (n : Nat), AtL K F vs ds → AtL K F (vs.take n) (ds.take n)
  | _, _, 0, _ => .nil
  | _, _, n + 1, .nil => .nil
  | _, _, n + 1, .cons h t => .cons h (AtL.take n t)
theorem AtL.drop : ∀ {vs : List V} {ds : List PyData} (n : Nat), AtL K F vs ds → AtL K F (vs.drop n) (ds.drop n)
  | _, _, 0, h => h
  | _, _, n + 1, .nil => .nil
  | _, _, n + 1, .cons h t => AtL.drop n t
theorem AtL.set {v : V} {d : PyData} (h : At K F v d) : ∀ {vs : List V} {ds : List PyData} (n : Nat), AtL K F vs ds → AtL K F (vs.set n v) (ds.set n d)
  | _, _, _, .nil => .nil
  | _, _, 0, .cons _ t => .cons h t
  | _, _, n + 1, .cons g t => .cons g (AtL.set h n t)
theorem AtL.reverse : ∀ {vs : List V} {ds : List PyData}, AtL K F vs ds → AtL K F vs.reverse ds.reverse
  | _, _, .nil => .nil
  | _, _, .cons h t => by
    rw [List.reverse_cons, List.reverse_cons]
    exact (AtL.reverse t).append (.cons h .nil)
theorem AtL.rep {vs : List V} {ds : List PyData} (h : AtL K F vs ds) : ∀ k : Nat, AtL K F (List.replicate k vs).flatten (List.replicate k ds).flatten
  | 0 => .nil
  | k + 1 => by
    rw [List.replicate_succ, List.replicate_succ, List.flatten_cons, List.flatten_cons]
    exact h.append (AtL.rep h k)
theorem AtL.ints {vs : List V} : ∀ {ns : List Int}, AtL K F vs (ns.map PyData.int) → vs = ns.map V.int := by
  intro ns
  induction ns generalizing vs with
  | nil => intro h; cases h; rfl
  | cons n ns ih =>
    intro h
    cases h with
    | cons h1 h2 =>
      cases h1
      rw [ih h2]
      rfl
theorem atL_ints : ∀ (ns : List Int), AtL K F (ns.map V.int) (ns.map PyData.int)
  | [] => .nil
  | n :: ns => .cons (.int n) (atL_ints ns)
end
structure DExc where
  cls : Str
  arg : Option (Str × PyData)
structure LkP where
  a : Addr
  o : Obj
  k : List (Key × V)
structure LkT where
  a : Addr
  o : Obj
  k : List (List Key × V)
inductive FV where
  | d (x : PyData)
  | r (a : Addr)
inductive AtF (K : PySem.W.Frag) (F : Hp) : V → FV → Prop
  | d {v : V} {x : PyData} : At K F v x → AtF K F v (.d x)
  | r (a : Addr) : AtF K F (.ref a) (.r a)
inductive AtFs (K : PySem.W.Frag) (F : Hp) : List (Str × V) → List (Str × FV) → Prop
  | nil : AtFs K F [] []
  | cons {f : Str} {v : V} {r : List (Str × V)} {x : FV} {xs : List (Str × FV)} : AtF K F v x → AtFs K F r xs → AtFs K F ((f, v) :: r) ((f, x) :: xs)
theorem AtF.mono {K : PySem.W.Frag} {F F' : Hp} (e : Same F F') {v : V} {x : FV} (h : AtF K F v x) : AtF K F' v x := by
  cases h with
  | d h => exact .d (At.mono e _ _ h)
  | r a => exact .r a
theorem AtFs.mono {K : PySem.W.Frag} {F F' : Hp} (e : Same F F') : ∀ {vs : List (Str × V)} {fs : List (Str × FV)}, AtFs K F vs fs → AtFs K F' vs fs
  | _, _, .nil => .nil
  | _, _, .cons h r => .cons (h.mono e) (AtFs.mono e r)
inductive AtFl (K : PySem.W.Frag) (F : Hp) : List V → List FV → Prop
  | nil : AtFl K F [] []
  | cons {v : V} {r : List V} {x : FV} {xs : List FV} : AtF K F v x → AtFl K F r xs → AtFl K F (v :: r) (x :: xs)
theorem AtFl.mono {K : PySem.W.Frag} {F F' : Hp} (e : Same F F') : ∀ {vs : List V} {fs : List FV}, AtFl K F vs fs → AtFl K F' vs fs
  | _, _, .nil => .nil
  | _, _, .cons h r => .cons (h.mono e) (AtFl.mono e r)
def sqO (tup : Bool) (vs : List V) : HO := match tup with
  | true => .tup vs
  | false => .lst vs
inductive DV where
  | d (x : PyData)
  | own (xs : List PyData)
  | bor (xs : List PyData)
  | cask
  | raw (v : V)
  | scr (xs : List Int)
  | odk (ks : List (PyData × PyData))
  | bdk (ks : List (PyData × PyData))
  | olk (p : Unit → LkP) (ks : List (PyData × PyData))
  | blk (p : Unit → LkP) (ks : List (PyData × PyData))
  | ldk (p : Unit → LkP) (ks : List (PyData × PyData))
  | exc (a C : Addr) (d : Option Addr) (e : DExc)
  | odt (a : Addr) (ks : List (List Key × PyData))
  | bdt (a : Addr) (ks : List (List Key × PyData))
  | ldt (p : Unit → LkT) (ks : List (List Key × PyData))
  | ins (a : Addr) (nm : Str) (fs : List (Str × FV))
  | fvs (tup : Bool) (xs : List FV)
def DV.isOwn : DV → Bool
  | .ins _ _ _ => true
  | .own _ => true
  | .odk _ => true
  | .olk _ _ => true
  | .odt _ _ => true
  | _ => false
def DV.isBor : DV → Bool
  | .bor _ => true
  | .bdk _ => true
  | .blk _ _ => true
  | .bdt _ _ => true
  | _ => false
abbrev Env := List (Option DV)
structure Gm where
  K : PySem.W.Frag
  F0 : Hp
  B : Hp
  C : Addr → Prop
  cv : V
  J : Nat → Hp → Prop
  n : Nat
  lim : Nat
@[reducible] def Gm.up (G : Gm) (u : Nat) : Gm := { G with n := G.n + u }
theorem up_up {G : Gm} {a b : Nat} : (G.up a).up b = G.up (a + b) := by
  show ({ G with n := G.n + a + b } : Gm) = { G with n := G.n + (a + b) }
  rw [Nat.add_assoc]
structure Gm.Ok (G : Gm) : Prop where
  js : ∀ n H H', G.J n H → (∀ p, G.C p → H' p = H p) → (∀ p x, H p = some (.ext x) → H' p = some (.ext x)) → G.J n H'
  jm : ∀ n k H, n ≤ k → G.J n H → G.J k H
  jn : ∀ n H, G.J n H → ∀ p, G.C p → H p ≠ none
  cb : ∀ p, G.C p → G.B p ≠ none
  jt : ∀ n H, G.J n H → ∀ p, G.C p → ∀ vs, H p ≠ some (.tup vs)
def VOk (G : Gm) (F H : Hp) (v : V) : DV → Prop
  | .d x => At G.K F v x
  | .own xs => ∃ l vs, v = .ref l ∧ H l = some (.lst vs) ∧ AtL G.K F vs xs ∧ F l = none ∧ G.B l = none
  | .bor xs => ∃ l vs, v = .ref l ∧ H l = some (.lst vs) ∧ AtL G.K F vs xs ∧ G.B l = none
  | .cask => v = G.cv
  | .raw u => v = u
  | .scr xs => ∃ a, v = .ref a ∧ SqL G.K F a (xs.map V.int)
  | .fvs tup xs => ∃ a vs, v = .ref a ∧ F a = some (sqO tup vs) ∧ AtFl G.K F vs xs
  | .odk ks => ∃ l kvs, v = .ref l ∧ H l = some (.dK kvs) ∧ AtKv G.K F kvs ks ∧ F l = none ∧ G.B l = none
  | .bdk ks => ∃ l kvs, v = .ref l ∧ Rd H l (.dK kvs) ∧ AtKv G.K F kvs ks ∧ G.B l = none
  | .olk p ks => ∃ q : LkP, q = p () ∧ v = .ref (p ()).a ∧ H (p ()).a = some (.frz (p ()).o (.dK (p ()).k)) ∧ AtKv G.K F (p ()).k ks ∧ F (p ()).a = none ∧ G.B (p ()).a = none
  | .blk p ks => ∃ q : LkP, q = p () ∧ v = .ref (p ()).a ∧ H (p ()).a = some (.frz (p ()).o (.dK (p ()).k)) ∧ AtKv G.K F (p ()).k ks ∧ G.B (p ()).a = none
  | .ldk p ks => ∃ q : LkP, q = p () ∧ v = .ref (p ()).a ∧ F (p ()).a = some (.frz (p ()).o (.dK (p ()).k)) ∧ AtKv G.K F (p ()).k ks
  | .odt a ks => v = .ref a ∧ ∃ kvs, H a = some (.dT kvs) ∧ AtKt G.K F kvs ks ∧ F a = none ∧ G.B a = none
  | .ldt p ks => ∃ q : LkT, q = p () ∧ v = .ref (p ()).a ∧ F (p ()).a = some (.frz (p ()).o (.dT (p ()).k)) ∧ AtKt G.K F (p ()).k ks
  | .bdt a ks => v = .ref a ∧ ∃ kvs, Rd H a (.dT kvs) ∧ AtKt G.K F kvs ks ∧ G.B a = none
  | .ins a nm fs => v = .ref a ∧ ∃ (C dx : Addr) (vs : List (Str × V)), H a = some (.ins C dx vs) ∧ ObjC G.K nm C ∧ (∀ p ∈ vs, NoAttr G.K C p.1) ∧ AtFs G.K F vs fs ∧ F a = none ∧ G.B a = none
  | .exc a _ d e => v = .ref a ∧ match e.arg with
    | none => d = none
    | some (f, x) => ∃ dd w, d = some dd ∧ F dd = some (.xd [(f, w)]) ∧ At G.K F w x
structure Good (G : Gm) (F : Hp) (δ : Env) (σ : L2.St) (H : Hp) : Prop where
  g : G.Ok
  len : δ.length = σ.length
  f0 : Same G.F0 F
  fh : Same F H
  fr : ∀ p, F p ≠ none → G.F0 p = none → G.B p = none ∨ ∃ vs, F p = some (.tup vs)
  bh : ∀ p o, ¬ G.C p → G.B p = some o → H p = some o
  cf : ∀ p, G.C p → F p = none
  jh : G.J G.n H
  sl : ∀ (i : Nat) (dv : DV), δ[i]? = some (some dv) → ∃ v, σ[i]? = some (some v) ∧ VOk G F H v dv
  di : ∀ (i j : Nat) (x y : DV) (l : Addr), x.isOwn = true → y.isOwn = true → δ[i]? = some (some x) → δ[j]? = some (some y) → σ[i]? = some (some (.ref l)) → σ[j]? = some (some (.ref l)) → i = j
section
variable {G : Gm} {F F' H H' : Hp} {δ δ' : Env} {σ σ' : L2.St} {v : V} {dv : DV}
theorem VOk.keep (h : VOk G F H v dv) (hf : Same F F') (hh : ∀ l (o : HO), (dv.isOwn || dv.isBor) = true → v = .ref l → H l = some o → H' l = some o) (hn : ∀ l, dv.isOwn = true → v = .ref l → F l = none → F' l = none) : VOk G F' H' v dv := by
  cases dv with
  | d x => exact At.mono hf _ _ h
  | own xs =>
    obtain ⟨l, vs, rfl, h1, h2, h3, h4⟩ := h
    exact ⟨l, vs, rfl, hh l _ rfl rfl h1, AtL.mono hf _ _ h2, hn l rfl rfl h3, h4⟩
  | bor xs =>
    obtain ⟨l, vs, rfl, h1, h2, h3⟩ := h
    exact ⟨l, vs, rfl, hh l _ rfl rfl h1, AtL.mono hf _ _ h2, h3⟩
  | odk xs =>
    obtain ⟨l, vs, rfl, h1, h2, h3, h4⟩ := h
    exact ⟨l, vs, rfl, hh l _ rfl rfl h1, AtKv.mono hf _ _ h2, hn l rfl rfl h3, h4⟩
  | bdk xs =>
    obtain ⟨l, vs, rfl, h1, h2, h3⟩ := h
    refine ⟨l, vs, rfl, ?_, AtKv.mono hf _ _ h2, h3⟩
    rcases h1 with h1 | ⟨o, h1⟩
    · exact .inl (hh l _ rfl rfl h1)
    · exact .inr ⟨o, hh l _ rfl rfl h1⟩
  | olk p xs =>
    obtain ⟨_, _, rfl, h1, h2, h3, h4⟩ := h
    exact ⟨_, rfl, rfl, hh _ _ rfl rfl h1, AtKv.mono hf _ _ h2, hn _ rfl rfl h3, h4⟩
  | blk p xs =>
    obtain ⟨_, _, rfl, h1, h2, h3⟩ := h
    exact ⟨_, rfl, rfl, hh _ _ rfl rfl h1, AtKv.mono hf _ _ h2, h3⟩
  | ldk p xs =>
    obtain ⟨_, _, rfl, h1, h2⟩ := h
    exact ⟨_, rfl, rfl, hf _ _ h1, AtKv.mono hf _ _ h2⟩
  | odt a xs =>
    obtain ⟨rfl, vs, h1, h2, h3, h4⟩ := h
    exact ⟨rfl, vs, hh a _ rfl rfl h1, AtKt.mono hf _ _ h2, hn a rfl rfl h3, h4⟩
  | bdt a xs =>
    obtain ⟨rfl, vs, h1, h2, h3⟩ := h
    refine ⟨rfl, vs, ?_, AtKt.mono hf _ _ h2, h3⟩
    rcases h1 with h1 | ⟨o, h1⟩
    · exact .inl (hh a _ rfl rfl h1)
    · exact .inr ⟨o, hh a _ rfl rfl h1⟩
  | ldt p xs =>
    obtain ⟨_, _, rfl, h1, h2⟩ := h
    exact ⟨_, rfl, rfl, hf _ _ h1, AtKt.mono hf _ _ h2⟩
  | ins a nm fs =>
    obtain ⟨rfl, C, dx, vs, h1, h2, h3, h4, h5, h6⟩ := h
    exact ⟨rfl, C, dx, vs, hh a _ rfl rfl h1, h2, h3, AtFs.mono hf h4, hn a rfl rfl h5, h6⟩
  | cask => exact h
  | raw u => exact h
  | scr xs =>
    obtain ⟨a, h1, h2⟩ := h
    exact ⟨a, h1, sqL_mono hf h2⟩
  | fvs tup xs =>
    obtain ⟨a, vs, h1, h2, h3⟩ := h
    exact ⟨a, vs, h1, hf _ _ h2, h3.mono hf⟩
  | exc a C d er =>
    obtain ⟨cn, arg⟩ := er
    cases arg with
    | none => exact h
    | some p =>
      obtain ⟨f, x⟩ := p
      obtain ⟨e, dd, w, h1, h2, h3⟩ := h
      exact ⟨e, dd, w, h1, hf _ _ h2, At.mono hf _ _ h3⟩
theorem own_at (h : VOk G F H v dv) (ho : dv.isOwn = true) : ∃ l o, v = .ref l ∧ H l = some o ∧ F l = none ∧ G.B l = none := by
  cases dv with
  | own xs =>
    obtain ⟨l, vs, h0, h1, h2, h3, h4⟩ := h
    exact ⟨l, _, h0, h1, h3, h4⟩
  | odk xs =>
    obtain ⟨l, vs, h0, h1, h2, h3, h4⟩ := h
    exact ⟨l, _, h0, h1, h3, h4⟩
  | olk p xs =>
    obtain ⟨_, _, h0, h1, h2, h3, h4⟩ := h
    exact ⟨_, _, h0, h1, h3, h4⟩
  | odt a xs =>
    obtain ⟨h0, vs, h1, h2, h3, h4⟩ := h
    exact ⟨_, _, h0, h1, h3, h4⟩
  | ins a nm fs =>
    obtain ⟨h0, C, dx, vs, h1, _, _, _, h3, h4⟩ := h
    exact ⟨_, _, h0, h1, h3, h4⟩
  | _ => cases ho
theorem own_nt (h : VOk G F H v dv) (ho : dv.isOwn = true) {l : Addr} {o : HO} (hv : v = .ref l) (hl : H l = some o) : ∀ vs, o ≠ .tup vs := by
  intro vs e
  subst e
  cases dv with
  | own xs =>
    obtain ⟨l', _, h0, h1, _⟩ := h
    rw [hv] at h0; cases h0; rw [hl] at h1; cases h1
  | odk xs =>
    obtain ⟨l', _, h0, h1, _⟩ := h
    rw [hv] at h0; cases h0; rw [hl] at h1; cases h1
  | olk p xs =>
    obtain ⟨_, _, h0, h1, _⟩ := h
    rw [hv] at h0; cases h0; rw [hl] at h1; cases h1
  | odt a xs =>
    obtain ⟨h0, _, h1, _⟩ := h
    rw [hv] at h0; cases h0; rw [hl] at h1; cases h1
  | ins a nm fs =>
    obtain ⟨h0, C, dx, us, h1, _⟩ := h
    rw [hv] at h0; cases h0; rw [hl] at h1; cases h1
  | _ => cases ho
theorem own_ne {l : Addr} (h : VOk G F H (.ref l) dv) (ho : dv.isOwn = true) (φ : Heap → Prop) : H l ≠ some (.ext φ) := fun z => by
  cases dv with
  | own xs =>
    obtain ⟨l', vs, h0, h1, _⟩ := h
    cases h0
    rw [h1] at z
    cases z
  | odk xs =>
    obtain ⟨l', vs, h0, h1, _⟩ := h
    cases h0
    rw [h1] at z
    cases z
  | olk p xs =>
    obtain ⟨_, _, h0, h1, _⟩ := h
    cases h0
    rw [h1] at z
    cases z
  | odt a xs =>
    obtain ⟨h0, _, h1, _⟩ := h
    cases h0
    rw [h1] at z
    cases z
  | ins a nm fs =>
    obtain ⟨h0, C, dx, us, h1, _⟩ := h
    cases h0
    rw [h1] at z
    cases z
  | _ => cases ho
theorem bor_at (h : VOk G F H v dv) (ho : (dv.isOwn || dv.isBor) = true) : ∃ l o, v = .ref l ∧ H l = some o ∧ G.B l = none := by
  cases dv with
  | own xs =>
    obtain ⟨l, vs, h0, h1, h2, h3, h4⟩ := h
    exact ⟨l, _, h0, h1, h4⟩
  | odk xs =>
    obtain ⟨l, vs, h0, h1, h2, h3, h4⟩ := h
    exact ⟨l, _, h0, h1, h4⟩
  | bor xs =>
    obtain ⟨l, vs, h0, h1, h2, h4⟩ := h
    exact ⟨l, _, h0, h1, h4⟩
  | bdk xs =>
    obtain ⟨l, vs, h0, h1, h2, h4⟩ := h
    rcases h1 with h1 | ⟨o, h1⟩
    · exact ⟨l, _, h0, h1, h4⟩
    · exact ⟨l, _, h0, h1, h4⟩
  | olk p xs =>
    obtain ⟨_, _, h0, h1, h2, h3, h4⟩ := h
    exact ⟨_, _, h0, h1, h4⟩
  | blk p xs =>
    obtain ⟨_, _, h0, h1, h2, h4⟩ := h
    exact ⟨_, _, h0, h1, h4⟩
  | odt a xs =>
    obtain ⟨h0, vs, h1, h2, h3, h4⟩ := h
    exact ⟨_, _, h0, h1, h4⟩
  | bdt a xs =>
    obtain ⟨h0, vs, h1, h2, h4⟩ := h
    rcases h1 with h1 | ⟨o, h1⟩ <;> exact ⟨_, _, h0, h1, h4⟩
  | ins a nm fs =>
    obtain ⟨h0, C, dx, us, h1, _, _, _, _, h4⟩ := h
    exact ⟨_, _, h0, h1, h4⟩
  | _ => cases ho
theorem Good.get (g : Good G F δ σ H) {i : Nat} (e : δ[i]? = some (some dv)) : ∃ v, σ[i]? = some (some v) ∧ VOk G F H v dv := g.sl i dv e
theorem Good.top (g : Good G F (δ ++ [some dv]) (σ ++ [some v]) H) : VOk G F H v dv := by
  have hl : δ.length = σ.length := by
    have := g.len
    simpa using this
  obtain ⟨w, e, h⟩ := g.sl δ.length dv (by simp)
  rw [hl] at e
  simp at e
  subst e
  exact h
theorem Good.pop {x : Option DV} {y : Option V} (g : Good G F (δ ++ [x]) (σ ++ [y]) H) : Good G F δ σ H := by
  have hl : δ.length = σ.length := by
    have := g.len
    simpa using this
  have inD : ∀ {i : Nat} {z : DV}, δ[i]? = some (some z) → i < δ.length := fun {i z} e => (List.getElem?_eq_some_iff.mp e).1
  refine ⟨g.g, hl, g.f0, g.fh, g.fr, g.bh, g.cf, g.jh, fun i z e => ?_, fun i j a b l ha hb e1 e2 e3 e4 => ?_⟩
  · obtain ⟨w, e', h⟩ := g.sl i z (by rw [List.getElem?_append_left (inD e)]; exact e)
    rw [List.getElem?_append_left (by rw [← hl]; exact inD e)] at e'
    exact ⟨w, e', h⟩
  · exact g.di i j a b l ha hb (by rw [List.getElem?_append_left (inD e1)]; exact e1) (by rw [List.getElem?_append_left (inD e2)]; exact e2)
      (by rw [List.getElem?_append_left (by rw [← hl]; exact inD e1)]; exact e3) (by rw [List.getElem?_append_left (by rw [← hl]; exact inD e2)]; exact e4)
theorem Good.push (g : Good G F δ σ H) (h : VOk G F H v dv) (hd : dv.isOwn = true → ∀ (i : Nat) (x : DV), x.isOwn = true → δ[i]? = some (some x) → σ[i]? ≠ some (some v)) : Good G F (δ ++ [some dv]) (σ ++ [some v]) H := by
  have hl := g.len
  have cut : ∀ {α : Type} {l : List α} {a : α} {i : Nat} {z : α}, (l ++ [a])[i]? = some z → (i < l.length ∧ l[i]? = some z) ∨ (i = l.length ∧ a = z) := fun {α l a i z} e => by
    rcases Nat.lt_trichotomy i l.length with q | q | q
    · rw [List.getElem?_append_left q] at e
      exact .inl ⟨q, e⟩
    · subst q
      simp at e
      exact .inr ⟨rfl, e⟩
    · have : (l ++ [a])[i]? = none := List.getElem?_eq_none_iff.mpr (by simp; omega)
      rw [this] at e
      cases e
  refine ⟨g.g, by simp [hl], g.f0, g.fh, g.fr, g.bh, g.cf, g.jh, fun i z e => ?_, fun i j a b l ha hb e1 e2 e3 e4 => ?_⟩
  · rcases cut e with ⟨q, e⟩ | ⟨q, e⟩
    · obtain ⟨w, e', hw⟩ := g.sl i z e
      exact ⟨w, by rw [List.getElem?_append_left (by omega)]; exact e', hw⟩
    · cases e
      exact ⟨v, by rw [q, hl]; simp, h⟩
  · rcases cut e1 with ⟨q1, e1⟩ | ⟨q1, e1⟩
    · rw [List.getElem?_append_left (by omega)] at e3
      rcases cut e2 with ⟨q2, e2⟩ | ⟨q2, e2⟩
      · rw [List.getElem?_append_left (by omega)] at e4
        exact g.di i j a b l ha hb e1 e2 e3 e4
      · cases e2
        rw [q2, hl] at e4
        simp at e4
        subst e4
        exact absurd e3 (hd hb i a ha e1)
    · cases e1
      rw [q1, hl] at e3
      simp at e3
      subst e3
      rcases cut e2 with ⟨q2, e2⟩ | ⟨q2, e2⟩
      · rw [List.getElem?_append_left (by omega)] at e4
        exact absurd e4 (hd ha j b hb e2)
      · omega
theorem Good.pushD (g : Good G F δ σ H) {x : PyData} (h : At G.K F v x) : Good G F (δ ++ [some (.d x)]) (σ ++ [some v]) H := g.push h (fun z => by cases z)
theorem Good.grow (g : Good G F δ σ H) {p : Addr} {o : HO} (hp : H p = none) : Good G (upd F p o) δ σ (upd H p o) := by
  have fp : F p = none := by
    cases q : F p with
    | none => rfl
    | some u => rw [g.fh _ _ q] at hp; cases hp
  have cp : ¬ G.C p := fun c => g.g.jn _ H g.jh p c hp
  have bp : G.B p = none := by
    cases q : G.B p with
    | none => rfl
    | some u => rw [g.bh _ _ cp q] at hp; cases hp
  have hF : Same F (upd F p o) := fun b u e => by rw [upd_ne (ne_of_none e fp)]; exact e
  refine ⟨g.g, g.len, g.f0.trans hF, fun b u e => ?_, fun b e1 e2 => ?_, fun b u c e => ?_, fun b c => ?_, g.g.js _ _ _ g.jh (fun b c => ?_) (fun b x e => by rw [upd_ne (ne_of_none e hp)]; exact e), fun i z e => ?_, g.di⟩
  · by_cases q : b = p
    · subst q
      rw [upd_same] at e ⊢
      exact e
    · rw [upd_ne q] at e ⊢
      exact g.fh _ _ e
  · by_cases q : b = p
    · subst q
      exact .inl bp
    · rw [upd_ne q] at e1 ⊢
      exact g.fr b e1 e2
  · rw [upd_ne (ne_of_none (g.bh _ _ c e) hp)]
    exact g.bh _ _ c e
  · have q : b ≠ p := fun z => cp (z ▸ c)
    rw [upd_ne q]
    exact g.cf b c
  · exact upd_ne (fun z => cp (z ▸ c))
  · obtain ⟨w, e', h⟩ := g.sl i z e
    refine ⟨w, e', h.keep hF (fun l vs _ _ hl => by rw [upd_ne (ne_of_none hl hp)]; exact hl) fun l ho hv hl => ?_⟩
    obtain ⟨l', o', q1, q2, _⟩ := own_at h ho
    rw [hv] at q1
    cases q1
    rw [upd_ne (ne_of_none q2 hp)]
    exact hl
theorem Good.newT (g : Good G F δ σ H) {p : Addr} {vs : List V} {ds : List PyData} (hp : H p = none) (h : AtL G.K F vs ds) : Good G (upd F p (.tup vs)) (δ ++ [some (.d (.tuple ds))]) (σ ++ [some (.ref p)]) (upd H p (.tup vs)) := by
  have fp : F p = none := by
    cases q : F p with
    | none => rfl
    | some u => rw [g.fh _ _ q] at hp; cases hp
  have hF : Same F (upd F p (.tup vs)) := fun b u e => by rw [upd_ne (ne_of_none e fp)]; exact e
  exact (g.grow (o := .tup vs) hp).pushD (.tup upd_same (AtL.mono hF _ _ h))
theorem Good.newG (g : Good G F δ σ H) {p : Addr} {o : HO} {y : DV} (hp : H p = none) (h : ∀ H' : Hp, H' p = some o → F p = none → G.B p = none → VOk G F H' (.ref p) y) : Good G F (δ ++ [some y]) (σ ++ [some (.ref p)]) (upd H p o) := by
  have fp : F p = none := by
    cases q : F p with
    | none => rfl
    | some u => rw [g.fh _ _ q] at hp; cases hp
  have cp : ¬ G.C p := fun c => g.g.jn _ H g.jh p c hp
  have bp : G.B p = none := by
    cases q : G.B p with
    | none => rfl
    | some u => rw [g.bh _ _ cp q] at hp; cases hp
  have g1 : Good G F δ σ (upd H p o) := by
    refine ⟨g.g, g.len, g.f0, fun b u e => ?_, g.fr, fun b u c e => ?_, g.cf, g.g.js _ _ _ g.jh (fun b c => upd_ne (fun z => cp (z ▸ c))) (fun b x e => by rw [upd_ne (ne_of_none e hp)]; exact e), fun i z e => ?_, g.di⟩
    · rw [upd_ne (ne_of_none (g.fh _ _ e) hp)]
      exact g.fh _ _ e
    · rw [upd_ne (ne_of_none (g.bh _ _ c e) hp)]
      exact g.bh _ _ c e
    · obtain ⟨w, e', h'⟩ := g.sl i z e
      exact ⟨w, e', h'.keep (fun _ _ q => q) (fun l vs _ _ hl => by rw [upd_ne (ne_of_none hl hp)]; exact hl) fun l _ _ hl => hl⟩
  refine g1.push (h _ upd_same fp bp) fun _ i x hx e q => ?_
  obtain ⟨w, e', h'⟩ := g.sl i x e
  rw [q] at e'
  cases e'
  obtain ⟨l, o', q1, q2, _⟩ := own_at h' hx
  cases q1
  rw [hp] at q2
  cases q2
theorem Good.newO (g : Good G F δ σ H) {p : Addr} {vs : List V} {ds : List PyData} (hp : H p = none) (h : AtL G.K F vs ds) : Good G F (δ ++ [some (.own ds)]) (σ ++ [some (.ref p)]) (upd H p (.lst vs)) :=
  g.newG hp fun H' e f b => ⟨p, vs, rfl, e, h, f, b⟩
theorem get_set {α : Type} {l : List α} {i j : Nat} {a z : α} (e : (l.set i a)[j]? = some z) : (j = i ∧ a = z ∧ i < l.length) ∨ (j ≠ i ∧ l[j]? = some z) := by
  by_cases q : j = i
  · subst q
    have hj : j < l.length := by
      have := (List.getElem?_eq_some_iff.mp e).1
      simpa using this
    rw [List.getElem?_set_self hj] at e
    cases e
    exact .inl ⟨rfl, rfl, hj⟩
  · rw [List.getElem?_set_ne (fun z => q z.symm)] at e
    exact .inr ⟨q, e⟩
theorem Good.setTop (g : Good G F (δ ++ [some dv]) (σ ++ [some v]) H) {i : Nat} (hi : i < δ.length) : Good G F (δ.set i (some dv)) (σ.set i (some v)) H := by
  have hl : δ.length = σ.length := by
    have := g.len
    simpa using this
  have q := g.pop
  have low : ∀ {j : Nat} {z : DV}, δ[j]? = some (some z) → (δ ++ [some dv])[j]? = some (some z) := fun {j z} e => by
    rw [List.getElem?_append_left (List.getElem?_eq_some_iff.mp e).1]; exact e
  have lowS : ∀ {j : Nat} {z : V}, σ[j]? = some (some z) → (σ ++ [some v])[j]? = some (some z) := fun {j z} e => by
    rw [List.getElem?_append_left (List.getElem?_eq_some_iff.mp e).1]; exact e
  have topD : (δ ++ [some dv])[δ.length]? = some (some dv) := by simp
  have topS : (σ ++ [some v])[δ.length]? = some (some v) := by rw [hl]; simp
  refine ⟨g.g, by simp [hl], g.f0, g.fh, g.fr, g.bh, g.cf, g.jh, fun j z e => ?_, fun j k a b l ha hb e1 e2 e3 e4 => ?_⟩
  · rcases get_set e with ⟨rfl, e', hj⟩ | ⟨hj, e'⟩
    · cases e'
      exact ⟨v, List.getElem?_set_self (by omega), g.top⟩
    · obtain ⟨w, h1, h2⟩ := q.sl j z e'
      exact ⟨w, by rw [List.getElem?_set_ne (fun z => hj z.symm)]; exact h1, h2⟩
  · rcases get_set e1 with ⟨rfl, f1, _⟩ | ⟨h1, f1⟩
    · cases f1
      rcases get_set e2 with ⟨rfl, f2, _⟩ | ⟨h2, f2⟩
      · rfl
      · rw [List.getElem?_set_self (by omega)] at e3
        cases e3
        rw [List.getElem?_set_ne (fun z => h2 z.symm)] at e4
        have r := g.di _ _ _ _ l ha hb topD (low f2) topS (lowS e4)
        have := (List.getElem?_eq_some_iff.mp f2).1
        omega
    · rw [List.getElem?_set_ne (fun z => h1 z.symm)] at e3
      rcases get_set e2 with ⟨rfl, f2, _⟩ | ⟨h2, f2⟩
      · cases f2
        rw [List.getElem?_set_self (by omega)] at e4
        cases e4
        have r := g.di _ _ _ _ l ha hb (low f1) topD (lowS e3) topS
        have := (List.getElem?_eq_some_iff.mp f1).1
        omega
      · rw [List.getElem?_set_ne (fun z => h2 z.symm)] at e4
        exact q.di _ _ _ _ l ha hb f1 f2 e3 e4
theorem own_nc (g : Good G F δ σ H) {l : Addr} (h : G.B l = none) : ¬ G.C l := fun c => g.g.cb l c h
theorem Good.freezeG (g : Good G F δ σ H) {n : Nat} {x : DV} {y : PyData} (ho : x.isOwn = true) (e : δ[n]? = some (some x)) (hx : ∀ v F' l o, VOk G F H v x → v = .ref l → H l = some o → Same F F' → F' l = some o → At G.K F' v y) : ∃ F', Same F F' ∧ Good G F' (δ.set n (some (.d y))) σ H := by
  obtain ⟨v, ev, hv⟩ := g.sl n _ e
  obtain ⟨l, o, rfl, h1, h3, h4⟩ := own_at hv ho
  have hn : n < δ.length := (List.getElem?_eq_some_iff.mp e).1
  have hF : Same F (upd F l o) := fun b u q => by rw [upd_ne (ne_of_none q h3)]; exact q
  have cl := own_nc g h4
  refine ⟨upd F l o, hF, g.g, by simpa using g.len, g.f0.trans hF, fun b u q => ?_, fun b q1 q2 => ?_, g.bh, fun b c => ?_, g.jh, fun i z q => ?_, fun i j a b p ha hb e1 e2 e3 e4 => ?_⟩
  · by_cases hb : b = l
    · subst hb
      rw [upd_same] at q
      cases q
      exact h1
    · rw [upd_ne hb] at q
      exact g.fh _ _ q
  · by_cases hb : b = l
    · subst hb
      exact .inl h4
    · rw [upd_ne hb] at q1 ⊢
      exact g.fr b q1 q2
  · rw [upd_ne (fun z : b = l => cl (z ▸ c))]
    exact g.cf b c
  · rcases get_set q with ⟨rfl, q', _⟩ | ⟨hi, q'⟩
    · cases q'
      exact ⟨_, ev, hx _ _ l o hv rfl h1 hF upd_same⟩
    · obtain ⟨w, ew, hw⟩ := g.sl i z q'
      refine ⟨w, ew, hw.keep hF (fun _ _ _ _ q => q) fun p hz hq hp => ?_⟩
      by_cases hpl : p = l
      · subst hpl
        subst hq
        exact absurd (g.di i n z _ p hz ho q' e ew ev) hi
      · rw [upd_ne hpl]
        exact hp
  · have back : ∀ {i : Nat} {z : DV}, z.isOwn = true → (δ.set n (some (.d y)))[i]? = some (some z) → δ[i]? = some (some z) := fun {i z} ho q => by
      rcases get_set q with ⟨rfl, q', _⟩ | ⟨_, q'⟩
      · cases q'
        cases ho
      · exact q'
    exact g.di i j a b p ha hb (back ha e1) (back hb e2) e3 e4
theorem Good.freeze (g : Good G F δ σ H) {n : Nat} {xs : List PyData} (e : δ[n]? = some (some (.own xs))) : ∃ F', Same F F' ∧ Good G F' (δ.set n (some (.d (.list xs)))) σ H :=
  g.freezeG rfl e fun v F' l o h ev eo hs hl => by
    obtain ⟨l', vs, e1, e2, e3, _⟩ := h
    subst e1
    cases ev
    rw [eo] at e2
    cases e2
    exact .lst hl (AtL.mono hs _ _ e3)
theorem Good.freezeK (g : Good G F δ σ H) {n : Nat} {xs : List (PyData × PyData)} (e : δ[n]? = some (some (.odk xs))) : ∃ F', Same F F' ∧ Good G F' (δ.set n (some (.d (.dict xs)))) σ H :=
  g.freezeG rfl e fun v F' l o h ev eo hs hl => by
    obtain ⟨l', vs, e1, e2, e3, _⟩ := h
    subst e1
    cases ev
    rw [eo] at e2
    cases e2
    exact .dct (.inl hl) (AtKv.mono hs _ _ e3)
theorem Good.freezeL (g : Good G F δ σ H) {n : Nat} {p : Unit → LkP} {xs : List (PyData × PyData)} (e : δ[n]? = some (some (.olk p xs))) : ∃ F', Same F F' ∧ Good G F' (δ.set n (some (.d (.dict xs)))) σ H :=
  g.freezeG rfl e fun v F' l o h ev eo hs hl => by
    obtain ⟨_, _, e1, e2, e3, _⟩ := h
    subst e1
    cases ev
    rw [eo] at e2
    cases e2
    exact .dct (.inr ⟨_, hl⟩) (AtKv.mono hs _ _ e3)
def NoBor (δ : Env) : Prop := ∀ (i : Nat) (x : DV), δ[i]? = some (some x) → x.isBor = false
theorem Good.writeG (g : Good G F δ σ H) {n : Nat} {x y : DV} {l : Addr} {o : HO} (hx : x.isOwn = true) (hy : y.isOwn = true) (nb : ∀ (j : Nat) (x : DV), δ[j]? = some (some x) → x.isBor = true → σ[j]? ≠ some (some (.ref l))) (e : δ[n]? = some (some x)) (el : σ[n]? = some (some (.ref l)))
    (h : ∀ H' : Hp, H' l = some o → F l = none → G.B l = none → VOk G F H' (.ref l) y) : Good G F (δ.set n (some y)) σ (upd H l o) := by
  obtain ⟨v, ev, hv⟩ := g.sl n _ e
  obtain ⟨l', o', rfl, h1, h3, h4⟩ := own_at hv hx
  rw [ev] at el
  cases el
  have hn : n < δ.length := (List.getElem?_eq_some_iff.mp e).1
  have cl := own_nc g h4
  refine ⟨g.g, by simpa using g.len, g.f0, fun b u q => ?_, g.fr, fun b u c q => ?_, g.cf, g.g.js _ _ _ g.jh (fun b c => upd_ne (fun z => cl (z ▸ c))) (fun b φ e => (upd_ne (fun z => own_ne hv hx φ (by rw [← z]; exact e))).trans e), fun i z q => ?_, fun i j a b p ha hb e1 e2 e3 e4 => ?_⟩
  · rw [upd_ne (ne_of_none q h3)]
    exact g.fh _ _ q
  · rw [upd_ne (ne_of_none q h4)]
    exact g.bh _ _ c q
  · rcases get_set q with ⟨rfl, q', _⟩ | ⟨hi, q'⟩
    · cases q'
      exact ⟨_, ev, h _ upd_same h3 h4⟩
    · obtain ⟨w, ew, hw⟩ := g.sl i z q'
      refine ⟨w, ew, hw.keep (Same.refl F) (fun p vs ho hq hp => ?_) fun _ _ _ q => q⟩
      by_cases hpl : p = l
      · subst hpl
        subst hq
        cases hz : z.isOwn with
        | true => exact absurd (g.di i n z _ p hz hx q' e ew ev) hi
        | false =>
          rw [hz, Bool.false_or] at ho
          exact absurd ew (nb i z q' ho)
      · rw [upd_ne hpl]
        exact hp
  · have back : ∀ {i : Nat} {z : DV}, z.isOwn = true → (δ.set n (some y))[i]? = some (some z) → ∃ z', z'.isOwn = true ∧ δ[i]? = some (some z') := fun {i z} ho q => by
      rcases get_set q with ⟨rfl, q', _⟩ | ⟨_, q'⟩
      · exact ⟨_, hx, e⟩
      · exact ⟨z, ho, q'⟩
    obtain ⟨a', ha', f1⟩ := back ha e1
    obtain ⟨b', hb', f2⟩ := back hb e2
    exact g.di i j a' b' p ha' hb' f1 f2 e3 e4
theorem Good.write' (g : Good G F δ σ H) {n : Nat} {xs ys : List PyData} {l : Addr} {ws : List V} (nb : ∀ (j : Nat) (x : DV), δ[j]? = some (some x) → x.isBor = true → σ[j]? ≠ some (some (.ref l))) (e : δ[n]? = some (some (.own xs))) (el : σ[n]? = some (some (.ref l))) (h : AtL G.K F ws ys) :
    Good G F (δ.set n (some (.own ys))) σ (upd H l (.lst ws)) := g.writeG rfl rfl nb e el fun H' q f b => ⟨l, ws, rfl, q, h, f, b⟩
theorem Good.write (g : Good G F δ σ H) (nb : NoBor δ) {n : Nat} {xs ys : List PyData} {l : Addr} {ws : List V} (e : δ[n]? = some (some (.own xs))) (el : σ[n]? = some (some (.ref l))) (h : AtL G.K F ws ys) :
    Good G F (δ.set n (some (.own ys))) σ (upd H l (.lst ws)) := g.write' (fun j x q b => by rw [nb j x q] at b; cases b) e el h
def DV.arg : DV → Bool
  | .d _ => true
  | .cask => true
  | .raw _ => true
  | .scr _ => true
  | .fvs _ _ => true
  | _ => false
def Gm.into (G : Gm) (F H : Hp) : Gm := { G with F0 := F, B := H }
theorem Good.into (g : Good G F δ σ H) {as : List DV} {vs : List V} (ha : ∀ x ∈ as, x.arg = true) (hl : as.length = vs.length) (h : ∀ (i : Nat) (x : DV), as[i]? = some x → ∃ v, vs[i]? = some v ∧ VOk G F H v x) :
    Good (G.into F H) F (as.map some) (vs.map some) H := by
  refine ⟨⟨g.g.js, g.g.jm, g.g.jn, fun p c => g.g.jn _ H g.jh p c, g.g.jt⟩, by simpa using hl, Same.refl F, g.fh, fun p q1 q2 => absurd q2 q1, fun p o _ q => q, g.cf, g.jh, fun i x e => ?_, fun i j a b l hx _ e1 _ _ _ => ?_⟩
  · rw [List.getElem?_map] at e
    cases q : as[i]? with
    | none => rw [q] at e; cases e
    | some y =>
      rw [q] at e
      cases e
      obtain ⟨v, e1, e2⟩ := h i x q
      have hm := ha x (List.mem_of_getElem? q)
      refine ⟨v, by rw [List.getElem?_map, e1]; rfl, ?_⟩
      cases x with
      | d _ => exact e2
      | cask => exact e2
      | raw _ => exact e2
      | scr _ => exact e2
      | fvs _ _ => exact e2
      | _ => cases hm
  · rw [List.getElem?_map] at e1
    cases q : as[i]? with
    | none => rw [q] at e1; cases e1
    | some y =>
      rw [q] at e1
      cases e1
      have hm := ha a (List.mem_of_getElem? q)
      cases a with
      | own _ => cases hm
      | odk _ => cases hm
      | olk _ _ => cases hm
      | odt _ _ => cases hm
      | ins _ _ _ => cases hm
      | _ => cases hx
theorem vok_up {u : Nat} : VOk (G.up u) F H v dv = VOk G F H v dv := by cases dv <;> rfl
theorem Gm.Ok.up (h : G.Ok) (u : Nat) : (G.up u).Ok := ⟨h.js, h.jm, h.jn, h.cb, h.jt⟩
theorem Good.mono {a b : Nat} (g : Good (G.up a) F δ σ H) (h : a ≤ b) : Good (G.up b) F δ σ H :=
  ⟨⟨g.g.js, g.g.jm, g.g.jn, g.g.cb, g.g.jt⟩, g.len, g.f0, g.fh, g.fr, g.bh, g.cf, g.g.jm _ _ _ (Nat.add_le_add_left h _) g.jh, fun i z e => by
    obtain ⟨w, ew, hw⟩ := g.sl i z e
    exact ⟨w, ew, by rw [vok_up] at hw ⊢; exact hw⟩, g.di⟩
theorem Good.later (g : Good G F δ σ H) (u : Nat) : Good (G.up u) F δ σ H := Good.mono (a := 0) g (Nat.zero_le u)
theorem Good.back {u : Nat} (g : Good G F δ σ H) {δ₁ : Env} {σ₁ : L2.St} (g' : Good ((G.into F H).up u) F' δ₁ σ₁ H') : Good (G.up u) F' δ σ H' := by
  have fr' : ∀ p, F' p ≠ none → F p = none → H p = none ∨ ∃ vs, F' p = some (.tup vs) := g'.fr
  have bh' : ∀ p o, ¬ G.C p → H p = some o → H' p = some o := g'.bh
  refine ⟨g.g.up u, g.len, g.f0.trans g'.f0, g'.fh, fun p q1 q2 => ?_, fun p o c q => bh' p o c (g.bh p o c q), g'.cf, g'.jh, fun i z e => ?_, g.di⟩
  · cases q : F p with
    | some u =>
      rcases g.fr p (by rw [q]; simp) q2 with h | ⟨vs, h⟩
      · exact .inl h
      · exact .inr ⟨vs, g'.f0 _ _ h⟩
    | none =>
      rcases fr' p q1 q with hn | hn
      · left
        cases r : G.B p with
        | none => rfl
        | some u =>
          by_cases c : G.C p
          · exact absurd hn (g.g.jn _ H g.jh p c)
          · rw [g.bh p u c r] at hn
            cases hn
      · exact .inr hn
  · obtain ⟨w, ew, hw⟩ := g.sl i z e
    refine ⟨w, ew, by
      rw [vok_up]
      refine hw.keep g'.f0 (fun l vs ho hv hl => ?_) fun l ho hv hl => ?_
      · refine bh' l _ ?_ hl
        obtain ⟨l', _, r1, _, r5⟩ := bor_at hw ho
        rw [hv] at r1; cases r1; exact own_nc g r5
      · cases q : F' l with
        | none => rfl
        | some u =>
          obtain ⟨l', o', r1, r2, _, r5⟩ := own_at hw ho
          rw [hv] at r1; cases r1
          rcases fr' l (by rw [q]; simp) hl with hn | ⟨vs, hn⟩
          · rw [hn] at r2; cases r2
          · have h1 := g'.fh _ _ hn
            have h2 := bh' l _ (own_nc g r5) r2
            rw [h1] at h2
            cases h2
            exact absurd rfl (own_nt hw ho hv r2 vs)⟩
theorem Good.ret {u : Nat} (g : Good G F δ σ H) {r : DV} {δ₁ : Env} {σ₁ : L2.St} (hr : r.arg = true) (g' : Good ((G.into F H).up u) F' (δ₁ ++ [some r]) (σ₁ ++ [some v]) H') : Good (G.up u) F' (δ ++ [some r]) (σ ++ [some v]) H' := by
  refine (g.back g').push ?_ (fun z => ?_)
  · have := g'.top
    cases r with
    | d _ => exact this
    | cask => exact this
    | raw _ => exact this
    | scr _ => exact this
    | fvs _ _ => exact this
    | _ => cases hr
  · cases r with
    | own _ => cases hr
    | odk _ => cases hr
    | olk _ _ => cases hr
    | odt _ _ => cases hr
    | ins _ _ _ => cases hr
    | _ => cases z
def DV.fix : DV → DV
  | .own xs => .d (.list xs)
  | .bor xs => .d (.list xs)
  | .odk xs => .d (.dict xs)
  | .bdk xs => .d (.dict xs)
  | .olk _ xs => .d (.dict xs)
  | .blk _ xs => .d (.dict xs)
  | .ldk _ xs => .d (.dict xs)
  | .exc a _ _ _ => .raw (.ref a)
  | .odt a _ => .raw (.ref a)
  | .bdt a _ => .raw (.ref a)
  | .ldt p _ => .raw (.ref (p ()).a)
  | .ins a _ _ => .raw (.ref a)
  | x => x
theorem Good.last (g : Good G F (δ ++ [some dv]) (σ ++ [some v]) H) : Good G F [some dv] [some v] H := by
  have t := g.top
  refine ⟨g.g, rfl, g.f0, g.fh, g.fr, g.bh, g.cf, g.jh, fun i z e => ?_, fun i j a b l _ _ e1 e2 _ _ => ?_⟩
  · match i, e with
    | 0, e => cases e; exact ⟨v, rfl, t⟩
    | i + 1, e => simp at e
  · match i, j, e1, e2 with
    | 0, 0, _, _ => rfl
    | i + 1, _, e1, _ => simp at e1
    | 0, j + 1, _, e2 => simp at e2
theorem Good.asOwn (q : Good G F [some dv] [some v] H) {x : DV} (h : VOk G F H v x) : Good G F [some x] [some v] H := by
  refine ⟨q.g, rfl, q.f0, q.fh, q.fr, q.bh, q.cf, q.jh, fun i z e => ?_, fun i j a b l _ _ e1 e2 _ _ => ?_⟩
  · match i, e with
    | 0, e => cases e; exact ⟨_, rfl, h⟩
    | i + 1, e => simp at e
  · match i, j, e1, e2 with
    | 0, 0, _, _ => rfl
    | i + 1, _, e1, _ => simp at e1
    | 0, j + 1, _, e2 => simp at e2
theorem Good.fixLast (g : Good G F (δ ++ [some dv]) (σ ++ [some v]) H) : ∃ F', Same F F' ∧ Good G F' [some dv.fix] [some v] H := by
  have q := g.last
  cases dv with
  | own xs => exact q.freeze (n := 0) rfl
  | odk xs => exact q.freezeK (n := 0) rfl
  | bor xs =>
    obtain ⟨l, vs, rfl, h1, h2, h4⟩ := g.top
    cases h3 : F l with
    | none => exact (q.asOwn (x := .own xs) ⟨l, vs, rfl, h1, h2, h3, h4⟩).freeze (n := 0) rfl
    | some u =>
      have hu := g.fh _ _ h3
      rw [h1] at hu
      cases hu
      exact ⟨F, Same.refl F, q.asOwn (x := .d (.list xs)) (.lst h3 h2)⟩
  | olk p xs => exact q.freezeL (n := 0) rfl
  | ldk p xs =>
    obtain ⟨_, _, rfl, h1, h2⟩ := g.top
    exact ⟨F, Same.refl F, q.asOwn (x := .d (.dict xs)) (.dct (.inr ⟨_, h1⟩) h2)⟩
  | blk p xs =>
    obtain ⟨_, _, rfl, h1, h2, h4⟩ := g.top
    cases h3 : F (p ()).a with
    | none => exact (q.asOwn (x := .olk p xs) ⟨_, rfl, rfl, h1, h2, h3, h4⟩).freezeL (n := 0) rfl
    | some u =>
      have hu := g.fh _ _ h3
      rw [h1] at hu
      cases hu
      exact ⟨F, Same.refl F, q.asOwn (x := .d (.dict xs)) (.dct (.inr ⟨_, h3⟩) h2)⟩
  | bdk xs =>
    obtain ⟨l, vs, rfl, h1, h2, h4⟩ := g.top
    cases h3 : F l with
    | none =>
      rcases h1 with h1 | ⟨o, h1⟩
      · exact (q.asOwn (x := .odk xs) ⟨l, vs, rfl, h1, h2, h3, h4⟩).freezeK (n := 0) rfl
      · exact (q.asOwn (x := .olk (fun _ => ⟨l, o, vs⟩) xs) ⟨_, rfl, rfl, h1, h2, h3, h4⟩).freezeL (n := 0) rfl
    | some u =>
      have hu := g.fh _ _ h3
      rcases h1 with h1 | ⟨o, h1⟩
      · rw [h1] at hu
        cases hu
        exact ⟨F, Same.refl F, q.asOwn (x := .d (.dict xs)) (.dct (.inl h3) h2)⟩
      · rw [h1] at hu
        cases hu
        exact ⟨F, Same.refl F, q.asOwn (x := .d (.dict xs)) (.dct (.inr ⟨_, h3⟩) h2)⟩
  | d x => exact ⟨F, Same.refl F, q⟩
  | cask => exact ⟨F, Same.refl F, q⟩
  | raw u => exact ⟨F, Same.refl F, q⟩
  | scr _ => exact ⟨F, Same.refl F, q⟩
  | fvs _ _ => exact ⟨F, Same.refl F, q⟩
  | exc a C d arg => exact ⟨F, Same.refl F, q.asOwn (x := .raw (.ref a)) g.top.1⟩
  | odt a ks => exact ⟨F, Same.refl F, q.asOwn (x := .raw (.ref a)) g.top.1⟩
  | bdt a ks => exact ⟨F, Same.refl F, q.asOwn (x := .raw (.ref a)) g.top.1⟩
  | ins a nm fs => exact ⟨F, Same.refl F, q.asOwn (x := .raw (.ref a)) g.top.1⟩
  | ldt p ks =>
    obtain ⟨_, _, h0, _⟩ := g.top
    exact ⟨F, Same.refl F, q.asOwn (x := .raw (.ref (p ()).a)) h0⟩
theorem fix_arg (dv : DV) : dv.fix.arg = true := by cases dv <;> rfl
end
end DL
namespace DL
open PySem PySem.Spec L2
def ExcAt (K : PySem.W.Frag) (mg : Str → Option Value) (F H : Hp) (e : DExc) (cls : Value) (d : Option Addr) : Prop :=
  ∃ C, mg e.cls = some (.ref C) ∧ cls = .ref C ∧ match e.arg with
    | none => d = none
    | some (f, x) => ∃ dd v, d = some dd ∧ F dd = some (.xd [(f, v)]) ∧ At K F v x
abbrev XD := DExc → Env → Prop
abbrev ME := XD → Env → (DV → Prop) → Prop
abbrev MT := XD → Env → (Bool → Prop) → Prop
abbrev MA := XD → Env → (List DV → Prop) → Prop
abbrev MG := DV → Env → (Env → Prop) → Prop
structure DEnds where
  nx : Env → Prop
  rt : DV → Prop
  bk : Env → Prop
  ct : Env → Prop
  /-- left by a return that tells the slots too -/
  ro : DV → Env → Prop := fun _ _ => False
abbrev MS := XD → DEnds → Env → Prop
abbrev MF := List DV → (DV → Prop) → (DExc → Prop) → Prop
structure WC where
  w : WX
  ck : (Addr → Prop) → V → (Nat → Hp → Prop) → Nat → Prop
def Link (K : PySem.W.Frag) (mg : Str → Option Value) (W : WC) (u : Nat) (G : Gm) (τ : Env) (ts : L2.St) (ex : XD) : Prop :=
  ∀ (b : Nat) (F : Hp) (δ : Env) (σ : L2.St) (H : Hp) (τ1 : Env) (ts1 : L2.St) (e : DExc) (cls : Value) (d : Option Addr), b ≤ u → δ.length = σ.length → Good (G.up b) F (δ ++ τ ++ τ1) (σ ++ ts ++ ts1) H → ExcAt K mg F H e cls d → ex e δ → W.w cls d σ H
structure Now (K : PySem.W.Frag) (mg : Str → Option Value) (W : WC) (u : Nat) (ex : XD) (G : Gm) (F : Hp) (δ : Env) (σ : L2.St) (τ : Env) (ts : L2.St) (τ1 : Env) (ts1 : L2.St) (H : Hp) : Prop where
  k : G.K = K
  l1 : δ.length = σ.length
  l2 : τ.length = ts.length
  good : Good G F (δ ++ τ ++ τ1) (σ ++ ts ++ ts1) H
  link : Link K mg W u G τ ts ex
  ck : W.ck G.C G.cv G.J G.lim ∧ G.n + u ≤ G.lim
def liftE (K : PySem.W.Frag) (mg : Str → Option Value) (W : WC) (u : Nat) (m : ME) : TE := fun σ H Q => ∃ (ex : XD) (G : Gm) (F : Hp) (δ τ : Env) (ts : L2.St) (τ1 : Env) (ts1 : L2.St) (R : DV → Prop), Now K mg W u ex G F δ σ τ ts τ1 ts1 H ∧ m ex δ R ∧
  ∀ r, R r → ∀ v F' H', Good (G.up u) F' (δ ++ τ ++ τ1 ++ [some r]) (σ ++ ts ++ ts1 ++ [some v]) H' → Q v H'
def liftT (K : PySem.W.Frag) (mg : Str → Option Value) (W : WC) (u : Nat) (m : MT) : TT := fun σ H Q => ∃ (ex : XD) (G : Gm) (F : Hp) (δ τ : Env) (ts : L2.St) (τ1 : Env) (ts1 : L2.St) (R : Bool → Prop), Now K mg W u ex G F δ σ τ ts τ1 ts1 H ∧ m ex δ R ∧
  ∀ r, R r → ∀ F' H', Good (G.up u) F' (δ ++ τ ++ τ1) (σ ++ ts ++ ts1) H' → Q r H'
def liftA (K : PySem.W.Frag) (mg : Str → Option Value) (W : WC) (u : Nat) (m : MA) : TA := fun σ H Q => ∃ (ex : XD) (G : Gm) (F : Hp) (δ τ : Env) (ts : L2.St) (τ1 : Env) (ts1 : L2.St) (R : List DV → Prop), Now K mg W u ex G F δ σ τ ts τ1 ts1 H ∧ m ex δ R ∧
  ∀ rs, R rs → ∀ (vs : List V) F' H', rs.length = vs.length → Good (G.up u) F' (δ ++ τ ++ τ1 ++ rs.map some) (σ ++ ts ++ ts1 ++ vs.map some) H' → Q vs H'
def liftG (K : PySem.W.Frag) (dom : List Nat) (m : MG) : TG := fun v σ H Q => ∃ (G : Gm) (F : Hp) (δ τ : Env) (ts : L2.St) (r : DV) (R : Env → Prop), G.K = K ∧ δ.length = σ.length ∧ τ.length = ts.length ∧ Good G F (δ ++ τ ++ [some r]) (σ ++ ts ++ [some v]) H ∧ m r δ R ∧
  ∀ δ', R δ' → ∀ σ' F' H', δ'.length = δ.length → σ'.length = σ.length → (∀ j, j ∉ dom → σ'[j]? = σ[j]?) → (NoBor δ → NoBor δ') → Good G F' (δ' ++ τ) (σ' ++ ts) H' → Q σ' H'
structure EndsOk (G : Gm) (u : Nat) (τ : Env) (ts : L2.St) (E : DEnds) (D : Ends) : Prop where
  nx : ∀ δ, E.nx δ → ∀ b σ F H, b ≤ u → δ.length = σ.length → NoBor (δ ++ τ) → Good (G.up b) F (δ ++ τ) (σ ++ ts) H → D.nx σ H
  bk : ∀ δ, E.bk δ → ∀ b σ F H, b ≤ u → δ.length = σ.length → NoBor (δ ++ τ) → Good (G.up b) F (δ ++ τ) (σ ++ ts) H → D.bk σ H
  ct : ∀ δ, E.ct δ → ∀ b σ F H, b ≤ u → δ.length = σ.length → NoBor (δ ++ τ) → Good (G.up b) F (δ ++ τ) (σ ++ ts) H → D.ct σ H
  rt : ∀ r, E.rt r → r.arg = true → ∀ b v F H, b ≤ u → Good (G.up b) F [some r] [some v] H → D.rt v H
  ro : ∀ r δ, E.ro r δ → ∀ b v σ F H, b ≤ u → δ.length = σ.length → Good (G.up b) F (δ ++ [some r]) (σ ++ [some v]) H → D.rt v H
def liftS (K : PySem.W.Frag) (mg : Str → Option Value) (W : WC) (u : Nat) (m : MS) : TS := fun D σ H => ∃ (ex : XD) (G : Gm) (F : Hp) (δ τ : Env) (ts : L2.St) (E : DEnds), Now K mg W u ex G F δ σ τ ts [] [] H ∧ NoBor (δ ++ τ) ∧ EndsOk G u τ ts E D ∧ m ex E δ
structure DE (X : Cx) (W : WC) (e : Expr) (m : ME) (u : Nat) : Prop where
  pe : PE X e (liftE X.K X.mg W u m)
structure DT (X : Cx) (W : WC) (e : Expr) (m : MT) (u : Nat) : Prop where
  pt : PT X e (liftT X.K X.mg W u m)
structure DW (X : Cx) (W : WC) (e : Expr) (m : MT) (u : Nat) : Prop where
  pw : PW X e (liftT X.K X.mg W u m)
structure DA (X : Cx) (W : WC) (es : List Expr) (m : MA) (u : Nat) : Prop where
  pa : PA X es (liftA X.K X.mg W u m)
structure DG (X : Cx) (tg : Expr) (dom : List Nat) (m : MG) : Prop where
  pg : PG X tg (liftG X.K dom m)
structure DS (X : Cx) (W : WC) (st : Stmt) (m : MS) (u : Nat) : Prop where
  ps : PS X st (liftS X.K X.mg W u m)
structure DSs (X : Cx) (W : WC) (st : List Stmt) (m : MS) (u : Nat) : Prop where
  pss : PSs X st (liftS X.K X.mg W u m)
theorem PE.imp {X : Cx} {e : Expr} {t t' : TE} (h : PE X e t) (i : ∀ σ H Q, t' σ H Q → t σ H Q) : PE X e t' := ⟨fun pins s σ H Q I q => h.run pins s σ H Q I (i _ _ _ q)⟩
theorem PT.imp {X : Cx} {e : Expr} {t t' : TT} (h : PT X e t) (i : ∀ σ H Q, t' σ H Q → t σ H Q) : PT X e t' := ⟨fun pins s σ H Q I q => h.run pins s σ H Q I (i _ _ _ q)⟩
theorem PW.imp {X : Cx} {e : Expr} {t t' : TT} (h : PW X e t) (i : ∀ σ H Q, t' σ H Q → t σ H Q) : PW X e t' := ⟨fun w pins s σ H Q I q => h.run w pins s σ H Q I (i _ _ _ q)⟩
theorem PA.imp {X : Cx} {e : List Expr} {t t' : TA} (h : PA X e t) (i : ∀ σ H Q, t' σ H Q → t σ H Q) : PA X e t' := ⟨fun p pins s σ H Q I q => h.run p pins s σ H Q I (i _ _ _ q)⟩
theorem PG.imp {X : Cx} {e : Expr} {t t' : TG} (h : PG X e t) (i : ∀ v σ H Q, t' v σ H Q → t v σ H Q) : PG X e t' := ⟨fun pins s σ H v u Q I r q => h.run pins s σ H v u Q I r (i _ _ _ _ q)⟩
theorem PS.imp {X : Cx} {e : Stmt} {t t' : TS} (h : PS X e t) (i : ∀ D σ H, t' D σ H → t D σ H) : PS X e t' := ⟨fun pins s σ H D I q => h.run pins s σ H D I (i _ _ _ q)⟩
theorem PSs.imp {X : Cx} {e : List Stmt} {t t' : TS} (h : PSs X e t) (i : ∀ D σ H, t' D σ H → t D σ H) : PSs X e t' := ⟨fun pins s σ H D I q => h.run pins s σ H D I (i _ _ _ q)⟩
theorem PI.imp {X : Cx} {tg e : Expr} {t t' : TI} (h : PI X tg e t) (i : ∀ σ H Q, t' σ H Q → t σ H Q) : PI X tg e t' := ⟨fun pins s σ H Q I q => h.run pins s σ H Q I (i _ _ _ q)⟩
section
variable {X : Cx} {W : WC}
variable {u u1 u2 u3 : Nat}
theorem Now.after {ex : XD} {G : Gm} {F F' : Hp} {δ τ τ1 : Env} {σ ts ts1 : L2.St} {H H' : Hp} {rs : Env} {vs : L2.St} (n : Now X.K X.mg W (u1 + u2) ex G F δ σ τ ts τ1 ts1 H) (g : Good (G.up u1) F' (δ ++ τ ++ τ1 ++ rs) (σ ++ ts ++ ts1 ++ vs) H') :
    Now X.K X.mg W u2 ex (G.up u1) F' δ σ τ ts (τ1 ++ rs) (ts1 ++ vs) H' := ⟨n.k, n.l1, n.l2, by rw [← List.append_assoc (δ ++ τ), ← List.append_assoc (σ ++ ts)]; exact g,
  fun b F δ σ H τ1 ts1 e cls d hb h1 h2 h3 h4 => n.link (u1 + b) F δ σ H τ1 ts1 e cls d (Nat.add_le_add_left hb _) h1 (by rw [← up_up]; exact h2) h3 h4, n.ck.1, by have := n.ck.2; show G.n + u1 + u2 ≤ G.lim; omega⟩
theorem Now.here {ex : XD} {G : Gm} {F F' : Hp} {δ τ τ1 : Env} {σ ts ts1 : L2.St} {H H' : Hp} (n : Now X.K X.mg W (u1 + u2) ex G F δ σ τ ts τ1 ts1 H) (g : Good (G.up u1) F' (δ ++ τ ++ τ1) (σ ++ ts ++ ts1) H') :
    Now X.K X.mg W u2 ex (G.up u1) F' δ σ τ ts τ1 ts1 H' := ⟨n.k, n.l1, n.l2, g, fun b F δ σ H τ1 ts1 e cls d hb h1 h2 h3 h4 => n.link (u1 + b) F δ σ H τ1 ts1 e cls d (Nat.add_le_add_left hb _) h1 (by rw [← up_up]; exact h2) h3 h4, n.ck.1, by have := n.ck.2; show G.n + u1 + u2 ≤ G.lim; omega⟩
theorem Now.le {ex : XD} {G : Gm} {F : Hp} {δ τ τ1 : Env} {σ ts ts1 : L2.St} {H : Hp} (n : Now X.K X.mg W u ex G F δ σ τ ts τ1 ts1 H) (h : u1 ≤ u) : Now X.K X.mg W u1 ex G F δ σ τ ts τ1 ts1 H :=
  ⟨n.k, n.l1, n.l2, n.good, fun b F δ σ H τ1 ts1 e cls d hb => n.link b F δ σ H τ1 ts1 e cls d (Nat.le_trans hb h), n.ck.1, by have := n.ck.2; omega⟩
theorem Now.fst {ex : XD} {G : Gm} {F : Hp} {δ τ τ1 : Env} {σ ts ts1 : L2.St} {H : Hp} (n : Now X.K X.mg W (u1 + u2) ex G F δ σ τ ts τ1 ts1 H) : Now X.K X.mg W u1 ex G F δ σ τ ts τ1 ts1 H := n.le (Nat.le_add_right _ _)
def DV.seen : DV → DV
  | .own xs => .bor xs
  | .odk xs => .bdk xs
  | .olk p xs => .blk p xs
  | .odt a xs => .bdt a xs
  | .ins a _ _ => .raw (.ref a)
  | x => x
def mVar (i : Nat) : ME := fun _ δ R => match δ[i]? with
  | some (some dv) => R dv.seen
  | _ => False
theorem seen_ok {G : Gm} {F H : Hp} {v : V} {dv : DV} (h : VOk G F H v dv) : VOk G F H v dv.seen := by
  cases dv with
  | own xs => obtain ⟨l, vs, h1, h2, h3, _, h5⟩ := h; exact ⟨l, vs, h1, h2, h3, h5⟩
  | odk xs => obtain ⟨l, vs, h1, h2, h3, _, h5⟩ := h; exact ⟨l, vs, h1, .inl h2, h3, h5⟩
  | olk p xs => obtain ⟨_, _, h1, h2, h3, _, h5⟩ := h; exact ⟨_, rfl, h1, h2, h3, h5⟩
  | odt a xs => obtain ⟨h1, vs, h2, h3, _, h5⟩ := h; exact ⟨h1, vs, .inl h2, h3, h5⟩
  | ins a nm fs => exact h.1
  | _ => exact h
theorem seen_own (dv : DV) : dv.seen.isOwn = false := by cases dv <;> rfl
theorem de_pv (i : Nat) {x : Str} {pos : Pos} (hN : X.N[i]? = some x := by rfl) (hv : Vis X.env.scope x := by first | exact Or.inl rfl | exact Or.inr (Or.inl rfl) | exact Or.inr (Or.inr rfl)) (hd : (x == ("__debug__" : Str)) = false := by decide)
    (hcd : (x == ("__classdict__" : Str)) = false := by decide) : DE X W (.Name x pos) (mVar i) 0 := by
  refine ⟨PE.imp (pe_var hN hv hd hcd) ?_⟩
  rintro σ H Q ⟨ex, G, F, δ, τ, ts, τ1, ts1, R, n, m, k⟩
  unfold mVar at m
  split at m
  · rename_i dv e
    have hi : i < δ.length := (List.getElem?_eq_some_iff.mp e).1
    have e' : (δ ++ τ ++ τ1)[i]? = some (some dv) := by rw [List.append_assoc, List.getElem?_append_left hi]; exact e
    obtain ⟨v, ev, hv⟩ := n.good.get e'
    rw [List.append_assoc, List.getElem?_append_left (by rw [← n.l1]; exact hi)] at ev
    refine ⟨v, ev, k _ m v F H (n.good.push (seen_ok hv) fun z => ?_)⟩
    rw [seen_own] at z
    cases z
  · exact m.elim
def mC (x : PyData) : ME := fun _ _ R => R (.d x)
def mRaw (v : V) : ME := fun _ _ R => R (.raw v)
theorem de_of_tC {e : Expr} {v : V} {x : PyData} (h : PE X e (tC v)) (hx : ∀ F, At X.K F v x) : DE X W e (mC x) 0 := by
  refine ⟨PE.imp h ?_⟩
  rintro σ H Q ⟨ex, G, F, δ, τ, ts, τ1, ts1, R, n, m, k⟩
  exact k _ m v F H (n.good.pushD (by rw [n.k]; exact hx F))
theorem de_of_tR {e : Expr} {v : V} (h : PE X e (tC v)) : DE X W e (mRaw v) 0 := by
  refine ⟨PE.imp h ?_⟩
  rintro σ H Q ⟨ex, G, F, δ, τ, ts, τ1, ts1, R, n, m, k⟩
  exact k _ m v F H (n.good.push rfl fun z => by cases z)
theorem de_int {i j pos} : DE X W (.Constant (.int i) j pos) (mC (.int i)) 0 := de_of_tC pe_int fun _ => .int i
theorem de_bl {b j pos} : DE X W (.Constant (.bool b) j pos) (mC (.bool b)) 0 := de_of_tC pe_bl fun _ => .bl b
theorem de_non {j pos} : DE X W (.Constant .none j pos) (mC .none) 0 := de_of_tC pe_non fun _ => .non
theorem de_gs {x y : Str} {pos : Pos} (hg : Gl X x) (hm : ∃ t, X.mg x = some (.str y t)) (hd : (x == ("__debug__" : Str)) = false := by decide) : DE X W (.Name x pos) (mC (.str y)) 0 := by
  obtain ⟨t, hm⟩ := hm
  exact de_of_tC (pe_glob (v := .str y) hg hm ⟨t, rfl⟩ hd) fun _ => .str y
theorem de_ty {x : Str} {T : String} {pos : Pos} (hg : Gl X x) (hm : X.mg x = none) (hv : bootBuiltins x = some (.type T)) (hn : x ≠ "__name__" := by decide) (hd : (x == ("__debug__" : Str)) = false := by decide) : DE X W (.Name x pos) (mRaw (.ty T)) 0 :=
  de_of_tR (pe_bltn (v := .ty T) hg hm hv rfl hn hd)
abbrev D2 := DV → DV → (DV → Prop) → Prop
abbrev D1 := DV → (DV → Prop) → Prop
def Op2 (X : Cx) (r : R2) (o : D2) : Prop :=
  ∀ (G : Gm) (F : Hp) (δ : Env) (σ : L2.St) (H : Hp) (v u : V) (x y : DV) (R : DV → Prop) (Q : VK), G.K = X.K → Good G F δ σ H → VOk G F H v x → VOk G F H u y → o x y R →
    (∀ z, R z → ∀ w F' H', Good G F' (δ ++ [some z]) (σ ++ [some w]) H' → Q w H') → r v u H Q
def mBin (o : D2) (ma mb : ME) : ME := fun ex δ R => ma ex δ fun x => mb ex δ fun y => o x y R
variable {a b c e : Expr} {pos : Pos} {ma mb mc : ME}
theorem bin_lift {r : R2} {o : D2} (h : Op2 X r o) (σ : L2.St) (H : Hp) (Q : VK) (q : liftE X.K X.mg W (u1 + u2) (mBin o ma mb) σ H Q) :
    liftE X.K X.mg W u1 ma σ H fun x H1 => liftE X.K X.mg W u2 mb σ H1 fun y H2 => r x y H2 Q := by
  obtain ⟨ex, G, F, δ, τ, ts, τ1, ts1, R, n, m, k⟩ := q
  refine ⟨ex, G, F, δ, τ, ts, τ1, ts1, _, n.fst, m, fun x hx v F1 H1 g1 => ?_⟩
  refine ⟨ex, G.up u1, F1, δ, τ, ts, _, _, _, n.after g1, hx, fun y hy u F2 H2 g2 => ?_⟩
  have e1 : Good (G.up (u1 + u2)) F2 (δ ++ τ ++ τ1 ++ [some x] ++ [some y]) (σ ++ ts ++ ts1 ++ [some v] ++ [some u]) H2 := by
    rw [up_up] at g2
    simpa only [List.append_assoc] using g2
  exact h (G.up (u1 + u2)) F2 _ _ H2 v u x y R Q n.k e1.pop.pop e1.pop.top e1.top hy k
theorem de_op {op : Operator} {r : R2} {o : D2} (h : OpR X (binaryOp op) r) (ho : Op2 X r o) (ha : DE X W a ma u1) (hb : DE X W b mb u2) : DE X W (.BinOp a op b pos) (mBin o ma mb) (u1 + u2) :=
  ⟨PE.imp (pe_op h ha.pe hb.pe) fun σ H Q q => bin_lift ho σ H Q q⟩
theorem de_cmp {op : CmpOp} {r : R2} {o : D2} (h : OpR X (compareOp op) r) (ho : Op2 X r o) (ha : DE X W a ma u1) (hb : DE X W b mb u2) (hm : behindInMarks op b = false) : DE X W (.Compare a [op] [b] pos) (mBin o ma mb) (u1 + u2) :=
  ⟨PE.imp (pe_cmpR h ha.pe hb.pe hm) fun σ H Q q => bin_lift ho σ H Q q⟩
def DV.tru : DV → (Bool → Prop) → Prop
  | .d (.bool b), R => R b
  | _, _ => False
def mB (m : ME) : MT := fun ex δ R => m ex δ fun x => x.tru R
theorem liftT_of {m : ME} (σ : L2.St) (H : Hp) (Q : Bool → Hp → Prop) (q : liftT X.K X.mg W u (mB m) σ H Q) : liftE X.K X.mg W u m σ H fun x H1 => ∃ k, x = .bl k ∧ Q k H1 := by
  obtain ⟨ex, G, F, δ, τ, ts, τ1, ts1, R, n, m, k⟩ := q
  refine ⟨ex, G, F, δ, τ, ts, τ1, ts1, _, n, m, fun x hx v F1 H1 g1 => ?_⟩
  have t := g1.top
  match x, hx, t with
  | .d (.bool b), hx, t =>
    cases t
    exact ⟨b, rfl, k b hx F1 H1 g1.pop⟩
theorem dt_cmp {op : CmpOp} {r : R2} {o : D2} (h : OpR X (compareOp op) r) (ho : Op2 X r o) (ha : DE X W a ma u1) (hb : DE X W b mb u2) (hm : behindInMarks op b = false) : DT X W (.Compare a [op] [b] pos) (mB (mBin o ma mb)) (u1 + u2) :=
  ⟨PT.imp (pt_cmpR h ha.pe hb.pe hm) fun σ H Q q => by
    have q' := liftT_of σ H Q q
    exact bin_lift ho σ H _ q'⟩
theorem dt_val {m : ME} (h : DE X W e m u) (he : ∀ whole, isTrue e X.env whole = (do let v ← whole; standAt e.pos; holding [v] (truthy v)) := by intro _; rfl) : DT X W e (mB m) u :=
  ⟨PT.imp (pt_val h.pe he) fun σ H Q q => liftT_of σ H Q q⟩
def mChain (o o' : D2) (ma mb mc : ME) : ME := fun ex δ R => ma ex δ fun x => mb ex δ fun y => o x y fun z => z.tru fun k => (k = true → mc ex δ fun w => o' y w R) ∧ (k = false → R (.d (.bool false)))
theorem chain_lift {r r' : R2} {o o' : D2} (h : Op2 X r o) (h' : Op2 X r' o') (hs : ∀ x y R, o x y R → o x y fun z => R z ∧ ∃ k, z = .d (.bool k)) (σ : L2.St) (H : Hp) (Q : VK) (q : liftE X.K X.mg W (u1 + (u2 + u3)) (mChain o o' ma mb mc) σ H Q) :
    liftE X.K X.mg W u1 ma σ H fun x H1 => liftE X.K X.mg W u2 mb σ H1 fun y H2 => r x y H2 fun z H3 => ∃ k, z = .bl k ∧ (if k = true then liftE X.K X.mg W u3 mc σ H3 fun w' H4 => r' y w' H4 Q else Q (.bl false) H3) := by
  obtain ⟨ex, G, F, δ, τ, ts, τ1, ts1, R, n, m, k⟩ := q
  refine ⟨ex, G, F, δ, τ, ts, τ1, ts1, _, n.fst, m, fun x hx v F1 H1 g1 => ?_⟩
  have n1 := n.after g1
  refine ⟨ex, G.up u1, F1, δ, τ, ts, _, _, _, n1.fst, hx, fun y hy u F2 H2 g2 => ?_⟩
  have e1 : Good (G.up (u1 + u2)) F2 (δ ++ τ ++ τ1 ++ [some x] ++ [some y]) (σ ++ ts ++ ts1 ++ [some v] ++ [some u]) H2 := by
    rw [up_up] at g2
    simpa only [List.append_assoc] using g2
  refine h (G.up (u1 + u2)) F2 _ _ H2 v u x y _ _ n.k e1 e1.pop.top e1.top (hs _ _ _ hy) fun z ⟨hz, bk, ez⟩ w F3 H3 g3 => ?_
  subst ez
  have t : VOk (G.up (u1 + u2)) F3 H3 w (.d (.bool bk)) := g3.top
  cases t
  refine ⟨bk, rfl, ?_⟩
  cases bk with
  | false =>
    rw [if_neg Bool.false_ne_true]
    exact k _ (hz.2 rfl) _ F3 H3 ((g3.pop.pop.pop.pushD (.bl false)).mono (by omega))
  | true =>
    rw [if_pos rfl]
    have e3 : Good ((G.up u1).up u2) F3 (δ ++ τ ++ (τ1 ++ [some x]) ++ [some y]) (σ ++ ts ++ (ts1 ++ [some v]) ++ [some u]) H3 := by
      have := g3.pop
      rw [← up_up] at this
      simpa only [List.append_assoc] using this
    refine ⟨ex, (G.up u1).up u2, F3, δ, τ, ts, _, _, _, n1.after e3, hz.1 rfl, fun y' hy' u' F4 H4 g4 => ?_⟩
    have e4 : Good (G.up (u1 + (u2 + u3))) F4 (δ ++ τ ++ τ1 ++ [some x] ++ [some y] ++ [some y']) (σ ++ ts ++ ts1 ++ [some v] ++ [some u] ++ [some u']) H4 := by
      rw [up_up, up_up] at g4
      simpa only [List.append_assoc] using g4
    exact h' (G.up (u1 + (u2 + u3))) F4 _ _ H4 u u' y y' R Q n.k e4.pop.pop.pop e4.pop.top e4.top hy' k
variable {ta tb : MT} {rest : List Expr}
def mAnd (s t : MT) : MT := fun ex δ R => s ex δ fun c => (c = true → t ex δ R) ∧ (c = false → R false)
def mOr (s t : MT) : MT := fun ex δ R => s ex δ fun c => (c = true → R true) ∧ (c = false → t ex δ R)
def mNot (s : MT) : MT := fun ex δ R => s ex δ fun c => R (!c)
theorem DW.dt (h : DW X W e ta u) : DT X W e ta u := ⟨PW.pt h.pw⟩
theorem dw_and1 (h : DT X W a ta u) : DW X W (.BoolOp .And [a] pos) ta u := ⟨pw_and1 h.pt⟩
theorem dw_or1 (h : DT X W a ta u) : DW X W (.BoolOp .Or [a] pos) ta u := ⟨pw_or1 h.pt⟩
theorem dw_and (ha : DT X W a ta u1) (hb : DW X W (.BoolOp .And (b :: rest) pos) tb u2) : DW X W (.BoolOp .And (a :: b :: rest) pos) (mAnd ta tb) (u1 + u2) :=
  ⟨PW.imp (pw_and ha.pt hb.pw) fun σ H Q q => by
    obtain ⟨ex, G, F, δ, τ, ts, τ1, ts1, R, n, m, k⟩ := q
    refine ⟨ex, G, F, δ, τ, ts, τ1, ts1, _, n.fst, m, fun c hc F1 H1 g1 => ?_⟩
    cases c with
    | true => rw [if_pos rfl]; exact ⟨ex, G.up u1, F1, δ, τ, ts, τ1, ts1, R, n.here g1, hc.1 rfl, by rw [up_up]; exact k⟩
    | false => rw [if_neg Bool.false_ne_true]; exact k _ (hc.2 rfl) F1 H1 (g1.mono (Nat.le_add_right _ _))⟩
theorem dw_or (ha : DT X W a ta u1) (hb : DW X W (.BoolOp .Or (b :: rest) pos) tb u2) : DW X W (.BoolOp .Or (a :: b :: rest) pos) (mOr ta tb) (u1 + u2) :=
  ⟨PW.imp (pw_or ha.pt hb.pw) fun σ H Q q => by
    obtain ⟨ex, G, F, δ, τ, ts, τ1, ts1, R, n, m, k⟩ := q
    refine ⟨ex, G, F, δ, τ, ts, τ1, ts1, _, n.fst, m, fun c hc F1 H1 g1 => ?_⟩
    cases c with
    | true => rw [if_pos rfl]; exact k _ (hc.1 rfl) F1 H1 (g1.mono (Nat.le_add_right _ _))
    | false => rw [if_neg Bool.false_ne_true]; exact ⟨ex, G.up u1, F1, δ, τ, ts, τ1, ts1, R, n.here g1, hc.2 rfl, by rw [up_up]; exact k⟩⟩
theorem dt_not (ha : DT X W a ta u) : DT X W (.UnaryOp .Not a pos) (mNot ta) u :=
  ⟨PT.imp (pt_not ha.pt) fun σ H Q q => by
    obtain ⟨ex, G, F, δ, τ, ts, τ1, ts1, R, n, m, k⟩ := q
    exact ⟨ex, G, F, δ, τ, ts, τ1, ts1, _, n, m, fun c hc F1 H1 g1 => k _ hc F1 H1 g1⟩⟩
def mAndV (s t : ME) : ME := fun ex δ R => s ex δ fun x => x.tru fun c => (c = true → t ex δ R) ∧ (c = false → R (.d (.bool false)))
def mNotV (s : ME) : ME := fun ex δ R => s ex δ fun x => x.tru fun c => R (.d (.bool (!c)))
theorem tru_bl {G : Gm} {F H : Hp} {v : V} {x : DV} {R : Bool → Prop} (h : x.tru R) (t : VOk G F H v x) : ∃ c, v = .bl c ∧ R c := by
  match x, h, t with
  | .d (.bool b), h, t =>
    cases t
    exact ⟨b, rfl, h⟩
theorem de_one {op : BoolOp} (h : DE X W a ma u) : DE X W (.BoolOp op [a] pos) ma u := ⟨pe_one h.pe⟩
theorem de_and (ha : DE X W a ma u1) (hb : DE X W (.BoolOp .And (b :: rest) pos) mb u2) : DE X W (.BoolOp .And (a :: b :: rest) pos) (mAndV ma mb) (u1 + u2) :=
  ⟨PE.imp (pe_and ha.pe hb.pe) fun σ H Q q => by
    obtain ⟨ex, G, F, δ, τ, ts, τ1, ts1, R, n, m, k⟩ := q
    refine ⟨ex, G, F, δ, τ, ts, τ1, ts1, _, n.fst, m, fun x hx v F1 H1 g1 => ?_⟩
    obtain ⟨c, rfl, hc⟩ := tru_bl hx g1.top
    refine ⟨c, rfl, ?_⟩
    cases c with
    | true => rw [if_pos rfl]; exact ⟨ex, G.up u1, F1, δ, τ, ts, τ1, ts1, R, n.here g1.pop, hc.1 rfl, by rw [up_up]; exact k⟩
    | false => rw [if_neg Bool.false_ne_true]; exact k _ (hc.2 rfl) _ F1 H1 ((g1.pop.pushD (.bl false)).mono (Nat.le_add_right _ _))⟩
theorem de_not (ha : DE X W a ma u) : DE X W (.UnaryOp .Not a pos) (mNotV ma) u :=
  ⟨PE.imp (pe_not ha.pe) fun σ H Q q => by
    obtain ⟨ex, G, F, δ, τ, ts, τ1, ts1, R, n, m, k⟩ := q
    refine ⟨ex, G, F, δ, τ, ts, τ1, ts1, _, n, m, fun x hx v F1 H1 g1 => ?_⟩
    obtain ⟨c, rfl, hc⟩ := tru_bl hx g1.top
    exact ⟨c, rfl, k _ hc _ F1 H1 (g1.pop.pushD (.bl _))⟩⟩
def mNil : MA := fun _ _ R => R []
def mCons (m : ME) (t : MA) : MA := fun ex δ R => m ex δ fun x => t ex δ fun xs => R (x :: xs)
variable {es : List Expr} {mas : MA}
theorem da_nil : DA X W [] mNil 0 := ⟨PA.imp pa_nil fun σ H Q q => by
  obtain ⟨ex, G, F, δ, τ, ts, τ1, ts1, R, n, m, k⟩ := q
  exact k [] m [] F H rfl (by simpa using n.good.later 0)⟩
theorem da_cons (ha : DE X W e ma u1) (hr : DA X W es mas u2) (hs : starEach (e :: es) X.env = (false, eval e X.env) :: starEach es X.env := by rfl) : DA X W (e :: es) (mCons ma mas) (u1 + u2) :=
  ⟨PA.imp (pa_cons ha.pe hr.pa hs) fun σ H Q q => by
    obtain ⟨ex, G, F, δ, τ, ts, τ1, ts1, R, n, m, k⟩ := q
    refine ⟨ex, G, F, δ, τ, ts, τ1, ts1, _, n.fst, m, fun x hx v F1 H1 g1 => ?_⟩
    refine ⟨ex, G.up u1, F1, δ, τ, ts, _, _, _, n.after g1, hx, fun xs hxs vs F2 H2 hl g2 => ?_⟩
    rw [up_up] at g2
    refine k _ hxs (v :: vs) F2 H2 (by simp [hl]) ?_
    simpa only [List.append_assoc, List.map_cons, List.singleton_append, List.cons_append, List.nil_append] using g2⟩
theorem Good.cut {G : Gm} {F H : Hp} : ∀ {B : Env} {B' : L2.St} {A : Env} {A' : L2.St}, B.length = B'.length → Good G F (A ++ B) (A' ++ B') H → Good G F A A' H := by
  intro B
  induction B with
  | nil =>
    intro B' A A' hl g
    cases B' with
    | nil => simpa using g
    | cons _ _ => simp at hl
  | cons b B ih =>
    intro B' A A' hl g
    cases B' with
    | nil => simp at hl
    | cons b' B' =>
      have g' : Good G F (A ++ [b] ++ B) (A' ++ [b'] ++ B') H := by simpa using g
      exact (ih (by simpa using hl) g').pop
theorem Good.nth {G : Gm} {F H : Hp} {A : Env} {A' : L2.St} {rs : List DV} {vs : List V} (hl : rs.length = vs.length) (g : Good G F (A ++ rs.map some) (A' ++ vs.map some) H) {i : Nat} {r : DV} (e : rs[i]? = some r) : ∃ v, vs[i]? = some v ∧ VOk G F H v r := by
  have hA : A.length = A'.length := by
    have := g.len
    simp [hl] at this
    exact this
  obtain ⟨v, ev, h⟩ := g.sl (A.length + i) r (by rw [List.getElem?_append_right (Nat.le_add_right _ _)]; simp [e])
  rw [hA, List.getElem?_append_right (Nat.le_add_right _ _)] at ev
  simp only [Nat.add_sub_cancel_left, List.getElem?_map] at ev
  cases q : vs[i]? with
  | none => rw [q] at ev; cases ev
  | some w =>
    rw [q] at ev
    have : w = v := by simpa using ev
    subst this
    exact ⟨w, rfl, h⟩
abbrev DN := List DV → (DV → Prop) → Prop
def OpN (X : Cx) (r : List V → Hp → VK → Prop) (o : DN) : Prop :=
  ∀ (G : Gm) (F : Hp) (δ : Env) (σ : L2.St) (H : Hp) (vs : List V) (xs : List DV) (R : DV → Prop) (Q : VK), G.K = X.K → xs.length = vs.length → Good G F (δ ++ xs.map some) (σ ++ vs.map some) H → o xs R →
    (∀ z, R z → ∀ w F' H', Good G F' (δ ++ [some z]) (σ ++ [some w]) H' → Q w H') → r vs H Q
def mCB (o : DN) (t : MA) : ME := fun ex δ R => t ex δ fun xs => o xs R
theorem args_lift {r : List V → Hp → VK → Prop} {o : DN} (h : OpN X r o) (σ : L2.St) (H : Hp) (Q : VK) (q : liftE X.K X.mg W u (mCB o mas) σ H Q) : liftA X.K X.mg W u mas σ H fun vs H1 => r vs H1 Q := by
  obtain ⟨ex, G, F, δ, τ, ts, τ1, ts1, R, n, m, k⟩ := q
  refine ⟨ex, G, F, δ, τ, ts, τ1, ts1, _, n, m, fun xs hxs vs F1 H1 hl g1 => ?_⟩
  exact h (G.up u) F1 _ _ H1 vs xs R Q n.k hl g1 hxs k
theorem de_callB {id : String} {x : Str} {p : Pos} {r : List V → Hp → VK → Prop} {o : DN} (hc : CallR X (.builtin id) r) (ho : OpN X r o) (hg : Gl X x) (hm : X.mg x = none) (hv : bootBuiltins x = some (.builtin id)) (ha : DA X W (e :: es) mas u) (hn : x ≠ "__name__" := by decide) (hdb : (x == ("__debug__" : Str)) = false := by decide)
    (he : starEach (e :: es) X.env = (false, eval e X.env) :: starEach es X.env := by rfl) (hpl : (backTo pos (starEach es X.env)).any (·.1) = false := by rfl) : DE X W (.Call (.Name x p) (e :: es) [] pos) (mCB o mas) u :=
  ⟨PE.imp (pe_callB hc hg hm hv ha.pa hn hdb he hpl) fun σ H Q q => args_lift ho σ H Q q⟩
theorem de_callTy {T : String} {x : Str} {p : Pos} {r : List V → Hp → VK → Prop} {o : DN} (hc : CallR X (.type T) r) (ho : OpN X r o) (hg : Gl X x) (hm : X.mg x = none) (hv : bootBuiltins x = some (.type T)) (ha : DA X W (e :: es) mas u) (hn : x ≠ "__name__" := by decide) (hdb : (x == ("__debug__" : Str)) = false := by decide)
    (he : starEach (e :: es) X.env = (false, eval e X.env) :: starEach es X.env := by rfl) (hpl : (backTo pos (starEach es X.env)).any (·.1) = false := by rfl) : DE X W (.Call (.Name x p) (e :: es) [] pos) (mCB o mas) u :=
  ⟨PE.imp (pe_callTy hc hg hm hv ha.pa hn hdb he hpl) fun σ H Q q => args_lift ho σ H Q q⟩
end
end DL
namespace DL
open PySem PySem.Spec L2
def DV.val : DV → Option PyData
  | .d x => some x
  | .own xs => some (.list xs)
  | .odk xs => some (.dict xs)
  | _ => none
def vals : List DV → Option (List PyData)
  | [] => some []
  | x :: xs => match x.val, vals xs with
    | some d, some ds => some (d :: ds)
    | _, _ => none
theorem fix_one {G : Gm} {F H : Hp} {A A2 : Env} {ρ : L2.St} {x : DV} {d : PyData} (g : Good G F (A ++ some x :: A2) ρ H) (e : x.val = some d) : ∃ F', Same F F' ∧ Good G F' (A ++ some (.d d) :: A2) ρ H := by
  cases x with
  | d y => cases e; exact ⟨F, Same.refl F, g⟩
  | own xs =>
    cases e
    obtain ⟨F', s, g'⟩ := g.freeze (n := A.length) (xs := xs) (by simp)
    refine ⟨F', s, ?_⟩
    rw [List.set_append_right _ _ (Nat.le_refl _), Nat.sub_self] at g'
    exact g'
  | odk xs =>
    cases e
    obtain ⟨F', s, g'⟩ := g.freezeK (n := A.length) (xs := xs) (by simp)
    refine ⟨F', s, ?_⟩
    rw [List.set_append_right _ _ (Nat.le_refl _), Nat.sub_self] at g'
    exact g'
  | _ => cases e
theorem fix_all {G : Gm} {H : Hp} {ρ : L2.St} : ∀ (xs : List DV) {F : Hp} {A : Env} {ds : List PyData}, Good G F (A ++ xs.map some) ρ H → vals xs = some ds → ∃ F', Same F F' ∧ Good G F' (A ++ ds.map (fun d => some (DV.d d))) ρ H
  | [], F, A, ds, g, e => by
    cases e
    exact ⟨F, Same.refl F, by simpa using g⟩
  | x :: xs, F, A, ds, g, e => by
    unfold vals at e
    split at e
    · rename_i d ds' e1 e2
      cases e
      obtain ⟨F1, s1, g1⟩ := fix_one (A := A) (A2 := xs.map some) (by simpa using g) e1
      obtain ⟨F2, s2, g2⟩ := fix_all xs (F := F1) (A := A ++ [some (.d d)]) (by simpa using g1) e2
      exact ⟨F2, s1.trans s2, by simpa using g2⟩
    · cases e
theorem atL_of {G : Gm} {F H : Hp} {A : Env} {A' : L2.St} : ∀ {ds : List PyData} {vs : List V}, ds.length = vs.length → Good G F (A ++ ds.map (fun d => some (DV.d d))) (A' ++ vs.map some) H → AtL G.K F vs ds := by
  intro ds vs hl g
  have hl' : (ds.map DV.d).length = vs.length := by simpa using hl
  have g' : Good G F (A ++ (ds.map DV.d).map some) (A' ++ vs.map some) H := by
    have : (ds.map DV.d).map some = ds.map (fun d => some (DV.d d)) := by simp
    rw [this]; exact g
  have all : ∀ (i : Nat) (d : PyData), ds[i]? = some d → ∃ v, vs[i]? = some v ∧ At G.K F v d := fun i d e => Good.nth hl' g' (r := .d d) (by simp [e])
  clear g g'
  induction ds generalizing vs with
  | nil =>
    cases vs with
    | nil => exact .nil
    | cons _ _ => simp at hl
  | cons d ds ih =>
    cases vs with
    | nil => simp at hl
    | cons v vs =>
      obtain ⟨w, ew, hw⟩ := all 0 d rfl
      cases ew
      refine .cons hw (ih (by simpa using hl) (by simpa using hl) fun i d' e => ?_)
      exact all (i + 1) d' (by simpa using e)
section
variable {u u1 u2 u3 : Nat} {X : Cx} {W : WC} {e : Expr} {es : List Expr} {pos : Pos} {mas : MA} {me : ME}
def mTup (t : MA) : ME := fun ex δ R => t ex δ fun xs => xs.length ≤ sizeLine ∧ match vals xs with
  | some ds => R (.d (.tuple ds))
  | none => False
def mLst (t : MA) : ME := fun ex δ R => t ex δ fun xs => xs.length ≤ sizeLine ∧ match vals xs with
  | some ds => R (.own ds)
  | none => False
theorem vals_len : ∀ {xs : List DV} {ds : List PyData}, vals xs = some ds → ds.length = xs.length
  | [], ds, e => by cases e; rfl
  | x :: xs, ds, e => by
    unfold vals at e
    split at e
    · rename_i d ds' e1 e2
      cases e
      rw [List.length_cons, List.length_cons, vals_len e2]
    · cases e
theorem de_tup {x1 : _} (h : DA X W es mas u) : DE X W (.Tuple es x1 pos) (mTup mas) u :=
  ⟨PE.imp (pe_tup h.pa) fun σ H Q q => by
    obtain ⟨ex, G, F, δ, τ, ts, τ1, ts1, R, n, m, k⟩ := q
    refine ⟨ex, G, F, δ, τ, ts, τ1, ts1, _, n, m, fun xs hxs vs F1 H1 hl g1 => ?_⟩
    obtain ⟨hz, hv⟩ := hxs
    refine ⟨by rw [← hl]; exact hz, fun p hp => ?_⟩
    split at hv
    · rename_i ds ev
      obtain ⟨F2, s2, g2⟩ := fix_all xs g1 ev
      have hd : ds.length = vs.length := (vals_len ev).trans hl
      have ha := atL_of hd g2
      exact k _ hv _ _ _ ((g2.cut (by simpa using hd)).newT hp ha)
    · exact hv.elim⟩
theorem de_lst (h : DA X W es mas u) : DE X W (.List es pos) (mLst mas) u :=
  ⟨PE.imp (pe_lst h.pa) fun σ H Q q => by
    obtain ⟨ex, G, F, δ, τ, ts, τ1, ts1, R, n, m, k⟩ := q
    refine ⟨ex, G, F, δ, τ, ts, τ1, ts1, _, n, m, fun xs hxs vs F1 H1 hl g1 => ?_⟩
    obtain ⟨hz, hv⟩ := hxs
    refine ⟨by rw [← hl]; exact hz, fun p hp => ?_⟩
    split at hv
    · rename_i ds ev
      obtain ⟨F2, s2, g2⟩ := fix_all xs g1 ev
      have hd : ds.length = vs.length := (vals_len ev).trans hl
      have ha := atL_of hd g2
      exact k _ hv _ _ _ ((g2.cut (by simpa using hd)).newO hp ha)
    · exact hv.elim⟩
variable {st : Stmt} {rest : List Stmt} {m m1 m2 : MS}
def mNext : MS := fun _ E δ => E.nx δ
def mSeq (m1 m2 : MS) : MS := fun ex E δ => m1 ex { E with nx := m2 ex E } δ
theorem nb0 {A B : Env} (h : NoBor (A ++ B ++ [])) : NoBor (A ++ B) := by simpa using h
theorem Now.g0 {ex : XD} {G : Gm} {F : Hp} {δ τ : Env} {σ ts : L2.St} {H : Hp} (n : Now X.K X.mg W u ex G F δ σ τ ts [] [] H) : Good G F (δ ++ τ) (σ ++ ts) H := by
  have := n.good
  simpa using this
theorem Now.to0 {ex : XD} {G : Gm} {F F' : Hp} {δ δ' τ : Env} {σ σ' ts : L2.St} {H H' : Hp} {b : Nat} (n : Now X.K X.mg W u ex G F δ σ τ ts [] [] H) (hb : b + u1 ≤ u) (hl : δ'.length = σ'.length) (g : Good (G.up b) F' (δ' ++ τ) (σ' ++ ts) H') : Now X.K X.mg W u1 ex (G.up b) F' δ' σ' τ ts [] [] H' :=
  ⟨n.k, hl, n.l2, by simpa using g, fun b' F δ σ H τ1 ts1 e cls d hb' h1 h2 h3 h4 => n.link (b + b') F δ σ H τ1 ts1 e cls d (by omega) h1 (by rw [← up_up]; exact h2) h3 h4, n.ck.1, by have := n.ck.2; show G.n + b + u1 ≤ G.lim; omega⟩
theorem EndsOk.up {G : Gm} {τ : Env} {ts : L2.St} {E : DEnds} {D : Ends} {b : Nat} (eo : EndsOk G u τ ts E D) (hb : b + u1 ≤ u) : EndsOk (G.up b) u1 τ ts E D :=
  ⟨fun δ h b' σ F H h1 h2 h3 h4 => eo.nx δ h (b + b') σ F H (by omega) h2 h3 (by rw [← up_up]; exact h4), fun δ h b' σ F H h1 h2 h3 h4 => eo.bk δ h (b + b') σ F H (by omega) h2 h3 (by rw [← up_up]; exact h4),
    fun δ h b' σ F H h1 h2 h3 h4 => eo.ct δ h (b + b') σ F H (by omega) h2 h3 (by rw [← up_up]; exact h4), fun r h ha b' v F H h1 h4 => eo.rt r h ha (b + b') v F H (by omega) (by rw [← up_up]; exact h4),
    fun r δ h b' v σ F H h1 h2 h4 => eo.ro r δ h (b + b') v σ F H (by omega) h2 (by rw [← up_up]; exact h4)⟩
theorem EndsOk.le {G : Gm} {τ : Env} {ts : L2.St} {E : DEnds} {D : Ends} (eo : EndsOk G u τ ts E D) (hb : u1 ≤ u) : EndsOk G u1 τ ts E D :=
  ⟨fun δ h b' σ F H h1 => eo.nx δ h b' σ F H (by omega), fun δ h b' σ F H h1 => eo.bk δ h b' σ F H (by omega), fun δ h b' σ F H h1 => eo.ct δ h b' σ F H (by omega), fun r h ha b' v F H h1 => eo.rt r h ha b' v F H (by omega), fun r δ h b' v σ F H h1 => eo.ro r δ h b' v σ F H (by omega)⟩
theorem dss_nil : DSs X W [] mNext 0 := ⟨PSs.imp pss_nil fun D σ H q => by
  obtain ⟨ex, G, F, δ, τ, ts, E, n, nb, eo, m⟩ := q
  exact eo.nx δ m 0 σ F H (Nat.le_refl _) n.l1 nb (n.g0.later 0)⟩
theorem seq_lift (D : Ends) (σ : L2.St) (H : Hp) (q : liftS X.K X.mg W (u1 + u2) (mSeq m1 m2) D σ H) : tSeq (liftS X.K X.mg W u1 m1) (liftS X.K X.mg W u2 m2) D σ H := by
  obtain ⟨ex, G, F, δ, τ, ts, E, n, nb, eo, m⟩ := q
  have e1 : EndsOk G u1 τ ts E D := eo.le (Nat.le_add_right _ _)
  exact ⟨ex, G, F, δ, τ, ts, { E with nx := m2 ex E }, n.fst, nb, ⟨fun δ' h b σ' F' H' hb hl nb' g => ⟨ex, G.up b, F', δ', τ, ts, E, n.to0 (Nat.add_le_add_right hb _) hl g, nb', eo.up (Nat.add_le_add_right hb _), h⟩, e1.bk, e1.ct, e1.rt, e1.ro⟩, m⟩
theorem dss_cons (h1 : DS X W st m1 u1) (h2 : DSs X W rest m2 u2) : DSs X W (st :: rest) (mSeq m1 m2) (u1 + u2) := ⟨PSs.imp (pss_cons h1.ps h2.pss) seq_lift⟩
theorem dss_one (h1 : DS X W st m1 u) : DSs X W [st] m1 u := ⟨pss_one h1.ps⟩
def mFrz (i : Nat) (m : MS) : MS := fun ex E δ => match δ[i]? with
  | some (some (.own xs)) => m ex E (δ.set i (some (.d (.list xs))))
  | some (some (.odk xs)) => m ex E (δ.set i (some (.d (.dict xs))))
  | _ => m ex E δ
theorem noBor_set {δ : Env} {i : Nat} {x : DV} (nb : NoBor δ) (hx : x.isBor = false) : NoBor (δ.set i (some x)) := fun j y e => by
  rcases get_set e with ⟨_, q, _⟩ | ⟨_, q⟩
  · cases q; exact hx
  · exact nb j y q
theorem frz_lift {i : Nat} (D : Ends) (σ : L2.St) (H : Hp) (q : liftS X.K X.mg W u (mFrz i m) D σ H) : liftS X.K X.mg W u m D σ H := by
  obtain ⟨ex, G, F, δ, τ, ts, E, n, nb, eo, mm⟩ := q
  unfold mFrz at mm
  split at mm
  · rename_i xs e
    have hi : i < δ.length := (List.getElem?_eq_some_iff.mp e).1
    obtain ⟨F', s, g⟩ := n.g0.freeze (n := i) (xs := xs) (by rw [List.getElem?_append_left hi]; exact e)
    rw [List.set_append_left _ _ hi] at g
    refine ⟨ex, G, F', _, τ, ts, E, ⟨n.k, by simpa using n.l1, n.l2, by simpa using g, n.link, n.ck⟩, ?_, eo, mm⟩
    rw [← List.set_append_left _ _ hi]
    exact noBor_set nb rfl
  · rename_i xs e
    have hi : i < δ.length := (List.getElem?_eq_some_iff.mp e).1
    obtain ⟨F', s, g⟩ := n.g0.freezeK (n := i) (xs := xs) (by rw [List.getElem?_append_left hi]; exact e)
    rw [List.set_append_left _ _ hi] at g
    refine ⟨ex, G, F', _, τ, ts, E, ⟨n.k, by simpa using n.l1, n.l2, by simpa using g, n.link, n.ck⟩, ?_, eo, mm⟩
    rw [← List.set_append_left _ _ hi]
    exact noBor_set nb rfl
  · exact ⟨ex, G, F, δ, τ, ts, E, n, nb, eo, mm⟩
theorem ds_frz (i : Nat) (h : DS X W st m u) : DS X W st (mFrz i m) u := ⟨PS.imp h.ps frz_lift⟩
def mBreak : MS := fun _ E δ => E.bk δ
theorem ds_break : DS X W (.Break pos) mBreak 0 := ⟨PS.imp ps_break fun D σ H q => by
  obtain ⟨ex, G, F, δ, τ, ts, E, n, nb, eo, m⟩ := q
  exact eo.bk δ m 0 σ F H (Nat.le_refl _) n.l1 nb (n.g0.later 0)⟩
def mRet (me : ME) : MS := fun ex E δ => me ex δ fun r => E.rt r.fix
theorem ds_ret (h : DE X W e me u) : DS X W (.Return (some e) pos) (mRet me) u := ⟨PS.imp (ps_ret h.pe) fun D σ H q => by
  obtain ⟨ex, G, F, δ, τ, ts, E, n, nb, eo, m⟩ := q
  refine ⟨ex, G, F, δ, τ, ts, [], [], _, n, m, fun r hr v F' H' g => ?_⟩
  obtain ⟨F2, s2, g2⟩ := g.fixLast
  exact eo.rt _ hr (fix_arg r) u v F2 H' (Nat.le_refl _) g2⟩
def mDrop (me : ME) : MS := fun ex E δ => me ex δ fun _ => E.nx δ
theorem ds_expr (h : DE X W e me u) (hs : swapsWith e none pos.line X.env = pure false := by rfl) : DS X W (.Expr e pos) (mDrop me) u := ⟨PS.imp (ps_expr h.pe hs) fun D σ H q => by
  obtain ⟨ex, G, F, δ, τ, ts, E, n, nb, eo, m⟩ := q
  refine ⟨ex, G, F, δ, τ, ts, [], [], _, n, m, fun r hr v F' H' g => ?_⟩
  have g' : Good (G.up u) F' (δ ++ τ) (σ ++ ts) H' := by
    have := g.pop
    simpa using this
  exact eo.nx δ hr u σ F' H' (Nat.le_refl _) n.l1 nb g'⟩
def mIfS (t : MT) (m1 m2 : MS) : MS := fun ex E δ => t ex δ fun c => (c = true → m1 ex E δ) ∧ (c = false → m2 ex E δ)
theorem ds_if {c : Expr} {p q : List Stmt} {t : MT} (hc : DT X W c t u1) (hp : DSs X W p m1 u2) (hq : DSs X W q m2 u3) : DS X W (.If c p q pos) (mIfS t m1 m2) (u1 + (u2 + u3)) := ⟨PS.imp (ps_if hc.pt hp.pss hq.pss) fun D σ H q => by
  obtain ⟨ex, G, F, δ, τ, ts, E, n, nb, eo, m⟩ := q
  refine ⟨ex, G, F, δ, τ, ts, [], [], _, n.fst, m, fun b hb F' H' g => ?_⟩
  have g' : Good (G.up u1) F' (δ ++ τ) (σ ++ ts) H' := by simpa using g
  show if b = true then liftS X.K X.mg W u2 m1 D σ H' else liftS X.K X.mg W u3 m2 D σ H'
  cases b with
  | true => rw [if_pos rfl]; exact ⟨ex, G.up u1, F', δ, τ, ts, E, n.to0 (by omega) n.l1 g', nb, eo.up (by omega), hb.1 rfl⟩
  | false => rw [if_neg Bool.false_ne_true]; exact ⟨ex, G.up u1, F', δ, τ, ts, E, n.to0 (by omega) n.l1 g', nb, eo.up (by omega), hb.2 rfl⟩⟩
variable {tg : Expr} {dom : List Nat} {mg : MG}
def gN (i : Nat) : MG := fun v δ R => v.isBor = false ∧ i < δ.length ∧ R (δ.set i (some v))
theorem dg_name {i : Nat} {x : Str} (hN : X.N.Nodup) (hi : X.N[i]? = some x) (hx : Loc X.env.scope x) (hf : X.fn x = true ∨ X.env.scope.names.lookup x = some .local := by first | exact .inl rfl | exact .inr rfl | assumption) : DG X (.Name x pos) [i] (gN i) :=
  ⟨PG.imp (pg_name hN hi hx hf) fun v σ H Q q => by
    obtain ⟨G, F, δ, τ, ts, r, R, kk, l1, l2, g, m, k⟩ := q
    obtain ⟨hb, hi, hR⟩ := m
    have g' := g.setTop (i := i) (by simp; omega)
    rw [List.set_append_left _ _ hi, List.set_append_left _ _ (by omega)] at g'
    exact k _ hR _ F H (by simp) (by simp) (fun j hj => List.getElem?_set_ne (fun z => hj (by simp [z]))) (fun nb => noBor_set nb hb) g'⟩
def gsN : List MG → List PyData → Env → (Env → Prop) → Prop
  | [], [], δ, R => R δ
  | g :: gs, d :: ds, δ, R => g (.d d) δ fun δ' => gsN gs ds δ' R
  | _, _, _, _ => False
def liftGs (K : PySem.W.Frag) (dom : List Nat) (gs : List MG) : TGs := fun vs σ H Q => ∃ (G : Gm) (F : Hp) (δ τ : Env) (ts : L2.St) (ds : List PyData) (R : Env → Prop), G.K = K ∧ δ.length = σ.length ∧ τ.length = ts.length ∧ Good G F (δ ++ τ) (σ ++ ts) H ∧ AtL G.K F vs ds ∧ gsN gs ds δ R ∧
  ∀ δ', R δ' → ∀ σ' F' H', δ'.length = δ.length → σ'.length = σ.length → (∀ j, j ∉ dom → σ'[j]? = σ[j]?) → (NoBor δ → NoBor δ') → Good G F' (δ' ++ τ) (σ' ++ ts) H' → Q σ' H'
structure DGs (X : Cx) (tgs : List Expr) (dom : List Nat) (gs : List MG) : Prop where
  pgs : PGs X tgs (liftGs X.K dom gs)
theorem PGs.imp {X : Cx} {e : List Expr} {t t' : TGs} (h : PGs X e t) (i : ∀ v σ H Q, t' v σ H Q → t v σ H Q) : PGs X e t' := ⟨fun pins s σ H v u Q I r q => h.run pins s σ H v u Q I r (i _ _ _ _ q)⟩
theorem Good.pushL {G : Gm} {F H : Hp} : ∀ {vs : List V} {ds : List PyData} {A : Env} {A' : L2.St}, AtL G.K F vs ds → Good G F A A' H → Good G F (A ++ ds.map fun d => some (DV.d d)) (A' ++ vs.map some) H
  | _, _, A, A', .nil, g => by simpa using g
  | _, _, A, A', .cons h t, g => by
    have := Good.pushL (A := A ++ [some (.d _)]) (A' := A' ++ [some _]) t (g.pushD h)
    simpa using this
theorem dgs_nil : DGs X [] [] [] := ⟨PGs.imp pgs_nil fun vs σ H Q q => by
  obtain ⟨G, F, δ, τ, ts, ds, R, kk, l1, l2, g, h, m, k⟩ := q
  cases h with
  | nil => exact ⟨rfl, k δ m σ F H rfl rfl (fun _ _ => rfl) id g⟩
  | cons _ _ => exact m.elim⟩
theorem dgs_cons {es : List Expr} {d1 d2 : List Nat} {gs : List MG} (h1 : DG X e d1 mg) (h2 : DGs X es d2 gs) (hs : (assignEach (e :: es) X.env).map (·.2) = assign e X.env :: (assignEach es X.env).map (·.2) := by rfl) : DGs X (e :: es) (d1 ++ d2) (mg :: gs) :=
  ⟨PGs.imp (pgs_cons h1.pg h2.pgs hs) fun vs σ H Q q => by
    obtain ⟨G, F, δ, τ, ts, ds, R, kk, l1, l2, g, h, m, k⟩ := q
    cases h with
    | nil => exact m.elim
    | @cons v vs d ds hv hr =>
      have hlen := hr.length
      refine ⟨v, vs, rfl, G, F, δ, τ ++ ds.map (fun d => some (DV.d d)), ts ++ vs.map some, .d d, _, kk, l1, by simp [l2, hlen], ?_, m, fun δ' hm σ' F' H' k1 k2 k3 k4 g' => ?_⟩
      · have := (Good.pushL hr g).pushD hv
        simpa only [List.append_assoc] using this
      · have g1 : Good G F' (δ' ++ τ ++ ds.map fun d => some (DV.d d)) (σ' ++ ts ++ vs.map some) H' := by simpa only [List.append_assoc] using g'
        refine ⟨G, F', δ', τ, ts, ds, R, kk, by omega, l2, g1.cut (by simp [hlen]), atL_of hlen.symm g1, hm, fun δ2 hR σ2 F2 H2 j1 j2 j3 j4 g2 => ?_⟩
        exact k δ2 hR σ2 F2 H2 (j1.trans k1) (j2.trans k2) (fun j hj => (j3 j fun z => hj (List.mem_append_right _ z)).trans (k3 j fun z => hj (List.mem_append_left _ z))) (fun nb => j4 (k4 nb)) g2⟩
def gT (gs : List MG) : MG := fun v δ R => match v with
  | .d (.tuple ds) => ds.length = gs.length ∧ gsN gs ds δ R
  | _ => False
theorem dg_tup {es : List Expr} {k : _} {gs : List MG} (hc : X.calm = true) (h : DGs X es dom gs) (hn : (assignEach es X.env).length = gs.length := by rfl) (hst : (assignEach es X.env).findIdx? (·.1) = none := by rfl) (hK : True := True.intro) :
    DG X (.Tuple es k pos) dom (gT gs) := ⟨PG.imp (pg_tup hc h.pgs hn hst) fun v σ H Q q => by
  obtain ⟨G, F, δ, τ, ts, r, R, kk, l1, l2, g, m, k⟩ := q
  have t := g.top
  match r, m, t with
  | .d (.tuple ds), m, t =>
    obtain ⟨hl, m⟩ := m
    cases t with
    | @tup a vs _ hs ha =>
      refine ⟨a, vs, rfl, sqT_mono g.fh (by rw [← kk]; exact (SqT.of hs)), ha.length.trans hl, ?_⟩
      exact ⟨G, F, δ, τ, ts, ds, R, kk, l1, l2, g.pop, ha, m, k⟩⟩
def mAsg (me : ME) (g : MG) : MS := fun ex E δ => me ex δ fun r => g r δ E.nx
theorem set_lift {i : Nat} (D : Ends) (σ : L2.St) (H : Hp) (q : liftS X.K X.mg W u (mAsg me (gN i)) D σ H) : tAsg (liftE X.K X.mg W u me) (gName i) D σ H := by
  obtain ⟨ex, G, F, δ, τ, ts, E, n, nb, eo, m⟩ := q
  refine ⟨ex, G, F, δ, τ, ts, [], [], _, n, m, fun r hr v F' H' g => ?_⟩
  have g' : Good (G.up u) F' (δ ++ τ ++ [some r]) (σ ++ ts ++ [some v]) H' := by simpa using g
  obtain ⟨hb, hi, hR⟩ := hr
  have g2 := g'.setTop (i := i) (by simp; omega)
  have l1 := n.l1
  rw [List.set_append_left _ _ hi, List.set_append_left _ _ (by omega)] at g2
  refine eo.nx _ hR u _ F' H' (Nat.le_refl _) (by simpa using l1) ?_ g2
  rw [← List.set_append_left _ _ hi]
  exact noBor_set nb hb
theorem ds_set {i : Nat} {x : Str} {pos' : Pos} (hN : X.N.Nodup) (hi : X.N[i]? = some x) (hx : Loc X.env.scope x) (he : DE X W e me u) (hs : swapsWith e (some (.Name x pos')) pos.line X.env = pure false := by rfl) (hf : X.fn x = true ∨ X.env.scope.names.lookup x = some .local := by first | exact .inl rfl | exact .inr rfl | assumption) :
    DS X W (.Assign [.Name x pos'] e pos) (mAsg me (gN i)) u := ⟨PS.imp (ps_set hN hi hx he.pe hs hf) set_lift⟩
end
end DL
namespace DL
open PySem PySem.Spec L2
section
variable {u u1 u2 u3 ut ue : Nat} {X : Cx} {W : WC} {a b c e : Expr} {es : List Expr} {pos : Pos} {ma me : ME} {mas : MA} {mt : MT} {mg : MG} {dom : List Nat} {m m1 m2 : MS}
def mWhile (t : MT) (b : MS) : MS := fun ex E δ => ∃ Wd : Nat → Env → Prop, (∃ n, Wd n δ) ∧ ∀ n δ, Wd n δ → t ex δ fun c =>
  (c = true → b ex { nx := fun δ' => ∃ k, k < n ∧ Wd k δ', ct := fun δ' => ∃ k, k < n ∧ Wd k δ', bk := E.nx, rt := E.rt, ro := E.ro } δ) ∧ (c = false → E.nx δ)
theorem ds_while {body : List Stmt} (hp : PassesOwn (model X.prog X.w) X.A X.env X.xe) (hc : DT X W c mt u1) (hb : DSs X W body m u2) (hu1 : u1 = 0 := by rfl) (hu2 : u2 = 0 := by rfl) : DS X W (.While c body [] pos) (mWhile mt m) 0 := ⟨PS.imp (ps_while hp hc.pt hb.pss) fun D σ H q => by
  obtain ⟨ex, G, F, δ, τ, ts, E, n, nb, eo, Wd, ⟨n0, w0⟩, turn⟩ := q
  subst hu1
  subst hu2
  refine ⟨fun k σ' H' => ∃ F' δ', Now X.K X.mg W 0 ex G F' δ' σ' τ ts [] [] H' ∧ NoBor (δ' ++ τ) ∧ Wd k δ', ⟨n0, F, δ, n, nb, w0⟩, ?_⟩
  rintro k σ1 H1 ⟨F1, δ1, n1, nb1, w1⟩
  refine ⟨ex, G, F1, δ1, τ, ts, [], [], _, n1, turn k δ1 w1, fun c hc F2 H2 g2 => ?_⟩
  have g2' : Good (G.up 0) F2 (δ1 ++ τ) (σ1 ++ ts) H2 := by simpa using g2
  cases c with
  | false =>
    show if false = true then _ else _
    rw [if_neg Bool.false_ne_true]
    exact eo.nx δ1 (hc.2 rfl) 0 σ1 F2 H2 (Nat.le_refl _) n1.l1 nb1 g2'
  | true =>
    show if true = true then _ else _
    rw [if_pos rfl]
    refine ⟨fun σ' H' => ∃ j, j < k ∧ ∃ F' δ', Now X.K X.mg W 0 ex G F' δ' σ' τ ts [] [] H' ∧ NoBor (δ' ++ τ) ∧ Wd j δ', fun σ' H' ⟨j, hj, h⟩ => ⟨j, hj, h⟩, ?_⟩
    have z0 : ∀ b : Nat, b ≤ 0 → b = 0 := fun b h => Nat.le_zero.mp h
    exact ⟨ex, G, F2, δ1, τ, ts, { nx := fun δ' => ∃ j, j < k ∧ Wd j δ', ct := fun δ' => ∃ j, j < k ∧ Wd j δ', bk := E.nx, rt := E.rt, ro := E.ro }, n1.to0 (b := 0) (Nat.le_refl _) n1.l1 g2', nb1,
      ⟨fun δ' ⟨j, hj, hw⟩ b σ' F' H' hb hl nb' g => ⟨j, hj, F', δ', n1.to0 (b := 0) (Nat.le_refl _) hl (by rw [z0 b hb] at g; exact g), nb', hw⟩, eo.nx, fun δ' ⟨j, hj, hw⟩ b σ' F' H' hb hl nb' g => ⟨j, hj, F', δ', n1.to0 (b := 0) (Nat.le_refl _) hl (by rw [z0 b hb] at g; exact g), nb', hw⟩, eo.rt, eo.ro⟩, hc.1 rfl⟩⟩
structure DIt where
  tmp : List DV
  items : List PyData
abbrev MI := XD → Env → (DIt → Prop) → Prop
def ItOk (G : Gm) (it : DIt) (ts : List V) (J : It) : Prop :=
  ∀ (b i : Nat) (F : Hp) (A B : Env) (A' B' : L2.St) (H : Hp), A.length = A'.length → B.length = B'.length → Good (G.up b) F (A ++ it.tmp.map some ++ B) (A' ++ ts.map some ++ B') H →
    (it.items.length ≤ i → J.stop i H) ∧ ∀ d, it.items[i]? = some d → J.go i H ∧ ∀ x H', J.yld i H x H' → ∃ F', Good (G.up b) F' (A ++ it.tmp.map some ++ B ++ [some (.d d)]) (A' ++ ts.map some ++ B' ++ [some x]) H'
def liftI (K : PySem.W.Frag) (mg : Str → Option Value) (W : WC) (u : Nat) (m : MI) : TI := fun σ H Q => ∃ (ex : XD) (G : Gm) (F : Hp) (δ τ : Env) (ts : L2.St) (τ1 : Env) (ts1 : L2.St) (R : DIt → Prop), Now K mg W u ex G F δ σ τ ts τ1 ts1 H ∧ m ex δ R ∧
  ∀ it, R it → ∀ (vs : List V) F' H' J, it.tmp.length = vs.length → Good (G.up u) F' (δ ++ τ ++ τ1 ++ it.tmp.map some) (σ ++ ts ++ ts1 ++ vs.map some) H' → ItOk G it vs J → Q J H'
structure DI (X : Cx) (W : WC) (tg e : Expr) (m : MI) (u : Nat) : Prop where
  pi : PI X tg e (liftI X.K X.mg W u m)
def DV.seq : DV → Option (List PyData)
  | .d (.list xs) => some xs
  | .d (.tuple xs) => some xs
  | .own xs => some xs
  | .bor xs => some xs
  | _ => none
def DV.rd : DV → Option (List PyData)
  | .d (.list xs) => some xs
  | .own xs => some xs
  | .bor xs => some xs
  | .scr ns => some (ns.map .int)
  | _ => none
def DV.lst : DV → Option (List PyData)
  | .d (.list xs) => some xs
  | .own xs => some xs
  | .bor xs => some xs
  | _ => none
theorem lst_of {G : Gm} {F H : Hp} {v : V} {x : DV} {xs : List PyData} (h : VOk G F H v x) (hf : Same F H) (e : x.lst = some xs) : ∃ l vs, v = .ref l ∧ H l = some (.lst vs) ∧ AtL G.K F vs xs := by
  match x, e, h with
  | .d (.list ys), e, h =>
    cases e
    cases h with
    | lst hs ha => exact ⟨_, _, rfl, hf _ _ hs, ha⟩
  | .own ys, e, h =>
    cases e
    obtain ⟨l, vs, rfl, h1, h2, _⟩ := h
    exact ⟨l, vs, rfl, h1, h2⟩
  | .bor ys, e, h =>
    cases e
    obtain ⟨l, vs, rfl, h1, h2, _⟩ := h
    exact ⟨l, vs, rfl, h1, h2⟩
theorem rd_of {G : Gm} {F H : Hp} {v : V} {x : DV} {xs : List PyData} (h : VOk G F H v x) (hf : Same F H) (e : x.rd = some xs) : ∃ l vs, v = .ref l ∧ SqL G.K H l vs ∧ AtL G.K F vs xs := by
  match x, e, h with
  | .d (.list ys), e, h =>
    cases e
    cases h with
    | lst hs ha => exact ⟨_, _, rfl, SqL.of (hf _ _ hs), ha⟩
  | .own ys, e, h =>
    cases e
    obtain ⟨l, vs, rfl, h1, h2, _⟩ := h
    exact ⟨l, vs, rfl, SqL.of h1, h2⟩
  | .bor ys, e, h =>
    cases e
    obtain ⟨l, vs, rfl, h1, h2, _⟩ := h
    exact ⟨l, vs, rfl, SqL.of h1, h2⟩
  | .scr ns, e, h =>
    cases e
    obtain ⟨l, rfl, h1⟩ := h
    exact ⟨l, _, rfl, sqL_mono hf h1, atL_ints ns⟩
theorem tup_of {G : Gm} {F H : Hp} {v : V} {xs : List PyData} (h : VOk G F H v (.d (.tuple xs))) (hf : Same F H) : ∃ l vs, v = .ref l ∧ SqT G.K H l vs ∧ AtL G.K F vs xs := by
  cases (show At G.K F v (.tuple xs) from h) with
  | tup hs ha => exact ⟨_, _, rfl, SqT.of (hf _ _ hs), ha⟩
def mIL (me : ME) : MI := fun ex δ R => me ex δ fun x => match x.rd with
  | some xs => R ⟨[x], xs⟩
  | none => False
theorem sub1 {G : Gm} {F H : Hp} {A : Env} {A' : L2.St} {x : DV} {v : V} (g : Good G F (A ++ [x].map some) (A' ++ [v].map some) H) : VOk G F H v x := Good.top (by simpa using g)
theorem di_list {tg : Expr} (h : DE X W e me u) : DI X W tg e (mIL me) u := ⟨PI.imp (pi_list h.pe) fun σ H Q q => by
  obtain ⟨ex, G, F, δ, τ, ts, τ1, ts1, R, n, m, k⟩ := q
  refine ⟨ex, G, F, δ, τ, ts, τ1, ts1, _, n, m, fun x hx v F1 H1 g1 => ?_⟩
  split at hx
  · rename_i xs e
    obtain ⟨l, vs, rfl, hs, ha⟩ := rd_of g1.top g1.fh e
    rw [n.k] at hs
    refine ⟨l, rfl, ⟨vs, hs⟩, k _ hx [.ref l] F1 H1 _ rfl (by simpa using g1) fun b i F2 A B A' B' H2 hA hB g2 => ?_⟩
    have ht := sub1 (g2.cut hB)
    obtain ⟨l', vs', e1, hs0, ha'⟩ := rd_of ht g2.fh e
    cases e1
    have hs' : SqL X.K H2 l vs' := by rw [← n.k]; exact hs0
    refine ⟨fun hi => ⟨vs', hs', by rw [ha'.length]; exact hi⟩, fun d hd => ?_⟩
    obtain ⟨w, ew, hw⟩ := ha'.get hd
    refine ⟨⟨vs', w, hs', ew⟩, fun y H3 hy => ?_⟩
    obtain ⟨rfl, hy⟩ := hy
    have := hy vs' hs'
    rw [ew] at this
    cases this
    exact ⟨F2, by simpa only [List.append_assoc] using g2.pushD hw⟩
  · exact hx.elim⟩
def mIT (me : ME) : MI := fun ex δ R => me ex δ fun x => match x with
  | .d (.tuple xs) => R ⟨[x], xs⟩
  | _ => False
theorem di_tup {tg : Expr} (h : DE X W e me u) : DI X W tg e (mIT me) u := ⟨PI.imp (pi_tup h.pe) fun σ H Q q => by
  obtain ⟨ex, G, F, δ, τ, ts, τ1, ts1, R, n, m, k⟩ := q
  refine ⟨ex, G, F, δ, τ, ts, τ1, ts1, _, n, m, fun x hx v F1 H1 g1 => ?_⟩
  match x, hx, g1 with
  | .d (.tuple xs), hx, g1 =>
    obtain ⟨l, vs, rfl, hs, ha⟩ := tup_of g1.top g1.fh
    refine ⟨l, rfl, ⟨vs, by rw [← n.k]; exact hs⟩, k _ hx [.ref l] F1 H1 _ rfl (by simpa using g1) fun b i F2 A B A' B' H2 hA hB g2 => ?_⟩
    have ht := sub1 (g2.cut hB)
    obtain ⟨l', vs', e1, hs', ha'⟩ := tup_of ht g2.fh
    cases e1
    rw [n.k] at hs'
    refine ⟨fun hi => ⟨vs', hs', by rw [ha'.length]; exact hi⟩, fun d hd => ?_⟩
    obtain ⟨w, ew, hw⟩ := ha'.get hd
    refine ⟨⟨vs', w, hs', ew⟩, fun y H3 hy => ?_⟩
    obtain ⟨rfl, hy⟩ := hy
    have := hy vs' hs'
    rw [ew] at this
    cases this
    exact ⟨F2, by simpa only [List.append_assoc] using g2.pushD hw⟩⟩
def rangeD (lo : Int) (n : Nat) : List PyData := (List.range n).map fun i => .int (lo + (i : Nat))
theorem rangeD_get {lo : Int} {n i : Nat} : (rangeD lo n)[i]? = if i < n then some (.int (lo + (i : Nat))) else none := by
  unfold rangeD
  rw [List.getElem?_map]
  by_cases h : i < n
  · rw [List.getElem?_range h, if_pos h]; rfl
  · rw [List.getElem?_eq_none (by simpa using h), if_neg h]; rfl
theorem rangeD_len {lo : Int} {n : Nat} : (rangeD lo n).length = n := by unfold rangeD; simp
theorem itr_ok (G : Gm) (lo : Int) (n : Nat) : ItOk G ⟨[], rangeD lo n⟩ [] (Itr lo n) := fun b i F A B A' B' H hA hB g => by
  refine ⟨fun h => by rw [rangeD_len] at h; exact h, fun d hd => ?_⟩
  rw [rangeD_get] at hd
  split at hd
  · rename_i hi
    cases hd
    refine ⟨hi, fun y H3 hy => ?_⟩
    obtain ⟨rfl, rfl⟩ := hy
    exact ⟨F, g.pushD (.int _)⟩
  · cases hd
def mR1 (t : MA) : MI := fun ex δ R => t ex δ fun xs => match xs with
  | [.d (.int j)] => -(2 ^ 62) ≤ j ∧ j < 2 ^ 62 ∧ R ⟨[], rangeD 0 j.toNat⟩
  | _ => False
def mR2 (t : MA) : MI := fun ex δ R => t ex δ fun xs => match xs with
  | [.d (.int i), .d (.int j)] => (-(2 ^ 62) ≤ i ∧ i < 2 ^ 62 ∧ -(2 ^ 62) ≤ j ∧ j < 2 ^ 62) ∧ R ⟨[], rangeD i (j - i).toNat⟩
  | _ => False
theorem int_of {G : Gm} {F H : Hp} {v : V} {i : Int} (h : VOk G F H v (.d (.int i))) : v = .int i := by
  cases (show At G.K F v (.int i) from h); rfl
theorem one_of {G : Gm} {F H : Hp} {A : Env} {A' : L2.St} {x : DV} {vs : List V} (hl : [x].length = vs.length) (g : Good G F (A ++ [x].map some) (A' ++ vs.map some) H) : ∃ v, vs = [v] ∧ VOk G F H v x ∧ Good G F A A' H := by
  match vs, hl with
  | [v], _ => exact ⟨v, rfl, sub1 g, Good.pop (x := some x) (y := some v) (by simpa using g)⟩
theorem two_of {G : Gm} {F H : Hp} {A : Env} {A' : L2.St} {x y : DV} {vs : List V} (hl : [x, y].length = vs.length) (g : Good G F (A ++ [x, y].map some) (A' ++ vs.map some) H) : ∃ v u, vs = [v, u] ∧ VOk G F H v x ∧ VOk G F H u y ∧ Good G F A A' H := by
  match vs, hl with
  | [v, u], _ =>
    have g' : Good G F (A ++ [some x] ++ [some y]) (A' ++ [some v] ++ [some u]) H := by simpa using g
    exact ⟨v, u, rfl, g'.pop.top, g'.top, g'.pop.pop⟩
theorem three_of {G : Gm} {F H : Hp} {A : Env} {A' : L2.St} {x y z : DV} {vs : List V} (hl : [x, y, z].length = vs.length) (g : Good G F (A ++ [x, y, z].map some) (A' ++ vs.map some) H) : ∃ v u w, vs = [v, u, w] ∧ VOk G F H v x ∧ VOk G F H u y ∧ VOk G F H w z ∧ Good G F A A' H := by
  match vs, hl with
  | [v, u, w], _ =>
    have g' : Good G F (A ++ [some x] ++ [some y] ++ [some z]) (A' ++ [some v] ++ [some u] ++ [some w]) H := by simpa using g
    exact ⟨v, u, w, rfl, g'.pop.pop.top, g'.pop.top, g'.top, g'.pop.pop.pop⟩
theorem di_range1 {tg : Expr} {p : Pos} (hg : Gl X "range") (hm : X.mg "range" = none) (ha : DA X W [a] mas u) (hs : starEach [a] X.env = [(false, eval a X.env)] := by rfl) : DI X W tg (.Call (.Name "range" p) [a] [] pos) (mR1 mas) u :=
  ⟨PI.imp (pi_range1 hg hm ha.pa hs) fun σ H Q q => by
    obtain ⟨ex, G, F, δ, τ, ts, τ1, ts1, R, n, m, k⟩ := q
    refine ⟨ex, G, F, δ, τ, ts, τ1, ts1, _, n, m, fun xs hxs vs F1 H1 hl g1 => ?_⟩
    match xs, hxs, hl, g1 with
    | [.d (.int j)], hxs, hl, g1 =>
      obtain ⟨h1, h2, hR⟩ := hxs
      obtain ⟨v, rfl, hv, g⟩ := one_of hl g1
      cases int_of hv
      exact ⟨j, rfl, h1, h2, k _ hR [] F1 H1 _ rfl (by simpa using g) (itr_ok _ 0 j.toNat)⟩⟩
theorem di_range2 {tg : Expr} {p : Pos} (hg : Gl X "range") (hm : X.mg "range" = none) (ha : DA X W [a, b] mas u) (hs : starEach [a, b] X.env = [(false, eval a X.env), (false, eval b X.env)] := by rfl) (hs2 : starEach [b] X.env = [(false, eval b X.env)] := by rfl) :
    DI X W tg (.Call (.Name "range" p) [a, b] [] pos) (mR2 mas) u :=
  ⟨PI.imp (pi_range2 hg hm ha.pa hs hs2) fun σ H Q q => by
    obtain ⟨ex, G, F, δ, τ, ts, τ1, ts1, R, n, m, k⟩ := q
    refine ⟨ex, G, F, δ, τ, ts, τ1, ts1, _, n, m, fun xs hxs vs F1 H1 hl g1 => ?_⟩
    match xs, hxs, hl, g1 with
    | [.d (.int i), .d (.int j)], hxs, hl, g1 =>
      obtain ⟨h1, hR⟩ := hxs
      obtain ⟨v, u, rfl, hv, hu, g⟩ := two_of hl g1
      cases int_of hv
      cases int_of hu
      exact ⟨i, j, rfl, h1, k _ hR [] F1 H1 _ rfl (by simpa using g) (itr_ok _ i (j - i).toNat)⟩⟩
def forRun (g : MG) (b : MS) (ex : XD) (E : DEnds) : List PyData → Env → Prop
  | [], δ => E.nx δ
  | d :: ds, δ => g (.d d) δ fun δ' => b ex { nx := forRun g b ex E ds, ct := forRun g b ex E ds, bk := E.nx, rt := E.rt, ro := E.ro } δ'
def mFor (mi : MI) (g : MG) (b : MS) : MS := fun ex E δ => mi ex δ fun it => (∀ x ∈ it.tmp, x.isBor = false) ∧ forRun g b ex E it.items δ
theorem drop_cons {α : Type} : ∀ {l : List α} {i : Nat} {x : α}, l[i]? = some x → l.drop i = x :: l.drop (i + 1)
  | [], i, x, h => by simp at h
  | a :: l, 0, x, h => by
    simp at h
    subst h
    rfl
  | a :: l, i + 1, x, h => by
    simp only [List.drop_succ_cons]
    exact drop_cons (by simpa using h)
theorem nb_app {A B C : Env} (h : NoBor (A ++ B)) (hc : NoBor C) : NoBor (A ++ (B ++ C)) := fun i x e => by
  rw [← List.append_assoc] at e
  rcases Nat.lt_or_ge i (A ++ B).length with q | q
  · rw [List.getElem?_append_left q] at e
    exact h i x e
  · rw [List.getElem?_append_right q] at e
    exact hc _ x e
theorem nb_left {A B : Env} (h : NoBor (A ++ B)) : NoBor A := fun i x e => h i x (by rw [List.getElem?_append_left (List.getElem?_eq_some_iff.mp e).1]; exact e)
theorem nb_right {A B : Env} (h : NoBor (A ++ B)) : NoBor B := fun i x e => h (A.length + i) x (by rw [List.getElem?_append_right (Nat.le_add_right _ _), Nat.add_sub_cancel_left]; exact e)
theorem nb_mk {A B : Env} (h : NoBor A) (h2 : NoBor B) : NoBor (A ++ B) := fun i x e => by
  rcases Nat.lt_or_ge i A.length with q | q
  · rw [List.getElem?_append_left q] at e
    exact h i x e
  · rw [List.getElem?_append_right q] at e
    exact h2 _ x e
def mForN (N : Nat) (mi : MI) (g : MG) (b : MS) : MS := fun ex E δ => mi ex δ fun it => it.items.length ≤ N ∧ (∀ x ∈ it.tmp, x.isBor = false) ∧ forRun g b ex E it.items δ
theorem for_lift {mi : MI} {D : Ends} {σ : L2.St} {H : Hp} {ex : XD} {G : Gm} {F : Hp} {δ τ : Env} {ts : L2.St} {E : DEnds} {S : DIt → Prop} (n : Now X.K X.mg W (u1 + u3) ex G F δ σ τ ts [] [] H) (nb : NoBor (δ ++ τ)) (eo : EndsOk G (u1 + u3) τ ts E D) (mm : mi ex δ S)
    (hS : ∀ it, S it → it.items.length * u2 ≤ u3 ∧ (∀ x ∈ it.tmp, x.isBor = false) ∧ forRun mg m ex E it.items δ) : tFor (liftI X.K X.mg W u1 mi) (liftG X.K dom mg) (liftS X.K X.mg W u2 m) D σ H := by
  refine ⟨ex, G, F, δ, τ, ts, [], [], _, n.fst, mm, fun it hit vs F1 H1 J hl g1 ok => ?_⟩
  obtain ⟨hlen, htb, hrun⟩ := hS it hit
  have hT : NoBor (it.tmp.map some) := fun i x e => by
    rw [List.getElem?_map] at e
    cases q : it.tmp[i]? with
    | none => rw [q] at e; cases e
    | some y =>
      rw [q] at e
      cases e
      exact htb _ (List.mem_of_getElem? q)
  have hlT : (it.tmp.map some).length = (vs.map some).length := by simpa using hl
  have room : ∀ {i : Nat}, i < it.items.length → u1 + i * u2 + u2 ≤ u1 + u3 := fun {i} h => by
    have h1 : (i + 1) * u2 ≤ it.items.length * u2 := Nat.mul_le_mul_right _ h
    rw [Nat.succ_mul] at h1
    omega
  have more : ∀ (i : Nat), (i + 1) * u2 = i * u2 + u2 := fun i => Nat.succ_mul i u2
  have lk : ∀ {i : Nat}, i < it.items.length → Link X.K X.mg W u2 (G.up (u1 + i * u2)) (τ ++ it.tmp.map some) (ts ++ vs.map some) ex := fun {i} hi b F δ σ H τ1 ts1 e cls d hb h1 h2 h3 h4 =>
    n.link (u1 + i * u2 + b) F δ σ H (it.tmp.map some ++ τ1) (vs.map some ++ ts1) e cls d (by have := room hi; omega) h1 (by rw [← up_up]; simpa only [List.append_assoc] using h2) h3 h4
  refine ⟨fun i k σ' H' => k = it.items.length - i ∧ i ≤ it.items.length ∧ ∃ F' δ', δ'.length = σ'.length ∧ Good (G.up (u1 + i * u2)) F' (δ' ++ (τ ++ it.tmp.map some)) (σ' ++ (ts ++ vs.map some)) H' ∧ NoBor (δ' ++ τ) ∧ forRun mg m ex E (it.items.drop i) δ',
    ⟨it.items.length, by simp, Nat.zero_le _, F1, δ, n.l1, by rw [Nat.zero_mul]; simpa using g1, nb, by simpa using hrun⟩, ?_⟩
  rintro i k σ2 H2 ⟨rfl, hi, F2, δ2, l2, g2, nb2, r2⟩
  have g2' : Good (G.up (u1 + i * u2)) F2 (δ2 ++ τ ++ it.tmp.map some) (σ2 ++ ts ++ vs.map some) H2 := by simpa only [List.append_assoc] using g2
  have hA : (δ2 ++ τ).length = (σ2 ++ ts).length := by simp [l2, n.l2]
  obtain ⟨o1, o2⟩ := ok (u1 + i * u2) i F2 _ [] _ [] H2 hA rfl (by simpa using g2')
  cases hd : it.items[i]? with
  | none =>
    have hi2 : it.items.length ≤ i := List.getElem?_eq_none_iff.mp hd
    rw [List.drop_eq_nil_of_le hi2] at r2
    have le1 : u1 + i * u2 ≤ u1 + u3 := by
      have := Nat.mul_le_mul_right u2 hi
      omega
    exact .inl ⟨o1 hi2, eo.nx δ2 r2 _ σ2 F2 H2 le1 l2 nb2 (g2'.cut hlT)⟩
  | some d =>
    have hi2 : i < it.items.length := (List.getElem?_eq_some_iff.mp hd).1
    obtain ⟨go, yl⟩ := o2 d hd
    rw [drop_cons hd] at r2
    have end' : ∀ δ3, forRun mg m ex E (it.items.drop (i + 1)) δ3 → ∀ σ3 F3 H3, δ3.length = σ3.length → NoBor (δ3 ++ (τ ++ it.tmp.map some)) → Good (G.up (u1 + (i + 1) * u2)) F3 (δ3 ++ (τ ++ it.tmp.map some)) (σ3 ++ (ts ++ vs.map some)) H3 →
        ∃ k', k' < it.items.length - i ∧ (k' = it.items.length - (i + 1) ∧ i + 1 ≤ it.items.length ∧ ∃ F' δ', δ'.length = σ3.length ∧ Good (G.up (u1 + (i + 1) * u2)) F' (δ' ++ (τ ++ it.tmp.map some)) (σ3 ++ (ts ++ vs.map some)) H3 ∧ NoBor (δ' ++ τ) ∧ forRun mg m ex E (it.items.drop (i + 1)) δ') :=
      fun δ3 h3 σ3 F3 H3 l3 nb3 g3 => ⟨_, by omega, rfl, hi2, F3, δ3, l3, g3, nb_left (B := it.tmp.map some) (by simpa only [List.append_assoc] using nb3), h3⟩
    refine .inr ⟨go, fun σ' H' => ∃ F' δ', δ'.length = σ'.length ∧ Good (G.up (u1 + (i + 1) * u2)) F' (δ' ++ (τ ++ it.tmp.map some)) (σ' ++ (ts ++ vs.map some)) H' ∧ NoBor (δ' ++ τ) ∧ forRun mg m ex E (it.items.drop (i + 1)) δ',
      fun σ' H' h => ⟨_, by omega, rfl, hi2, h⟩, fun x H3 hy => ?_⟩
    obtain ⟨F3, g3⟩ := yl x H3 hy
    rw [List.append_nil, List.append_nil] at g3
    have rm := room hi2
    refine ⟨G.up (u1 + i * u2), F3, δ2, τ ++ it.tmp.map some, ts ++ vs.map some, .d d, _, n.k, l2, by simp [n.l2, hl], by simpa only [List.append_assoc] using g3, r2, fun δ3 h3 σ3 F4 H4 k1 k2 k3 k4 g4 => ?_⟩
    have l3 : δ3.length = σ3.length := by omega
    have nb3 : NoBor (δ3 ++ (τ ++ it.tmp.map some)) := nb_app (nb_mk (k4 (nb_left nb2)) (nb_right nb)) hT
    refine ⟨ex, G.up (u1 + i * u2), F4, δ3, τ ++ it.tmp.map some, ts ++ vs.map some, { nx := forRun mg m ex E (it.items.drop (i + 1)), ct := forRun mg m ex E (it.items.drop (i + 1)), bk := E.nx, rt := E.rt, ro := E.ro }, ⟨n.k, l3, by simp [n.l2, hl], by simpa using g4, lk hi2, n.ck.1, by have := n.ck.2; show G.n + (u1 + i * u2) + u2 ≤ G.lim; omega⟩, nb3, ⟨?_, ?_, ?_, fun r h ha b v F H hb g => eo.rt r h ha (u1 + i * u2 + b) v F H (by omega) (by rw [← up_up]; exact g), fun r δ h b v σ F H hb l g => eo.ro r δ h (u1 + i * u2 + b) v σ F H (by omega) l (by rw [up_up] at g; exact g)⟩, h3⟩
    · exact fun δ5 h5 b σ5 F5 H5 hb l5 nb5 g5 => ⟨F5, δ5, l5, by rw [up_up] at g5; exact g5.mono (by have := more i; omega), nb_left (B := it.tmp.map some) (by simpa only [List.append_assoc] using nb5), h5⟩
    · refine fun δ5 h5 b σ5 F5 H5 hb l5 nb5 g5 => eo.nx δ5 h5 (u1 + i * u2 + b) σ5 F5 H5 (by omega) l5 (nb_left (B := it.tmp.map some) (by simpa only [List.append_assoc] using nb5)) ?_
      exact Good.cut hlT (by rw [up_up] at g5; simpa only [List.append_assoc] using g5)
    · exact fun δ5 h5 b σ5 F5 H5 hb l5 nb5 g5 => ⟨F5, δ5, l5, by rw [up_up] at g5; exact g5.mono (by have := more i; omega), nb_left (B := it.tmp.map some) (by simpa only [List.append_assoc] using nb5), h5⟩
theorem ds_for {tg : Expr} {body : List Stmt} {mi : MI} (hp : PassesOwn (model X.prog X.w) X.A X.env X.xe) (hc : X.calm = true) (hi : DI X W tg e mi u1) (hg : DG X tg dom mg) (hb : DSs X W body m u2) (hu : u2 = 0 := by rfl)
    (hs : ∀ x, foldedSetIterable e X.env x = pure x := by intro _; rfl) : DS X W (.For tg e body [] pos) (mFor mi mg m) u1 := ⟨PS.imp (ps_for hp hc hi.pi hg.pg hb.pss hs) fun D σ H q => by
  obtain ⟨ex, G, F, δ, τ, ts, E, n, nb, eo, mm⟩ := q
  exact for_lift (u1 := u1) (u3 := 0) (S := _) n nb eo mm fun it h => ⟨by rw [hu, Nat.mul_zero]; exact Nat.le_refl _, h.1, h.2⟩⟩
theorem ds_forN (N : Nat) {tg : Expr} {body : List Stmt} {mi : MI} (hp : PassesOwn (model X.prog X.w) X.A X.env X.xe) (hc : X.calm = true) (hi : DI X W tg e mi u1) (hg : DG X tg dom mg) (hb : DSs X W body m u2)
    (hs : ∀ x, foldedSetIterable e X.env x = pure x := by intro _; rfl) : DS X W (.For tg e body [] pos) (mForN N mi mg m) (u1 + N * u2) := ⟨PS.imp (ps_for hp hc hi.pi hg.pg hb.pss hs) fun D σ H q => by
  obtain ⟨ex, G, F, δ, τ, ts, E, n, nb, eo, mm⟩ := q
  exact for_lift (u1 := u1) (u3 := N * u2) (S := _) n nb eo mm fun it h => ⟨Nat.mul_le_mul_right _ h.1, h.2.1, h.2.2⟩⟩
structure DTs (X : Cx) (W : WC) (ifs : List Expr) (m : MT) (u : Nat) : Prop where
  pts : PTs X ifs (liftT X.K X.mg W u m)
def mYes : MT := fun _ _ R => R true
theorem PTs.imp {X : Cx} {e : List Expr} {t t' : TT} (h : PTs X e t) (i : ∀ σ H Q, t' σ H Q → t σ H Q) : PTs X e t' := ⟨fun pins s σ H Q I q => h.run pins s σ H Q I (i _ _ _ q)⟩
theorem dts_nil : DTs X W [] mYes 0 := ⟨PTs.imp pts_nil fun σ H Q q => by
  obtain ⟨ex, G, F, δ, τ, ts, τ1, ts1, R, n, m, k⟩ := q
  exact k _ m F H (n.good.later 0)⟩
theorem dts_one (h : DT X W c mt u) : DTs X W [c] mt u := ⟨pts_one h.pt⟩
def wipeD (δ : Env) : List Nat → Env
  | [] => δ
  | v :: vs => (wipeD δ vs).set v none
theorem wipeD_len (δ : Env) : ∀ vs, (wipeD δ vs).length = δ.length
  | [] => rfl
  | v :: vs => by unfold wipeD; rw [List.length_set, wipeD_len δ vs]
theorem wipeD_some {δ : Env} {i : Nat} {x : DV} : ∀ {vs : List Nat}, (wipeD δ vs)[i]? = some (some x) → δ[i]? = some (some x) ∧ i ∉ vs
  | [], h => ⟨h, by simp⟩
  | v :: vs, h => by
    unfold wipeD at h
    rcases get_set h with ⟨_, q, _⟩ | ⟨h1, h2⟩
    · cases q
    · obtain ⟨h3, h4⟩ := wipeD_some h2
      exact ⟨h3, by simp only [List.mem_cons, not_or]; exact ⟨h1, h4⟩⟩
def seenD (δ : Env) : Env := δ.map (Option.map DV.seen)
theorem seenD_some {δ : Env} {i : Nat} {x : DV} (e : (seenD δ)[i]? = some (some x)) : ∃ y, δ[i]? = some (some y) ∧ x = y.seen := by
  unfold seenD at e
  rw [List.getElem?_map] at e
  cases q : δ[i]? with
  | none => rw [q] at e; cases e
  | some o =>
    rw [q] at e
    cases o with
    | none => simp at e
    | some y =>
      simp at e
      exact ⟨y, rfl, e.symm⟩
theorem Good.tail {G : Gm} {F H : Hp} {P A : Env} {P' A' : L2.St} (hl : P.length = P'.length) (g : Good G F (P ++ A) (P' ++ A') H) : Good G F A A' H := by
  have up : ∀ {α : Type} {P A : List α} {i : Nat}, (P ++ A)[P.length + i]? = A[i]? := fun {α P A i} => by
    rw [List.getElem?_append_right (Nat.le_add_right _ _), Nat.add_sub_cancel_left]
  refine ⟨g.g, by have := g.len; simp [hl] at this; exact this, g.f0, g.fh, g.fr, g.bh, g.cf, g.jh, fun i x e => ?_, fun i j x y l hx hy e1 e2 e3 e4 => ?_⟩
  · obtain ⟨v, h1, h2⟩ := g.sl (P.length + i) x (by rw [up]; exact e)
    rw [hl, up] at h1
    exact ⟨v, h1, h2⟩
  · have := g.di (P.length + i) (P.length + j) x y l hx hy (by rw [up]; exact e1) (by rw [up]; exact e2) (by rw [hl, up]; exact e3) (by rw [hl, up]; exact e4)
    omega
theorem Good.dup {G : Gm} {F H : Hp} {δ A : Env} {σ A' : L2.St} (hl : δ.length = σ.length) (vs : List Nat) (g : Good G F (δ ++ A) (σ ++ A') H) : Good G F (wipeD (seenD δ) vs ++ (δ ++ A)) (wipe σ vs ++ (σ ++ A')) H := by
  have lw : (wipeD (seenD δ) vs).length = δ.length := by rw [wipeD_len]; simp [seenD]
  have lw' : (wipe σ vs).length = δ.length := by rw [wipe_length, hl]
  have cut : ∀ {i : Nat} {x : DV}, (wipeD (seenD δ) vs ++ (δ ++ A))[i]? = some (some x) → (i < δ.length ∧ ∃ y, δ[i]? = some (some y) ∧ x = y.seen ∧ (wipe σ vs ++ (σ ++ A'))[i]? = σ[i]?) ∨ (δ.length ≤ i ∧ (δ ++ A)[i - δ.length]? = some (some x) ∧ (wipe σ vs ++ (σ ++ A'))[i]? = (σ ++ A')[i - δ.length]?) := fun {i x} e => by
    rcases Nat.lt_or_ge i δ.length with q | q
    · rw [List.getElem?_append_left (by omega)] at e
      obtain ⟨e1, e2⟩ := wipeD_some e
      obtain ⟨y, e3, e4⟩ := seenD_some e1
      refine .inl ⟨q, y, e3, e4, ?_⟩
      rw [List.getElem?_append_left (by omega)]
      exact wipe_out e2
    · rw [List.getElem?_append_right (by omega), lw] at e
      refine .inr ⟨q, e, ?_⟩
      rw [List.getElem?_append_right (by omega), lw']
  refine ⟨g.g, ?_, g.f0, g.fh, g.fr, g.bh, g.cf, g.jh, fun i x e => ?_, fun i j x y l hx hy e1 e2 e3 e4 => ?_⟩
  · have := g.len
    simp only [List.length_append] at this ⊢
    omega
  · rcases cut e with ⟨q, y, e1, rfl, e2⟩ | ⟨q, e1, e2⟩
    · obtain ⟨v, h1, h2⟩ := g.sl i y (by rw [List.getElem?_append_left q]; exact e1)
      rw [List.getElem?_append_left (by omega)] at h1
      exact ⟨v, by rw [e2]; exact h1, seen_ok h2⟩
    · obtain ⟨v, h1, h2⟩ := g.sl _ x e1
      exact ⟨v, by rw [e2]; exact h1, h2⟩
  · rcases cut e1 with ⟨q, z, _, rfl, _⟩ | ⟨q, f1, f2⟩
    · rw [seen_own] at hx; cases hx
    · rcases cut e2 with ⟨q', z, _, rfl, _⟩ | ⟨q', f3, f4⟩
      · rw [seen_own] at hy; cases hy
      · rw [f2] at e3
        rw [f4] at e4
        have := g.di _ _ x y l hx hy f1 f3 e3 e4
        omega
theorem wipe_get {σ : L2.St} {i : Nat} : ∀ {vs : List Nat}, i ∈ vs → i < σ.length → (wipe σ vs)[i]? = some none
  | v :: vs, h, hi => by
    unfold wipe
    by_cases q : v = i
    · subst q
      rw [List.getElem?_set_self (by rw [wipe_length]; exact hi)]
    · rw [List.getElem?_set_ne q]
      exact wipe_get ((List.mem_cons.mp h).resolve_left fun z => q z.symm) hi
theorem wipe_same {σ σ' : L2.St} {vs dom : List Nat} (hl : σ'.length = (wipe σ vs).length) (hd : ∀ j ∈ dom, j ∈ vs) (h : ∀ j, j ∉ dom → σ'[j]? = (wipe σ vs)[j]?) : wipe σ' vs = wipe σ vs := by
  apply List.ext_getElem?
  intro i
  rw [wipe_length] at hl
  by_cases hi : i ∈ vs
  · by_cases hb : i < σ.length
    · rw [wipe_get hi (by omega), wipe_get hi hb]
    · rw [List.getElem?_eq_none (by rw [wipe_length]; omega), List.getElem?_eq_none (by rw [wipe_length]; omega)]
  · rw [wipe_out hi]
    exact h i fun z => hi (hd i z)
abbrev ex0 : XD := fun _ _ => False
abbrev W0 (W : WC) : WC := ⟨fun _ _ _ _ => False, W.ck⟩
def lcRun (g : MG) (tt : MT) (te : ME) (δ : Env) (R : DV → Prop) : List PyData → List PyData → Prop
  | [], acc => R (.own acc)
  | d :: ds, acc => g (.d d) δ fun δ' => tt ex0 δ' fun c => (c = true → te ex0 δ' fun y => match y.val with
      | some z => acc.length < sizeLine ∧ lcRun g tt te δ R ds (acc ++ [z])
      | none => False) ∧ (c = false → lcRun g tt te δ R ds acc)
def mLc (mi : MI) (g : MG) (tt : MT) (te : ME) (vs : List Nat) : ME := fun ex δ R => mi ex δ fun it => lcRun g tt te (wipeD (seenD δ) vs) R it.items []
theorem Good.dropMid {G : Gm} {F H : Hp} {A B : Env} {A' B' : L2.St} {x : DV} {v : V} (hB : B.length = B'.length) (g : Good G F (A ++ B ++ [some x]) (A' ++ B' ++ [some v]) H) : Good G F (A ++ [some x]) (A' ++ [some v]) H := by
  have g1 := g.pop.cut hB
  have t := g.top
  have hl := g1.len
  refine g1.push t fun ho i y hy e q => ?_
  have hl2 : (A ++ B).length = (A' ++ B').length := by simp [hl, hB]
  have hi : i < A.length := (List.getElem?_eq_some_iff.mp e).1
  obtain ⟨l, hv⟩ : ∃ l, v = .ref l := by
    obtain ⟨l, _, h, _⟩ := own_at t ho
    exact ⟨l, h⟩
  subst hv
  have := g.di i (A ++ B).length y x l hy ho (by rw [List.append_assoc, List.getElem?_append_left hi]; exact e) (by simp) (by rw [List.append_assoc, List.getElem?_append_left (by omega)]; exact q) (by rw [hl2]; simp)
  simp at this
  omega
theorem pass_blk {X : Cx} {W : WC} {u : Nat} : ∀ {G : Gm} {τ : Env} {ts : L2.St}, Link X.K X.mg (W0 W) u G τ ts ex0 := fun b F δ σ H τ1 ts1 e cls d _ _ _ _ h => h
section
variable {elt tg iter : Expr} {ifs : List Expr} {scope : Scope} {own : List (Str × Nat)} {mi : MI} {tt : MT} {te : ME}
def mLcN (N : Nat) (mi : MI) (g : MG) (tt : MT) (te : ME) (vs : List Nat) : ME := fun ex δ R => mi ex δ fun it => it.items.length ≤ N ∧ lcRun g tt te (wipeD (seenD δ) vs) R it.items []
theorem lc_lift {g : MG} (hdom : ∀ j ∈ dom, j ∈ own.map (·.2)) {σ : L2.St} {H : Hp} {Q : VK} {ex : XD} {G : Gm} {F : Hp} {δ τ : Env} {ts : L2.St} {τ1 : Env} {ts1 : L2.St} {R : DV → Prop} {S : DIt → Prop} (n : Now X.K X.mg W (u1 + u3) ex G F δ σ τ ts τ1 ts1 H) (m : mi ex δ S)
    (k : ∀ r, R r → ∀ v F' H', Good (G.up (u1 + u3)) F' (δ ++ τ ++ τ1 ++ [some r]) (σ ++ ts ++ ts1 ++ [some v]) H' → Q v H') (hS : ∀ it, S it → it.items.length * (ut + ue) ≤ u3 ∧ lcRun g tt te (wipeD (seenD δ) (own.map (·.2))) R it.items []) :
    tLc (liftI X.K X.mg W u1 mi) (liftG X.K dom g) (liftT X.K X.mg (W0 W) ut tt) (liftE X.K X.mg (W0 W) ue te) (own.map (·.2)) σ H Q := by
  refine ⟨ex, G, F, δ, τ, ts, τ1, ts1, _, n.fst, m, fun it hit0 ws F1 H1 J hl g1 ok D hD => ?_⟩
  obtain ⟨hlen, hit⟩ := hS it hit0
  have more : ∀ (i : Nat), (i + 1) * (ut + ue) = i * (ut + ue) + (ut + ue) := fun i => Nat.succ_mul i _
  have roomI : ∀ {i : Nat}, i < it.items.length → u1 + i * (ut + ue) + (ut + ue) ≤ u1 + u3 := fun {i} h => by
    have h1 : (i + 1) * (ut + ue) ≤ it.items.length * (ut + ue) := Nat.mul_le_mul_right _ h
    rw [Nat.succ_mul] at h1
    omega
  have gD := g1.newO (p := D) (vs := []) (ds := []) hD .nil
  have hlT : (it.tmp.map some).length = (ws.map some).length := by simpa using hl
  have hB : ∀ (j : Nat) (x : DV), (δ ++ τ ++ τ1 ++ it.tmp.map some)[j]? = some (some x) → x.isBor = true → (σ ++ ts ++ ts1 ++ ws.map some)[j]? ≠ some (some (V.ref D)) := fun j x e b q => by
    obtain ⟨v, h1, h2⟩ := g1.sl j x e
    rw [q] at h1
    cases h1
    obtain ⟨l, o, r1, r2, _⟩ := bor_at h2 (by rw [b, Bool.or_true])
    cases r1
    rw [hD] at r2
    cases r2
  obtain ⟨A, hA⟩ : ∃ A, A = δ ++ τ ++ τ1 ++ it.tmp.map some := ⟨_, rfl⟩
  obtain ⟨A', hA'⟩ : ∃ A', A' = σ ++ ts ++ ts1 ++ ws.map some := ⟨_, rfl⟩
  have lA : A.length = A'.length := by rw [hA, hA']; exact g1.len
  refine ⟨fun i j H' => j = it.items.length - i ∧ i ≤ it.items.length ∧ ∃ F' acc, Good (G.up (u1 + i * (ut + ue))) F' (A ++ [some (.own acc)]) (A' ++ [some (.ref D)]) H' ∧ lcRun g tt te (wipeD (seenD δ) (own.map (·.2))) R (it.items.drop i) acc,
    ⟨it.items.length, by simp, Nat.zero_le _, F1, [], by rw [hA, hA', Nat.zero_mul]; exact gD, by simpa using hit⟩, ?_⟩
  rintro i j H2 ⟨rfl, hi, F2, acc, g2, r2⟩
  have g2' : Good (G.up (u1 + i * (ut + ue))) F2 (δ ++ τ ++ τ1 ++ it.tmp.map some ++ [some (.own acc)]) (σ ++ ts ++ ts1 ++ ws.map some ++ [some (.ref D)]) H2 := by rw [← hA, ← hA']; exact g2
  obtain ⟨o1, o2⟩ := ok (u1 + i * (ut + ue)) i F2 _ _ _ _ H2 n.good.len rfl g2'
  cases hd : it.items[i]? with
  | none =>
    have hi2 : it.items.length ≤ i := List.getElem?_eq_none_iff.mp hd
    rw [List.drop_eq_nil_of_le hi2] at r2
    have le1 : u1 + i * (ut + ue) ≤ u1 + u3 := by
      have := Nat.mul_le_mul_right (ut + ue) hi
      omega
    exact .inl ⟨o1 hi2, k _ r2 _ F2 H2 ((g2'.dropMid hlT).mono le1)⟩
  | some d =>
    have hi2 : i < it.items.length := (List.getElem?_eq_some_iff.mp hd).1
    obtain ⟨go, yl⟩ := o2 d hd
    rw [drop_cons hd] at r2
    refine .inr ⟨go, fun H' => ∃ F' acc, Good (G.up (u1 + (i + 1) * (ut + ue))) F' (A ++ [some (.own acc)]) (A' ++ [some (.ref D)]) H' ∧ lcRun g tt te (wipeD (seenD δ) (own.map (·.2))) R (it.items.drop (i + 1)) acc,
      fun H' h => ⟨_, by omega, rfl, hi2, h⟩, fun x H3 hy => ?_⟩
    obtain ⟨F3, g3⟩ := yl x H3 hy
    obtain ⟨B, hBe⟩ : ∃ B, B = A ++ [some (DV.own acc)] := ⟨_, rfl⟩
    obtain ⟨B', hBe'⟩ : ∃ B', B' = A' ++ [some (V.ref D)] := ⟨_, rfl⟩
    have lB : B.length = B'.length := by rw [hBe, hBe']; simp [lA]
    have g4 : Good (G.up (u1 + i * (ut + ue))) F3 (wipeD (seenD δ) (own.map (·.2)) ++ B ++ [some (.d d)]) (wipe σ (own.map (·.2)) ++ B' ++ [some x]) H3 := by
      have := Good.dup (A := τ ++ τ1 ++ it.tmp.map some ++ [some (.own acc)] ++ [some (.d d)]) (A' := ts ++ ts1 ++ ws.map some ++ [some (.ref D)] ++ [some x]) n.l1 (own.map (·.2)) (by simpa only [List.append_assoc] using g3)
      rw [hBe, hBe', hA, hA']
      simpa only [List.append_assoc] using this
    have lw : (wipeD (seenD δ) (own.map (·.2))).length = (wipe σ (own.map (·.2))).length := by rw [wipeD_len, wipe_length, ← n.l1]; simp [seenD]
    refine ⟨G.up (u1 + i * (ut + ue)), F3, _, B, B', .d d, _, n.k, lw, lB, g4, r2, fun δ' hr σ' F4 H4 k1 k2 k3 k4 g5 => ⟨wipe_same k2 hdom k3, ?_⟩⟩
    have l5 : δ'.length = σ'.length := by omega
    refine ⟨ex0, G.up (u1 + i * (ut + ue)), F4, δ', B, B', [], [], _, ⟨n.k, l5, lB, by simpa using g5, pass_blk, n.ck.1, by have := n.ck.2; have := roomI hi2; show G.n + (u1 + i * (ut + ue)) + ut ≤ G.lim; omega⟩, hr, fun bb hb F5 H5 g6 => ?_⟩
    have g6' : Good (G.up (u1 + i * (ut + ue) + ut)) F5 (δ' ++ B) (σ' ++ B') H5 := by rw [up_up] at g6; simpa using g6
    cases bb with
    | false =>
      show if false = true then _ else _
      rw [if_neg Bool.false_ne_true]
      refine ⟨F5, acc, ?_, hb.2 rfl⟩
      rw [← hBe, ← hBe']
      exact (g6'.tail l5).mono (by have := more i; omega)
    | true =>
      show if true = true then _ else _
      rw [if_pos rfl]
      refine ⟨ex0, G.up (u1 + i * (ut + ue) + ut), F5, δ', B, B', [], [], _, ⟨n.k, l5, lB, by simpa using g6', pass_blk, n.ck.1, by have := n.ck.2; have := roomI hi2; show G.n + (u1 + i * (ut + ue) + ut) + ue ≤ G.lim; omega⟩, hb.1 rfl, fun y hy v F6 H6 g7 => ?_⟩
      split at hy
      · rename_i z ez
        obtain ⟨hz, hrun⟩ := hy
        have e7 : u1 + i * (ut + ue) + ut + ue = u1 + (i + 1) * (ut + ue) := by have := more i; omega
        rw [up_up, e7] at g7
        have g7' : Good (G.up (u1 + (i + 1) * (ut + ue))) F6 (δ' ++ B ++ some y :: []) (σ' ++ B' ++ [some v]) H6 := by simpa using g7
        obtain ⟨F7, s7, g8⟩ := fix_one g7' ez
        have g8' : Good (G.up (u1 + (i + 1) * (ut + ue))) F7 (δ' ++ B ++ [some (.d z)]) (σ' ++ B' ++ [some v]) H6 := g8
        have at7 : At G.K F7 v z := g8'.top
        have g9 := g8'.pop.tail l5
        rw [hBe, hBe'] at g9
        obtain ⟨l, ws2, e1, e2, e3, _⟩ := g9.top
        cases e1
        refine ⟨ws2, e2, Nat.lt_of_le_of_lt (Nat.le_of_eq (AtL.length e3)) hz, F7, acc ++ [z], ?_, hrun⟩
        have g10 := g9.write' (n := A.length) (xs := acc) (l := D) (ws := ws2 ++ [v]) (ys := acc ++ [z]) (fun j x e b q => ?_) (by simp) (by rw [lA]; simp) (e3.append (.cons at7 .nil))
        · have e : (A ++ [some (DV.own acc)]).set A.length (some (DV.own (acc ++ [z]))) = A ++ [some (DV.own (acc ++ [z]))] := by
            rw [List.set_append_right _ _ (Nat.le_refl _), Nat.sub_self]
            rfl
          rw [e] at g10
          exact g10
        · rcases Nat.lt_or_ge j A.length with hj | hj
          · rw [List.getElem?_append_left hj] at e
            rw [List.getElem?_append_left (by omega)] at q
            rw [hA] at e
            rw [hA'] at q
            exact hB j x e b q
          · rw [List.getElem?_append_right hj] at e
            have : j - A.length = 0 := by
              have := (List.getElem?_eq_some_iff.mp e).1
              simp at this
              omega
            rw [this] at e
            cases e
            cases b
      · exact hy.elim
theorem de_lc {g : MG} (hc : X.calm = true) (hN : X.N.Nodup) (hi : DI X W tg iter mi u1) (ok : BlkOk X.N X.env.scope scope own) (hdom : ∀ j ∈ dom, j ∈ own.map (·.2))
    (hg : ∀ (s : Shared) (H : Hp) (C : Addr) (cl : List (Str × Addr)) (fp : List Addr), DG (X.blk s H scope (compEnvC scope cl C X.env) fp) tg dom g)
    (ht : ∀ (s : Shared) (H : Hp) (C : Addr) (cl : List (Str × Addr)) (fp : List Addr), DTs (X.blk s H scope (compEnvC scope cl C X.env) fp) (W0 W) ifs tt ut)
    (he : ∀ (s : Shared) (H : Hp) (C : Addr) (cl : List (Str × Addr)) (fp : List Addr), DE (X.blk s H scope (compEnvC scope cl C X.env) fp) (W0 W) elt te ue) (hut : ut = 0 := by rfl) (hue : ue = 0 := by rfl) (hs : ∀ x, foldedSetIterable iter X.env x = pure x := by intro _; rfl) :
    DE X W (.ListComp elt [⟨tg, iter, ifs, 0⟩] scope pos) (mLc mi g tt te (own.map (·.2))) u1 :=
  ⟨PE.imp (pe_lc hc hN hi.pi ok (fun s H C cl fp => (hg s H C cl fp).pg) (fun s H C cl fp => (ht s H C cl fp).pts) (fun s H C cl fp => (he s H C cl fp).pe) hs) fun σ H Q q => by
    obtain ⟨ex, G, F, δ, τ, ts, τ1, ts1, R, n, m, k⟩ := q
    exact lc_lift (u1 := u1) (u3 := 0) (ut := ut) (ue := ue) hdom n m k fun it h => ⟨by rw [hut, hue, Nat.mul_zero]; exact Nat.le_refl _, h⟩⟩
theorem de_lcN (N : Nat) {g : MG} (hc : X.calm = true) (hN : X.N.Nodup) (hi : DI X W tg iter mi u1) (ok : BlkOk X.N X.env.scope scope own) (hdom : ∀ j ∈ dom, j ∈ own.map (·.2))
    (hg : ∀ (s : Shared) (H : Hp) (C : Addr) (cl : List (Str × Addr)) (fp : List Addr), DG (X.blk s H scope (compEnvC scope cl C X.env) fp) tg dom g)
    (ht : ∀ (s : Shared) (H : Hp) (C : Addr) (cl : List (Str × Addr)) (fp : List Addr), DTs (X.blk s H scope (compEnvC scope cl C X.env) fp) (W0 W) ifs tt ut)
    (he : ∀ (s : Shared) (H : Hp) (C : Addr) (cl : List (Str × Addr)) (fp : List Addr), DE (X.blk s H scope (compEnvC scope cl C X.env) fp) (W0 W) elt te ue) (hs : ∀ x, foldedSetIterable iter X.env x = pure x := by intro _; rfl) :
    DE X W (.ListComp elt [⟨tg, iter, ifs, 0⟩] scope pos) (mLcN N mi g tt te (own.map (·.2))) (u1 + N * (ut + ue)) :=
  ⟨PE.imp (pe_lc hc hN hi.pi ok (fun s H C cl fp => (hg s H C cl fp).pg) (fun s H C cl fp => (ht s H C cl fp).pts) (fun s H C cl fp => (he s H C cl fp).pe) hs) fun σ H Q q => by
    obtain ⟨ex, G, F, δ, τ, ts, τ1, ts1, R, n, m, k⟩ := q
    exact lc_lift (u1 := u1) (u3 := N * (ut + ue)) (ut := ut) (ue := ue) hdom n m k fun it h => ⟨Nat.mul_le_mul_right _ h.1, h.2⟩⟩
theorem ds_setLc {i : Nat} {y : Str} {py spos : Pos} {g : MG} (hc : X.calm = true) (hN : X.N.Nodup) (hy : X.N[i]? = some y) (hyl : X.env.scope.names.lookup y = some .local)
    (hsw : swapsWith (.ListComp elt [⟨tg, iter, ifs, 0⟩] scope pos) (some (.Name y py)) spos.line X.env = pure true) (hi : DI X W tg iter mi u1) (ok : BlkOk X.N X.env.scope scope own) (hdom : ∀ j ∈ dom, j ∈ own.map (·.2))
    (hg : ∀ (s : Shared) (H : Hp) (C : Addr) (cl : List (Str × Addr)) (fp : List Addr), DG (X.blk s H scope (compEnvC scope cl C X.env) fp) tg dom g)
    (ht : ∀ (s : Shared) (H : Hp) (C : Addr) (cl : List (Str × Addr)) (fp : List Addr), DTs (X.blk s H scope (compEnvC scope cl C X.env) fp) (W0 W) ifs tt ut)
    (he : ∀ (s : Shared) (H : Hp) (C : Addr) (cl : List (Str × Addr)) (fp : List Addr), DE (X.blk s H scope (compEnvC scope cl C X.env) fp) (W0 W) elt te ue) (hut : ut = 0 := by rfl) (hue : ue = 0 := by rfl) (hs : ∀ x, foldedSetIterable iter X.env x = pure x := by intro _; rfl) :
    DS X W (.Assign [.Name y py] (.ListComp elt [⟨tg, iter, ifs, 0⟩] scope pos) spos) (mAsg (mLc mi g tt te (own.map (·.2))) (gN i)) u1 :=
  ⟨PS.imp (ps_setLc hc hN hy hyl hsw hi.pi ok (fun s H C cl fp => (hg s H C cl fp).pg) (fun s H C cl fp => (ht s H C cl fp).pts) (fun s H C cl fp => (he s H C cl fp).pe) hs) fun D σ H q => by
    have h := set_lift D σ H q
    obtain ⟨ex, G, F, δ, τ, ts, τ1, ts1, R, n, m, k⟩ := h
    exact lc_lift (X := X) (own := own) (u1 := u1) (u3 := 0) (ut := ut) (ue := ue) hdom n m k fun it h => ⟨by rw [hut, hue, Nat.mul_zero]; exact Nat.le_refl _, h⟩⟩
end
end
end DL
namespace DL
open PySem PySem.Spec L2
structure FnG (P : Program) (w : World) (K : PySem.W.Frag) (mg : Str → Option Value) (base : Heap) (k : Nat) (f : Addr) (fd : FuncData) (ps : List Str) (sp : Sp) : Prop where
  len : ∀ vs H Q E, sp vs H Q E → vs.length = ps.length
  run : ∀ (A : Around) (outer : List PySem.Env) (s : Shared) (H : Hp) (args : Args) (us : List Value) (vs : List V) (Q : VK) (E : XK), A.guards = some [] → Room k A → Env0 P w K mg base A outer s H → BindsTo s fd args (ps.zip us) → Vals vs us → sp vs H Q E →
    codeAny (model P w) A (.call (.ref f) args) (CR (L2.CX P w) outer P w H s Q E) s
section
variable {P : Program} {w : World} {K : PySem.W.Frag} {mg : Str → Option Value} {base : Heap}
theorem FnG.mono {j k : Nat} {f : Addr} {fd : FuncData} {ps : List Str} {sp : Sp} (h : FnG P w K mg base j f fd ps sp) (q : j ≤ k) : FnG P w K mg base k f fd ps sp :=
  ⟨h.len, fun A outer s H args us vs Q E hg hr => h.run A outer s H args us vs Q E hg (hr.mono q)⟩
theorem FnG.imp {k : Nat} {f : Addr} {fd : FuncData} {ps : List Str} {sp sp' : Sp} (h : FnG P w K mg base k f fd ps sp) (i : ∀ vs H Q E, sp' vs H Q E → sp vs H Q E) : FnG P w K mg base k f fd ps sp' :=
  ⟨fun vs H Q E q => h.len vs H Q E (i _ _ _ _ q), fun A outer s H args us vs Q E hg hr he hb hv q => h.run A outer s H args us vs Q E hg hr he hb hv (i _ _ _ _ q)⟩
theorem fnG_of {x qual : Str} {st : Stmt} {f : Addr} {fd : FuncData} {N ps : List Str} {k : Nat} {sp : Sp} (T : L2.Fun K x qual st f fd) (S : FnScope N ps (L2.defScope st)) (len : ∀ vs H Q E, sp vs H Q E → vs.length = ps.length)
    (body : ∀ (cdv : Value) (A : Around) (outer : List PySem.Env) (s : Shared) (H : Hp) (vs : List V) (Q : VK) (E : XK), A.guards = some [] → Room k (A.deeper (PyProof.Rows.envOfC qual (L2.defScope st) s.heap.objs.size f cdv)) → sp vs H Q E →
      ∃ t, PSs (cxOf (L2.CX P w) P w K mg base N qual (L2.defScope st) f cdv A outer s H E) (L2.defBody st) t ∧ t { nx := fun _ H' => Q .non H', rt := Q } (start N vs) H) : FnG P w K mg base (k + 1) f fd ps sp := by
  obtain ⟨oc, od, kV, doc, pm, an, cdv, ct, osl, rfl, lk, hcd⟩ := T.ex
  refine ⟨len, fun A outer s H args us vs Q E hg hr e0 hb r hsp => ?_⟩
  have hlen := len _ _ _ _ hsp
  have kin : K.In s.heap := e0.mod.kin.keeps fun b o e => (e0.bs b o e).1
  have nol : s.heap.NoLimit := e0.mod.nolimit.keeps fun b o e => (e0.bs b o e).1
  have kinds : ∀ y ∈ ps.zip us, (L2.defScope st).names.lookup y.1 = some .local ∨ ((L2.defScope st).names.lookup y.1 = some .cell ∧ ((cellsFrom (s.heap.objs.size + 1) (L2.defScope st).names []).lookup y.1).isSome = true) := by
    rintro ⟨n, v⟩ hy
    rcases S.par n (List.of_mem_zip hy).1 with q | q
    · exact .inl q
    · exact .inr ⟨q, PySem.W.cellsFrom_some _ _ _ (.inl q)⟩
  refine codeAny_call_function hr.depth (kin _ _ lk) rfl S.co S.gen rfl (PySem.W.codeRec_of kin hcd) (hb _ _ _ _ ?_)
  refine wpAny_newFunctionEnv_cells S.kind kinds fun env he s1 x => ?_
  subst he
  refine ⟨nol.keeps x.toInCall.keep, codeAny_func ?_⟩
  obtain ⟨t, ht, hq⟩ := body cdv A outer s H vs Q E hg (hr.deeper _) hsp
  have I := inv_start (CX := L2.CX P w) (E := E) (cd := cdv) S hr.hd e0 hlen r x
  refine wpAny_mono (ht.run [] s1 (start N vs) H _ I hq) (fun fl s' hs => ?_) fun e s' hs => hs
  cases fl with
  | ret u =>
    obtain ⟨v, σ', H', J, rv, q⟩ := hs
    exact ⟨v, H', J.os, J.bare, J.base, J.hok, rv, q⟩
  | next =>
    obtain ⟨σ', H', J, q⟩ := hs
    exact ⟨V.non, H', J.os, J.bare, J.base, J.hok, rfl, q⟩
  | brk =>
    obtain ⟨_, _, _, q⟩ := hs
    exact False.elim q
  | cont =>
    obtain ⟨_, _, _, q⟩ := hs
    exact False.elim q
end
abbrev CKT := (Addr → Prop) → V → (Nat → Hp → Prop) → Nat → Prop
def spD (K : PySem.W.Frag) (mg : Str → Option Value) (CK : CKT) (u n : Nat) (mf : MF) : Sp := fun vs H Q E => vs.length = n ∧ ∃ (G : Gm) (F : Hp) (as : List DV) (R : DV → Prop) (ex : DExc → Prop), G.K = K ∧ (CK G.C G.cv G.J G.lim ∧ G.n + u ≤ G.lim) ∧ as.length = vs.length ∧ (∀ x ∈ as, x.arg = true) ∧ Good G F (as.map some) (vs.map some) H ∧ mf as R ex ∧
  (∀ r, R r → r.arg = true → ∀ v F' H', Good (G.up u) F' [some r] [some v] H' → Q v H') ∧
  (∀ e, ex e → ∀ b cls d F' H', b ≤ u → Good (G.up b) F' [] [] H' → ExcAt K mg F' H' e cls d → E cls d H')
structure DFn (P : Program) (w : World) (K : PySem.W.Frag) (mg : Str → Option Value) (base : Heap) (CK : CKT) (x : Str) (k u n : Nat) (mf : MF) : Prop where
  ex : ∃ f fd ps, mg x = some (.ref f) ∧ PySem.W.keepIn K (.ref f) = true ∧ Binds K fd ps [] ∧ ps.length = n ∧ FnG P w K mg base k f fd ps (spD K mg CK u n mf)
def startD (n : Nat) (as : List DV) : Env := as.map some ++ List.replicate (n - as.length) none
def bodyD (n : Nat) (m : MS) : MF := fun as R ex => m (fun e _ => ex e) { nx := fun _ => R (.d .none), rt := R, bk := fun _ => False, ct := fun _ => False } (startD n as)
section
variable {P : Program} {w : World} {K : PySem.W.Frag} {mg : Str → Option Value} {base : Heap}
theorem Good.more {G : Gm} {F H : Hp} {δ : Env} {σ : L2.St} (g : Good G F δ σ H) : ∀ k, Good G F (δ ++ List.replicate k none) (σ ++ List.replicate k none) H := fun k => by
  have hl := g.len
  have low : ∀ {α : Type} {l : List (Option α)} {i : Nat} {z : α}, (l ++ List.replicate k none)[i]? = some (some z) → l[i]? = some (some z) := fun {α l i z} e => by
    rcases Nat.lt_or_ge i l.length with q | q
    · rw [List.getElem?_append_left q] at e; exact e
    · rw [List.getElem?_append_right q, List.getElem?_replicate] at e
      split at e <;> cases e
  refine ⟨g.g, by simp [hl], g.f0, g.fh, g.fr, g.bh, g.cf, g.jh, fun i x e => ?_, fun i j x y l hx hy e1 e2 e3 e4 => g.di i j x y l hx hy (low e1) (low e2) (low e3) (low e4)⟩
  obtain ⟨v, h1, h2⟩ := g.sl i x (low e)
  refine ⟨v, ?_, h2⟩
  rw [List.getElem?_append_left (List.getElem?_eq_some_iff.mp h1).1]
  exact h1
structure Ctx (X : Cx) (W : WC) (k : Nat) : Prop where
  gd : X.A.guards = some []
  hr : Room k X.A
  tk : Takes X W.w
structure CtxU (X : Cx) : Prop where
  gd : X.A.guards = some []
  un : X.A.units + 200 < cLine
theorem Ctx.u {X : Cx} {W : WC} {k : Nat} (c : Ctx X W k) : CtxU X := ⟨c.gd, by have := c.hr.un; omega⟩
theorem CtxU.u64 {X : Cx} (c : CtxU X) : X.A.units + 64 < cLine := by have := c.un; omega
theorem fnD_of {u : Nat} {x qual : Str} {st : Stmt} {f : Addr} {fd : FuncData} {N ps : List Str} {k : Nat} {m : MS} {mf : MF} {CK : CKT} (T : L2.Fun K x qual st f fd) (S : FnScope N ps (L2.defScope st))
    (body : ∀ (cdv : Value) (A : Around) (outer : List PySem.Env) (s : Shared) (H : Hp) (E : XK), Ctx (cxOf (L2.CX P w) P w K mg base N qual (L2.defScope st) f cdv A outer s H E) ⟨fun cls d _ H => E cls d H, CK⟩ k →
      DSs (cxOf (L2.CX P w) P w K mg base N qual (L2.defScope st) f cdv A outer s H E) ⟨fun cls d _ H => E cls d H, CK⟩ (L2.defBody st) m u)
    (post : ∀ as R ex, as.length = ps.length → mf as R ex → bodyD N.length m as R ex) : FnG P w K mg base (k + 1) f fd ps (spD K mg CK u ps.length mf) := by
  refine fnG_of T S (fun vs H Q E q => q.1) fun cdv A outer s H vs Q E hg hr q => ?_
  obtain ⟨hn, G, F, as, R, ex, hK, hck, hl, harg, g, h, hR, hE⟩ := q
  refine ⟨_, (body cdv A outer s H E ⟨hg, hr, takes_of rfl rfl rfl rfl⟩).pss, ?_⟩
  have hp := post as R ex (hl.trans hn) h
  have hlN : ps.length ≤ N.length := by
    have h1 := S.pre
    have h2 := congrArg List.length h1
    simp at h2
    omega
  refine ⟨fun e _ => ex e, G, F, startD N.length as, [], [], { nx := fun _ => R (.d .none), rt := R, bk := fun _ => False, ct := fun _ => False }, ⟨hK, ?_, rfl, ?_, fun b F' δ' σ' H' τ1 ts1 e cls d hb h1 h2 h3 h4 => ?_, hck⟩, ?_, ⟨fun δ' h' b σ' F' H' hb l' nb' g' => ?_, fun _ z => z.elim, fun _ z => z.elim, fun r hr ha b v F' H' hb g' => hR r hr ha v F' H' (g'.mono hb), fun _ _ z => z.elim⟩, hp⟩
  · unfold startD L2.start
    simp [hl]
  · unfold startD L2.start
    have := g.more (N.length - as.length)
    rw [hl] at this ⊢
    simpa using this
  · refine hE e h4 b cls d F' H' hb (Good.cut (A := []) (A' := []) (B := δ' ++ [] ++ τ1) (B' := σ' ++ [] ++ ts1) h2.len h2) h3
  · intro i x e
    unfold startD at e
    simp only [List.append_nil] at e
    rcases Nat.lt_or_ge i (as.map some).length with q | q
    · rw [List.getElem?_append_left q, List.getElem?_map] at e
      cases q2 : as[i]? with
      | none => rw [q2] at e; cases e
      | some y =>
        rw [q2] at e
        cases e
        have := harg x (List.mem_of_getElem? q2)
        cases x with
        | bor _ => cases this
        | bdk _ => cases this
        | blk _ _ => cases this
        | bdt _ _ => cases this
        | _ => rfl
    · rw [List.getElem?_append_right q, List.getElem?_replicate] at e
      split at e <;> cases e
  · refine hR _ h' rfl .non F' H' ?_
    have g0 : Good (G.up b) F' ([] : Env) ([] : L2.St) H' := Good.cut (A := []) (A' := []) (B := δ' ++ []) (B' := σ' ++ []) g'.len g'
    exact (Good.pushD g0 .non).mono hb
end
def argsD : List DV → Option (List DV)
  | [] => some []
  | x :: xs => match (match x with
      | .own ys => some (.d (.list ys))
      | .odk ys => some (.d (.dict ys))
      | .ldk _ ys => some (.d (.dict ys))
      | .olk _ _ => none
      | .blk _ _ => none
      | .bor _ => none
      | .bdk _ => none
      | .exc _ _ _ _ => none
      | .odt _ _ => none
      | .bdt _ _ => none
      | .ldt _ _ => none
      | .ins _ _ _ => none
      | y => some y : Option DV), argsD xs with
    | some a, some as => some (a :: as)
    | _, _ => none
theorem dfn_of {u : Nat} {x qual : Str} {st : Stmt} {f : Addr} {fd : FuncData} {N ps : List Str} {k : Nat} {m : MS} {mf : MF} {CK : CKT} (hm : mg x = some (.ref f)) (T : L2.Fun K x qual st f fd) (hb : Binds K fd ps []) (S : FnScope N ps (L2.defScope st))
    (body : ∀ (cdv : Value) (A : Around) (outer : List PySem.Env) (s : Shared) (H : Hp) (E : XK), Ctx (cxOf (L2.CX P w) P w K mg base N qual (L2.defScope st) f cdv A outer s H E) ⟨fun cls d _ H => E cls d H, CK⟩ k →
      DSs (cxOf (L2.CX P w) P w K mg base N qual (L2.defScope st) f cdv A outer s H E) ⟨fun cls d _ H => E cls d H, CK⟩ (L2.defBody st) m u)
    (post : ∀ as R ex, as.length = ps.length → mf as R ex → bodyD N.length m as R ex) : DFn P w K mg base CK x (k + 1) u ps.length mf :=
  ⟨f, fd, ps, hm, T.kp, hb, rfl, fnD_of T S body post⟩
theorem argsD_arg : ∀ {xs as : List DV}, argsD xs = some as → as.length = xs.length ∧ ∀ a ∈ as, a.arg = true
  | [], as, e => by cases e; exact ⟨rfl, by simp⟩
  | x :: xs, as, e => by
    unfold argsD at e
    split at e
    · rename_i a as' e1 e2
      cases e
      obtain ⟨h1, h2⟩ := argsD_arg e2
      refine ⟨by simp [h1], fun b hb => ?_⟩
      rcases List.mem_cons.mp hb with rfl | hb
      · cases x with
        | own _ => cases e1; rfl
        | d _ => cases e1; rfl
        | cask => cases e1; rfl
        | raw _ => cases e1; rfl
        | scr _ => cases e1; rfl
        | fvs _ _ => cases e1; rfl
        | odk _ => cases e1; rfl
        | ldk _ _ => cases e1; rfl
        | _ => cases e1
      · exact h2 b hb
    · cases e
theorem unlk {G : Gm} {F H : Hp} {A A2 : Env} {ρ : L2.St} {p : Unit → LkP} {ys : List (PyData × PyData)} (g : Good G F (A ++ some (.ldk p ys) :: A2) ρ H) : Good G F (A ++ some (.d (.dict ys)) :: A2) ρ H := by
  have back : ∀ {i : Nat} {z : DV}, (A ++ some (.d (.dict ys)) :: A2)[i]? = some (some z) → (i = A.length ∧ z = .d (.dict ys)) ∨ (A ++ some (.ldk p ys) :: A2)[i]? = some (some z) := fun {i z} e => by
    rcases Nat.lt_trichotomy i A.length with q | q | q
    · rw [List.getElem?_append_left q] at e ⊢; exact .inr e
    · subst q; simp at e; exact .inl ⟨rfl, e.symm⟩
    · rw [List.getElem?_append_right (by omega)] at e ⊢
      obtain ⟨k, hk⟩ : ∃ k, i - A.length = k + 1 := ⟨i - A.length - 1, by omega⟩
      rw [hk] at e ⊢
      exact .inr e
  refine ⟨g.g, by have := g.len; simpa using this, g.f0, g.fh, g.fr, g.bh, g.cf, g.jh, fun i z e => ?_, fun i j a b l ha hb e1 e2 e3 e4 => ?_⟩
  · rcases back e with ⟨rfl, rfl⟩ | e
    · obtain ⟨v, e1, h⟩ := g.sl A.length (.ldk p ys) (by simp)
      obtain ⟨_, _, rfl, h1, h2⟩ := h
      exact ⟨_, e1, .dct (.inr ⟨_, h1⟩) h2⟩
    · exact g.sl i z e
  · rcases back e1 with ⟨_, rfl⟩ | e1
    · cases ha
    rcases back e2 with ⟨_, rfl⟩ | e2
    · cases hb
    exact g.di i j a b l ha hb e1 e2 e3 e4
theorem fix_args {G : Gm} {H : Hp} {ρ : L2.St} : ∀ (xs : List DV) {F : Hp} {A : Env} {as : List DV}, Good G F (A ++ xs.map some) ρ H → argsD xs = some as → ∃ F', Same F F' ∧ Good G F' (A ++ as.map some) ρ H
  | [], F, A, as, g, e => by
    cases e
    exact ⟨F, Same.refl F, by simpa using g⟩
  | x :: xs, F, A, as, g, e => by
    unfold argsD at e
    split at e
    · rename_i a as' e1 e2
      cases e
      have one : ∃ F1, Same F F1 ∧ Good G F1 (A ++ some a :: xs.map some) ρ H := by
        cases x with
        | own ys =>
          cases e1
          exact fix_one (A := A) (A2 := xs.map some) (x := .own ys) (by simpa using g) rfl
        | d _ => cases e1; exact ⟨F, Same.refl F, by simpa using g⟩
        | cask => cases e1; exact ⟨F, Same.refl F, by simpa using g⟩
        | raw _ => cases e1; exact ⟨F, Same.refl F, by simpa using g⟩
        | scr _ => cases e1; exact ⟨F, Same.refl F, by simpa using g⟩
        | fvs _ _ => cases e1; exact ⟨F, Same.refl F, by simpa using g⟩
        | odk ys =>
          cases e1
          exact fix_one (A := A) (A2 := xs.map some) (x := .odk ys) (by simpa using g) rfl
        | ldk p ys =>
          cases e1
          exact ⟨F, Same.refl F, unlk (A := A) (A2 := xs.map some) (by simpa using g)⟩
        | _ => cases e1
      obtain ⟨F1, s1, g1⟩ := one
      obtain ⟨F2, s2, g2⟩ := fix_args xs (F := F1) (A := A ++ [some a]) (by simpa using g1) e2
      exact ⟨F2, s1.trans s2, by simpa using g2⟩
    · cases e
section
variable {X : Cx} {W : WC} {e : Expr} {es : List Expr} {pos p : Pos} {mas : MA} {x : Str} {k j n u1 u2 : Nat} {mf : MF}
def mCall (n : Nat) (mf : MF) (t : MA) : ME := fun ex δ R => t ex δ fun xs => match argsD xs with
  | some as => as.length = n ∧ mf as R (fun e => ex e δ)
  | none => False
theorem call_run {f : Addr} {fd : FuncData} {ps : List Str} {sp : Sp} {pins : List (Addr × Obj)} {σ : L2.St} {H : Hp} {s : Shared} {Q : VK} {us : List Value} {vs : List V} (F : FnG X.prog X.w X.K X.mg X.base k f fd ps sp) (hg : X.A.guards = some []) (hr : Room k X.A) (hb : Binds X.K fd ps []) (tk : Takes X W.w)
    (I : Inv X pins σ H s) (r : Vals vs us) (h : sp vs H Q (WE W.w σ)) : wpAny (model X.prog X.w) X.A (call (.ref f) us) (EP X pins σ Q) X.xe s := by
  have hl : us.length = ps.length := by rw [← r.length]; exact F.len _ _ _ _ h
  have hb' := hb s us I.kIn (by simpa using hl)
  rw [List.append_nil] at hb'
  refine wpAny_call (codeAny_mono (F.run X.A X.stack s H ⟨us, []⟩ us vs Q (WE W.w σ) hg hr I.env0 hb' r h) fun res s' hq => ?_)
  match res, hq with
  | .error e, hq => exact passAt tk σ pins H s e s' I hq
  | .ok (.ret u), hq => exact I.after hq
theorem spD_lift (σ : L2.St) (H : Hp) (Q : VK) (q : liftE X.K X.mg W (u1 + u2) (mCall n mf mas) σ H Q) :
    liftA X.K X.mg W u1 mas σ H fun vs H1 => spD X.K X.mg W.ck u2 n mf vs H1 Q (WE W.w σ) := by
  obtain ⟨ex, G, F, δ, τ, ts, τ1, ts1, R, nw, m, kk⟩ := q
  refine ⟨ex, G, F, δ, τ, ts, τ1, ts1, _, nw.fst, m, fun xs hxs vs F1 H1 hl g1 => ?_⟩
  split at hxs
  · rename_i as ea
    obtain ⟨hn, hxs⟩ := hxs
    obtain ⟨h1, h2⟩ := argsD_arg ea
    obtain ⟨F2, s2, g2⟩ := fix_args xs g1 ea
    have hla : as.length = vs.length := h1.trans hl
    have gb := g2.cut (by simpa using hla)
    refine ⟨hla.symm.trans hn, (G.up u1).into F2 H1, F2, as, R, fun e => ex e δ, nw.k, ⟨nw.ck.1, by have := nw.ck.2; show G.n + u1 + u2 ≤ G.lim; omega⟩, hla, h2, gb.into h2 hla fun i x e => Good.nth hla g2 e, hxs, fun r hr ha v F' H' g' => kk r hr v F' H' (by rw [← up_up]; exact gb.ret (δ₁ := []) (σ₁ := []) ha g'), fun e he b cls d F' H' hb g' hx => ?_⟩
    exact nw.link (u1 + b) F' δ σ H' τ1 ts1 e cls d (by omega) nw.l1 (by rw [← up_up]; exact gb.back g') hx he
  · exact hxs.elim
theorem de_call (c : Ctx X W j) (F : DFn X.prog X.w X.K X.mg X.base W.ck x k u2 n mf) (hk : k ≤ j) (hg : Gl X x) (ha : DA X W (e :: es) mas u1) (hdb : (x == ("__debug__" : Str)) = false := by decide)
    (he : starEach (e :: es) X.env = (false, eval e X.env) :: starEach es X.env := by rfl) (hpl : (backTo pos (starEach es X.env)).any (·.1) = false := by rfl) : DE X W (.Call (.Name x p) (e :: es) [] pos) (mCall n mf mas) (u1 + u2) := by
  obtain ⟨f, fd, ps, hm, hkp, hb, hn, hF⟩ := F
  refine ⟨⟨fun pins s σ H Q I h => ?_⟩⟩
  have h' := spD_lift σ H Q h
  refine wpAny_Call_Name_kw (ld_glob I hg hm ?_ hdb)
  exact PySem.W.callWith_K (h₀ := X.base) I.ok.mod.kin hkp (thn (ha.pa.run pos pins s σ H _ I h') fun us s1 ⟨vs, H1, I1, r, q⟩ => ⟨I1.kIn, call_run hF c.gd (c.hr.mono hk) hb c.tk I1 r q⟩) he hpl
end
theorem DFn.le {P : Program} {w : World} {K : PySem.W.Frag} {mg : Str → Option Value} {base : Heap} {CK : CKT} {x : Str} {k u u' n : Nat} {mf : MF} (h : DFn P w K mg base CK x k u n mf) (hu : u ≤ u') : DFn P w K mg base CK x k u' n mf := by
  obtain ⟨f, fd, ps, h1, h2, h3, h4, h5⟩ := h
  refine ⟨f, fd, ps, h1, h2, h3, h4, h5.imp fun vs H Q E q => ?_⟩
  obtain ⟨q1, G, F, as, R, ex, q2, q3, q4, q5, q6, q7, q8, q9⟩ := q
  exact ⟨q1, G, F, as, R, ex, q2, ⟨q3.1, Nat.le_trans (Nat.add_le_add_left hu _) q3.2⟩, q4, q5, q6, q7, fun r hr ha v F' H' g => q8 r hr ha v F' H' (g.mono hu), fun e he b cls d F' H' hb g => q9 e he b cls d F' H' (Nat.le_trans hb hu) g⟩
end DL
namespace DL
open PySem PySem.Spec L2
section
variable {P : Program} {w : World} {K : PySem.W.Frag} {mg mb : Str → Option Value} {k : Nat} {fa a : Addr} {fd : FuncData} {x : Str} {sp : Sp} {s₁ : Shared} {vs : List Value} {ns : List Int}
theorem law_over {H : Hp} (kin : K.In s₁.heap) (hns : s₁.heap.Ns mainGlobals mg) (hb : s₁.heap.Ns builtinsNs mb) (hbb : ∀ y : Str, y ≠ "__name__" → mb y = bootBuiltins y) (hlim : s₁.heap.NoLimit) (hg : s₁.gens = #[])
    (ha : s₁.heap.get? a = some { cls := .type "list", data := .seq vs.toArray }) (hr : Room k PySem.callerA)
    (F : ∀ base : Heap, K.In base → base.Ns mainGlobals mg → FnG P w K mg base k fa fd [x] sp) (hbind : ∀ (s : Shared) (u : Value), BindsTo s fd ⟨[u], []⟩ [(x, u)])
    (only : L2.Only H) (hok : HOk P w H s₁.heap) (at1 : ∀ b, H b ≠ none → b = a) (noK : H a ≠ none → K.lookup a = none)
    (hsp : sp [.ref a] H (fun v _ => v = .bl true) fun _ _ _ => False) :
    codeAny (model P w) PySem.callerA (.call (.ref fa) ⟨[.ref a], []⟩) (fun r s' => r = .ok (.ret (.bool true)) ∧ OldK s₁.heap s'.heap ∧ s'.os = s₁.os ∧ PyProof.Rows.AllBare s'.gens) s₁ := by
  have isA : ∀ {b : Addr} {o : Obj}, s₁.heap.get? b = some o → (∀ us n, o.data ≠ .seq us n) → H b = none := by
    intro b o e d
    cases q : H b with
    | none => rfl
    | some u =>
      obtain rfl := at1 b (by rw [q]; simp)
      rw [ha] at e
      cases e
      exact absurd rfl (d _ _)
  have inB : ∀ {b : Addr} {m : Str → Option Value}, s₁.heap.Ns b m → (hidT s₁.heap H).Ns b m := by
    rintro b m ⟨o, es, ep, e, d, r⟩
    exact ⟨o, es, ep, hidT_get e (isA e fun us n z => by rw [d] at z; cases z), d, r⟩
  have kinB : K.In (hidT s₁.heap H) := by
    intro b o e
    refine hidT_get (kin b o e) ?_
    cases q : H b with
    | none => rfl
    | some u =>
      obtain rfl := at1 b (by rw [q]; simp)
      rw [noK (by rw [q]; simp)] at e
      cases e
  have md : Mod K mg (hidT s₁.heap H) := by
    obtain ⟨mc, l1, l2⟩ := hlim
    exact ⟨kinB, inB hns, ⟨mb, inB hb, hbb⟩, ⟨mc, inB l1, l2⟩⟩
  have e0 : Env0 P w K mg (hidT s₁.heap H) PySem.callerA [] s₁ H :=
    ⟨rfl, md, fun b o e => of_hidT e, by rw [hidT_size]; exact Nat.le_refl _, trivial, fun b hb => (List.not_mem_nil (show b ∈ ([] : List Addr) from hb)).elim, hok, .of_eq hg⟩
  have run := (F _ kinB (inB hns)).run PySem.callerA [] s₁ H ⟨[.ref a], []⟩ [.ref a] [.ref a] (fun v _ => v = .bl true) (fun _ _ _ => False) rfl hr e0 (hbind s₁ (.ref a)) (.cons rfl .nil) hsp
  refine codeAny_mono run fun r s' h => ?_
  match r, h with
  | .error e, h =>
    obtain ⟨_, _, _, _, _, _, _, _, _, _, _, _, z⟩ := h
    exact z.elim
  | .ok (.ret u), h =>
    obtain ⟨v, H', os, bare, un, hok', rv, q⟩ := h
    obtain rfl : v = .bl true := q
    obtain rfl : u = Value.bool true := rv
    refine ⟨rfl, OldK.of_keep fun b o e => ?_, os, bare⟩
    cases q : H b with
    | none => exact un.keep b o e q (fun z => (List.not_mem_nil (show b ∈ ([] : List Addr) from z)).elim) (fun z => (List.not_mem_nil z).elim)
    | some u =>
      rcases only b with z | ⟨ob, xs, z⟩
      · rw [q] at z
        cases z
      · obtain ⟨e1, _⟩ := hok b _ z
        obtain ⟨e2, _⟩ := hok' b _ (un.frzs b ob _ z)
        rw [e] at e1
        cases e1
        exact e2
theorem law_callG (kin : K.In s₁.heap) (hns : s₁.heap.Ns mainGlobals mg) (hb : s₁.heap.Ns builtinsNs mb) (hbb : ∀ y : Str, y ≠ "__name__" → mb y = bootBuiltins y) (hlim : s₁.heap.NoLimit) (hg : s₁.gens = #[])
    (ha : s₁.heap.get? a = some { cls := .type "list", data := .seq vs.toArray }) (hi : PyProof.Rows.IntsAre vs ns) (hl : ns.length ≤ sizeLine) (hr : Room k PySem.callerA)
    (F : ∀ base : Heap, K.In base → base.Ns mainGlobals mg → FnG P w K mg base k fa fd [x] sp) (hbind : ∀ (s : Shared) (u : Value), BindsTo s fd ⟨[u], []⟩ [(x, u)])
    (hsp : ∀ H : Hp, L2.Only H → SqL K H a (ns.map V.int) → sp [.ref a] H (fun v _ => v = .bl true) fun _ _ _ => False) :
    codeAny (model P w) PySem.callerA (.call (.ref fa) ⟨[.ref a], []⟩) (fun r s' => r = .ok (.ret (.bool true)) ∧ OldK s₁.heap s'.heap ∧ s'.os = s₁.os ∧ PyProof.Rows.AllBare s'.gens) s₁ := by
  have rv := L2.vals_ints hi
  have hlen := hi.length
  cases hk : K.lookup a with
  | some o =>
    have e := kin a o hk
    rw [ha] at e
    cases e
    have o1 : L2.Only fun _ => none := fun _ => .inl rfl
    exact law_over kin hns hb hbb hlim hg ha hr F hbind o1 (fun b u z => nomatch z) (fun b z => absurd rfl z) (fun z => absurd rfl z)
      (hsp _ o1 (.inr ⟨_, vs.toArray, _, hk, rfl, rfl, rfl, by rw [List.size_toArray, hlen]; exact hl, by simpa using rv⟩))
  | none =>
    obtain ⟨H, hH⟩ : ∃ H : Hp, H = fun b => if b = a then some (.frz { cls := .type "list", data := .seq vs.toArray } (.lst (ns.map V.int))) else none := ⟨_, rfl⟩
    have ht : H a = some (.frz { cls := .type "list", data := .seq vs.toArray } (.lst (ns.map V.int))) := by rw [hH]; exact if_pos rfl
    have hn : ∀ b, b ≠ a → H b = none := fun b q => by rw [hH]; exact if_neg q
    have o1 : L2.Only H := fun b => by
      by_cases q : b = a
      · subst q
        exact .inr ⟨_, _, ht⟩
      · exact .inl (hn b q)
    refine law_over kin hns hb hbb hlim hg ha hr F hbind o1 (fun b u z => ?_) (fun b z => ?_) (fun _ => hk) (hsp _ o1 (.inl (.inr ⟨_, ht⟩)))
    · by_cases q : b = a
      · subst q
        rw [ht] at z
        cases z
        exact ⟨ha, by rw [List.length_map]; exact hl, vs, _, rv, ha⟩
      · rw [hn b q] at z
        cases z
    · exact Classical.byContradiction fun q => z (hn b q)
end
theorem walkG {l : PySem.W.OpenLaw} {k : Nat} {q : Program} {loose : List Str} {XP : (Str → Option Value) → Heap → Prop} {YP : World → Heap → Prop} {d : DefRec} {K : Params → PySem.W.Frag} {sp : PySem.W.Frag → Sp} {x : Str}
    (hn : l.most = some 63) (hdf : d.params.defaults = []) (hr : Room k PySem.callerA)
    (hY : ∀ (w : World) (h : Heap), YP w h → (K w.params).In h)
    (F : ∀ (w : World) (mg : Str → Option Value) (fa : Addr) (h : Heap), (K w.params).In h → h.Ns mainGlobals mg → mg d.name = some (.ref fa) →
      ∃ fd : FuncData, (∀ (s : Shared) (u : Value), BindsTo s fd ⟨[u], []⟩ [(x, u)]) ∧
        ∀ base : Heap, (K w.params).In base → base.Ns mainGlobals mg → FnG l.prog w (K w.params) mg base k fa fd [x] (sp (K w.params)))
    (hsp : ∀ (K : PySem.W.Frag) (H : Hp) (a : Addr) (ns : List Int), ns.length ≤ 63 → L2.Only H → SqL K H a (ns.map V.int) → sp K [.ref a] H (fun v _ => v = .bl true) fun _ _ _ => False) :
    PySem.W.WalkO q loose XP YP l.row.toRowW d [] (fun f vs => PySem.call f vs) := by
  refine Att.attach_call hn hdf fun w s₀ s₁ mg mb fa o pm cd doc a vs ns G Y ho hd hcd hmg hobj hints hlen hg => ?_
  have kin := hY w _ Y
  obtain ⟨fd, hb, hF⟩ := F w mg fa _ kin G.T.g hmg
  exact law_callG kin G.T.g G.T.b G.T.builtins G.T.nolimit hg hobj hints (Nat.le_trans hlen (by rw [sizeLine_eq]; decide)) hr hF hb fun H hO hS => hsp _ H a ns hlen hO hS
end DL
namespace DL
open PySem PySem.Spec L2
section
variable {u u1 u2 u3 : Nat} {X : Cx} {W : WC} {a b c e : Expr} {es : List Expr} {pos : Pos} {ma mb me : ME} {mas : MA} {k : Nat}
theorem Good.fresh {G : Gm} {F H : Hp} {δ : Env} {σ : L2.St} (g : Good G F δ σ H) {p : Addr} (hp : H p = none) : F p = none := by
  cases q : F p with
  | none => rfl
  | some u => rw [g.fh _ _ q] at hp; cases hp
def DV.pd : DV → Option PyData
  | .d x => some x
  | .own xs => some (.list xs)
  | .bor xs => some (.list xs)
  | _ => none
mutual
theorem At.reads {pins : List (Addr × Obj)} {σ : L2.St} {H F : Hp} {s : Shared} (I : Inv X pins σ H s) (hf : Same F H) : ∀ (d : PyData) (v : V) (u : Value), d.hasDict = false → At X.K F v d → RelV v u → ∃ as, Reads s.heap u d as
  | .none, _, _, _, h, r => by cases h; cases r; exact ⟨_, Reads.none⟩
  | .bool b, _, _, _, h, r => by cases h; cases r; exact ⟨_, Reads.bool b⟩
  | .int i, _, _, _, h, r => by
    cases h
    obtain ⟨t, rfl⟩ := r
    exact ⟨_, Reads.int i t⟩
  | .str x, _, _, _, h, r => by
    cases h
    obtain ⟨t, rfl⟩ := r
    exact ⟨_, Reads.str x t⟩
  | .list ds, _, _, hd, h, r => by
    cases h with
    | lst hs ha =>
      cases r
      obtain ⟨its, rv, ⟨o, n, ho, hc, _, hdat⟩, _⟩ := I.list (SqL.of (hf _ _ hs))
      obtain ⟨as, hr⟩ := AtL.reads I hf ds _ its (by simpa only [PyData.hasDict] using hd) ha rv
      exact ⟨_, Reads.list ho hc hdat hr⟩
  | .tuple ds, _, _, hd, h, r => by
    cases h with
    | tup hs ha =>
      cases r
      obtain ⟨its, rv, ⟨o, ho, hc, n, hdat⟩, _⟩ := I.tuple (SqT.of (hf _ _ hs))
      obtain ⟨as, hr⟩ := AtL.reads I hf ds _ its (by simpa only [PyData.hasDict] using hd) ha rv
      exact ⟨_, Reads.tuple ho hc hdat hr⟩
  | .dict kvs, _, _, hd, _, _ => by simp only [PyData.hasDict] at hd; cases hd
theorem AtL.reads {pins : List (Addr × Obj)} {σ : L2.St} {H F : Hp} {s : Shared} (I : Inv X pins σ H s) (hf : Same F H) : ∀ (ds : List PyData) (vs : List V) (us : List Value), PyData.hasDictAll ds = false → AtL X.K F vs ds → Vals vs us → ∃ as, ReadsAll s.heap us ds as
  | [], _, _, _, h, r => by cases h; cases r; exact ⟨_, ReadsAll.nil⟩
  | d :: ds, _, _, hd, h, r => by
    simp only [PyData.hasDictAll, Bool.or_eq_false_iff] at hd
    cases h with
    | cons h1 h2 =>
      cases r with
      | cons r1 r2 =>
        obtain ⟨as, q1⟩ := At.reads I hf d _ _ hd.1 h1 r1
        obtain ⟨bs, q2⟩ := AtL.reads I hf ds _ _ hd.2 h2 r2
        exact ⟨_, ReadsAll.cons q1 q2⟩
end
def Da (K : PySem.W.Frag) (H : Hp) (v : V) (d : PyData) : Prop := ∃ F, Same F H ∧ At K F v d
theorem pd_da {G : Gm} {F H : Hp} {v : V} {x : DV} {d : PyData} (h : VOk G F H v x) (hf : Same F H) (e : x.pd = some d) : Da G.K H v d := by
  have own : ∀ {l : Addr} {vs : List V} {xs : List PyData}, H l = some (.lst vs) → AtL G.K F vs xs → Da G.K H (.ref l) (.list xs) := fun {l vs xs} h1 h2 => by
    refine ⟨H, Same.refl H, .lst h1 (AtL.mono hf _ _ h2)⟩
  match x, e, h with
  | .d y, e, h => cases e; exact ⟨F, hf, h⟩
  | .own xs, e, h =>
    cases e
    obtain ⟨l, vs, rfl, h1, h2, _⟩ := h
    exact own h1 h2
  | .bor xs, e, h =>
    cases e
    obtain ⟨l, vs, rfl, h1, h2, _⟩ := h
    exact own h1 h2
def oI (C : Int → Int → Prop) (f : Int → Int → Int) : D2 := fun x y R => match x, y with
  | .d (.int i), .d (.int j) => C i j ∧ R (.d (.int (f i j)))
  | _, _ => False
def oC (f : Int → Int → Bool) : D2 := fun x y R => match x, y with
  | .d (.int i), .d (.int j) => R (.d (.bool (f i j)))
  | _, _ => False
theorem oI_inv {C : Int → Int → Prop} {f : Int → Int → Int} {x y : DV} {R : DV → Prop} (h : oI C f x y R) : ∃ i j, x = .d (.int i) ∧ y = .d (.int j) ∧ C i j ∧ R (.d (.int (f i j))) := by
  cases x with
  | d v => cases v with
    | int i => cases y with
      | d w => cases w with
        | int j => exact ⟨i, j, rfl, rfl, h⟩
        | _ => exact False.elim h
      | _ => exact False.elim h
    | _ => exact False.elim h
  | _ => exact False.elim h
theorem oC_inv {f : Int → Int → Bool} {x y : DV} {R : DV → Prop} (h : oC f x y R) : ∃ i j, x = .d (.int i) ∧ y = .d (.int j) ∧ R (.d (.bool (f i j))) := by
  cases x with
  | d v => cases v with
    | int i => cases y with
      | d w => cases w with
        | int j => exact ⟨i, j, rfl, rfl, h⟩
        | _ => exact False.elim h
      | _ => exact False.elim h
    | _ => exact False.elim h
  | _ => exact False.elim h
theorem o2_I {C : Int → Int → Prop} {f : Int → Int → Int} : Op2 X (rI C fun i j => .int (f i j)) (oI C f) := by
  intro G F δ σ H v u x y R Q hK g hx hy h k
  obtain ⟨i, j, rfl, rfl, h1, h2⟩ := oI_inv h
  cases int_of hx
  cases int_of hy
  exact ⟨i, j, rfl, rfl, h1, k _ h2 _ F H (g.pushD (.int _))⟩
theorem o2_C {f : Int → Int → Bool} : Op2 X (rI0 fun i j => .bl (f i j)) (oC f) := by
  intro G F δ σ H v u x y R Q hK g hx hy h k
  obtain ⟨i, j, rfl, rfl, h2⟩ := oC_inv h
  cases int_of hx
  cases int_of hy
  exact ⟨i, j, rfl, rfl, k _ h2 _ F H (g.pushD (.bl _))⟩
theorem oC_bool {f : Int → Int → Bool} : ∀ x y R, oC f x y R → oC f x y fun z => R z ∧ ∃ k, z = .d (.bool k) := by
  intro x y R h
  obtain ⟨i, j, rfl, rfl, h2⟩ := oC_inv h
  exact ⟨h2, _, rfl⟩
def oAdd : D2 := fun x y R => match x, y with
  | .d (.int i), .d (.int j) => R (.d (.int (i + j)))
  | .d (.str s), .d (.str t) => s.length + t.length ≤ sizeLine ∧ R (.d (.str (s ++ t)))
  | .d (.tuple xs), .d (.tuple ys) => xs.length + ys.length ≤ sizeLine ∧ R (.d (.tuple (xs ++ ys)))
  | x, y => match x.lst, y.lst with
    | some xs, some ys => xs.length + ys.length ≤ sizeLine ∧ R (.own (xs ++ ys))
    | _, _ => False
def rAdd4 (K : PySem.W.Frag) : R2 := fun x y H Q => rI0 (fun i j => .int (i + j)) x y H Q ∨ (∃ i j, x = .str i ∧ y = .str j ∧ i.length + j.length ≤ sizeLine ∧ Q (.str (i ++ j)) H) ∨ rCatA K x y H Q ∨ rCat x y H Q
theorem op_add4 : OpR X (binaryOp .Add) (rAdd4 X.K) := op_add.or (op_add_str.or (op_catA.or op_cat))
theorem o2_add : Op2 X (rAdd4 X.K) oAdd := by
  intro G F δ σ H v u x y R Q hK g hx hy h k
  have lists : ∀ {xs ys : List PyData}, x.lst = some xs → y.lst = some ys → xs.length + ys.length ≤ sizeLine → R (.own (xs ++ ys)) → rAdd4 X.K v u H Q := fun {xs ys} e1 e2 hz hR => by
    obtain ⟨l, vs, rfl, h1, h2⟩ := lst_of hx g.fh e1
    obtain ⟨l', ws, rfl, h3, h4⟩ := lst_of hy g.fh e2
    refine .inr (.inr (.inr ⟨l, l', vs, ws, rfl, rfl, h1, h3, by rw [h2.length, h4.length]; exact hz, fun p hp => ?_⟩))
    exact k _ hR _ _ _ (g.newO hp (h2.append h4))
  unfold oAdd at h
  split at h
  · cases int_of hx
    cases int_of hy
    exact .inl ⟨_, _, rfl, rfl, k _ h _ F H (g.pushD (.int _))⟩
  · rename_i s t
    cases (show At G.K F v (.str s) from hx)
    cases (show At G.K F u (.str t) from hy)
    exact .inr (.inl ⟨_, _, rfl, rfl, h.1, k _ h.2 _ F H (g.pushD (.str _))⟩)
  · rename_i xs ys
    obtain ⟨l, vs, rfl, h1, h2⟩ := tup_of hx g.fh
    obtain ⟨l', ws, rfl, h3, h4⟩ := tup_of hy g.fh
    have hxx : At G.K F (.ref l) (.tuple xs) := hx
    have hyy : At G.K F (.ref l') (.tuple ys) := hy
    rw [hK] at h1 h3
    refine .inr (.inr (.inl ⟨l, l', vs, ws, rfl, rfl, h1, h3, by rw [h2.length, h4.length]; exact h.1, fun e => ?_, fun _ e => ?_, fun _ _ p hp => ?_⟩))
    · have : xs = [] := by
        have q := h2.length
        rw [e] at q
        exact List.length_eq_zero_iff.mp q.symm
      subst this
      exact k _ h.2 _ F H (g.pushD hyy)
    · have : ys = [] := by
        have q := h4.length
        rw [e] at q
        exact List.length_eq_zero_iff.mp q.symm
      subst this
      exact k _ h.2 _ F H (g.pushD (by rw [List.append_nil]; exact hxx))
    · exact k _ h.2 _ _ _ (g.newT hp (h2.append h4))
  · split at h
    · rename_i xs ys e1 e2
      exact lists e1 e2 h.1 h.2
    · exact h.elim
def oMul : D2 := fun x y R => match x, y with
  | .d (.int i), .d (.int j) => CMul i j ∧ R (.d (.int (i * j)))
  | x, .d (.int k) => match x.lst with
    | some xs => -(2 ^ 63) ≤ k ∧ k < 2 ^ 63 ∧ xs.length * k.toNat ≤ sizeLine ∧ R (.own (List.replicate k.toNat xs).flatten)
    | none => False
  | _, _ => False
def rMul2 : R2 := fun x y H Q => rI CMul (fun i j => .int (i * j)) x y H Q ∨ rRep x y H Q
theorem op_mul2 : OpR X (binaryOp .Mult) rMul2 := op_mul.or op_rep
theorem o2_mul : Op2 X rMul2 oMul := by
  intro G F δ σ H v u x y R Q hK g hx hy h k
  unfold oMul at h
  split at h
  · cases int_of hx
    cases int_of hy
    exact .inl ⟨_, _, rfl, rfl, h.1, k _ h.2 _ F H (g.pushD (.int _))⟩
  · rename_i kk _
    split at h
    · rename_i xs e1
      obtain ⟨l, vs, rfl, h1, h2⟩ := lst_of hx g.fh e1
      cases int_of hy
      exact .inr ⟨l, _, vs, rfl, rfl, h1, h.1, h.2.1, by rw [h2.length]; exact h.2.2.1, fun p hp => k _ h.2.2.2 _ _ _ (g.newO hp (h2.rep _))⟩
    · exact h.elim
  · exact h.elim
theorem de_add (ha : DE X W a ma u1) (hb : DE X W b mb u2) : DE X W (.BinOp a .Add b pos) (mBin oAdd ma mb) (u1 + u2) := de_op op_add4 o2_add ha hb
def oSub : D2 := oI (fun _ _ => True) fun i j => i - j
theorem oSub_i {i j : Int} {R : DV → Prop} : (oSub (.d (.int i)) (.d (.int j)) R) = (R (.d (.int (i - j)))) := by simp [oSub, oI]
theorem de_sub (ha : DE X W a ma u1) (hb : DE X W b mb u2) : DE X W (.BinOp a .Sub b pos) (mBin oSub ma mb) (u1 + u2) := by
  show DE X W (.BinOp a .Sub b pos) (mBin (oI (fun _ _ => True) fun i j => i - j) ma mb) (u1 + u2)
  have h : OpR X (binaryOp .Sub) (rI (fun _ _ => True) fun i j => .int (i - j)) := by
    intro pins s σ H x y v u Q I rx ry ⟨i, j, e1, e2, _, q⟩
    exact op_sub pins s σ H x y v u Q I rx ry ⟨i, j, e1, e2, q⟩
  exact de_op h o2_I ha hb
theorem de_mul (ha : DE X W a ma u1) (hb : DE X W b mb u2) : DE X W (.BinOp a .Mult b pos) (mBin oMul ma mb) (u1 + u2) := de_op op_mul2 o2_mul ha hb
theorem de_mod (ha : DE X W a ma u1) (hb : DE X W b mb u2) : DE X W (.BinOp a .Mod b pos) (mBin (oI (fun _ j => 0 < j) fun i j => i % j) ma mb) (u1 + u2) := de_op op_mod o2_I ha hb
theorem de_pow (ha : DE X W a ma u1) (hb : DE X W b mb u2) : DE X W (.BinOp a .Pow b pos) (mBin (oI CPow fun i j => i ^ j.toNat) ma mb) (u1 + u2) := de_op op_pow o2_I ha hb
abbrev oLt : D2 := oC fun i j => decide (i < j)
abbrev oLe : D2 := oC fun i j => decide (i ≤ j)
def oNeg : D1 := fun x R => match x with
  | .d (.int i) => R (.d (.int (-i)))
  | _ => False
def mUn (o : D1) (ma : ME) : ME := fun ex δ R => ma ex δ fun x => o x R
theorem de_neg (ha : DE X W a ma u) : DE X W (.UnaryOp .USub a pos) (mUn oNeg ma) u := ⟨PE.imp (pe_un un_neg ha.pe) fun σ H Q q => by
  obtain ⟨ex, G, F, δ, τ, ts, τ1, ts1, R, n, m, k⟩ := q
  refine ⟨ex, G, F, δ, τ, ts, τ1, ts1, _, n, m, fun x hx v F1 H1 g1 => ?_⟩
  match x, hx, g1 with
  | .d (.int i), hx, g1 =>
    cases int_of g1.top
    exact ⟨i, rfl, k _ hx _ F1 H1 (g1.pop.pushD (.int _))⟩⟩
def oEq (neg : Bool) : D2 := fun x y R => match x.pd, y.pd with
  | some (.str a), some (.str b) => R (.d (.bool (if neg then !PyData.eqv (.str a) (.str b) else PyData.eqv (.str a) (.str b))))
  | some p, some q => SeqAt.shaped p = true ∧ SeqAt.shaped q = true ∧ R (.d (.bool (if neg then !PyData.eqv p q else PyData.eqv p q)))
  | _, _ => False
def rEqA (K : PySem.W.Frag) (neg : Bool) : R2 := fun x y H Q => ∃ d e, Da K H x d ∧ Da K H y e ∧ SeqAt.shaped d = true ∧ SeqAt.shaped e = true ∧ Q (.bl (if neg then !PyData.eqv d e else PyData.eqv d e)) H
theorem shaped_nd {d : PyData} (h : SeqAt.shaped d = true) : d.hasDict = false := PyData.hasDict_of_canLay d (SeqAt.canLay_of_shaped h)
theorem op_eqA (hu : X.A.units + 64 < cLine) : OpR X (compareOp .Eq) (rEqA X.K false) := by
  intro pins s σ H x y v u Q I rx ry ⟨d, e, ⟨F, hF, hd⟩, ⟨F', hF', he⟩, sd, se, q⟩
  obtain ⟨as, r1⟩ := At.reads I hF d x v (shaped_nd sd) hd rx
  obtain ⟨bs, r2⟩ := At.reads I hF' e y u (shaped_nd se) he ry
  exact SeqAt.compareEq_shaped r1 r2 sd se hu ⟨.bl _, H, I, rfl, q⟩
theorem op_neA (hu : X.A.units + 64 < cLine) : OpR X (compareOp .NotEq) (rEqA X.K true) := by
  intro pins s σ H x y v u Q I rx ry ⟨d, e, ⟨F, hF, hd⟩, ⟨F', hF', he⟩, sd, se, q⟩
  obtain ⟨as, r1⟩ := At.reads I hF d x v (shaped_nd sd) hd rx
  obtain ⟨bs, r2⟩ := At.reads I hF' e y u (shaped_nd se) he ry
  exact SeqAt.compareNe_shaped r1 r2 sd se hu ⟨.bl _, H, I, rfl, q⟩
def rEqB (K : PySem.W.Frag) (neg : Bool) : R2 := fun x y H Q => (∃ a b, x = .str a ∧ y = .str b ∧ Q (.bl (if neg then !decide (V.str a = V.str b) else decide (V.str a = V.str b))) H) ∨ rEqA K neg x y H Q
theorem op_eqB (hu : X.A.units + 64 < cLine) : OpR X (compareOp .Eq) (rEqB X.K false) := by
  intro pins s σ H x y v u Q I rx ry h
  rcases h with ⟨a, b, rfl, rfl, q⟩ | h
  · exact op_eq pins s σ H _ _ v u Q I rx ry ⟨rfl, q⟩
  · exact op_eqA hu pins s σ H x y v u Q I rx ry h
theorem op_neB (hu : X.A.units + 64 < cLine) : OpR X (compareOp .NotEq) (rEqB X.K true) := by
  intro pins s σ H x y v u Q I rx ry h
  rcases h with ⟨a, b, rfl, rfl, q⟩ | h
  · exact op_ne pins s σ H _ _ v u Q I rx ry ⟨rfl, q⟩
  · exact op_neA hu pins s σ H x y v u Q I rx ry h
theorem eqv_str (a b : Str) : PyData.eqv (.str a) (.str b) = decide (V.str a = V.str b) := by
  simp only [PyData.eqv]
  by_cases h : a = b
  · subst h; simp
  · simp [h]
theorem str_of {K : PySem.W.Frag} {H : Hp} {v : V} {a : Str} (h : Da K H v (.str a)) : v = .str a := by
  obtain ⟨F, _, h⟩ := h
  cases h
  rfl
theorem o2_eq {neg : Bool} : Op2 X (rEqB X.K neg) (oEq neg) := by
  intro G F δ σ H v u x y R Q hK g hx hy h k
  unfold oEq at h
  split at h
  · rename_i a b e1 e2
    have d1 := str_of (pd_da hx g.fh e1)
    have d2 := str_of (pd_da hy g.fh e2)
    refine .inl ⟨a, b, d1, d2, ?_⟩
    have := k _ h (.bl (if neg then !decide (V.str a = V.str b) else decide (V.str a = V.str b))) F H (by rw [eqv_str]; exact g.pushD (.bl _))
    exact this
  · refine .inr ?_
    rename_i p q _ e1 e2
    have d1 := pd_da hx g.fh e1
    have d2 := pd_da hy g.fh e2
    rw [hK] at d1 d2
    exact ⟨p, q, d1, d2, h.1, h.2.1, k _ h.2.2 _ F H (g.pushD (.bl _))⟩
  · exact h.elim
theorem de_eq (cx : CtxU X) (ha : DE X W a ma u1) (hb : DE X W b mb u2) : DE X W (.Compare a [.Eq] [b] pos) (mBin (oEq false) ma mb) (u1 + u2) := de_cmp (op_eqB cx.u64) o2_eq ha hb (nomark _)
theorem de_lt (ha : DE X W a ma u1) (hb : DE X W b mb u2) : DE X W (.Compare a [.Lt] [b] pos) (mBin oLt ma mb) (u1 + u2) := de_cmp op_lt o2_C ha hb (nomark _)
def oIsN (neg : Bool) : D2 := fun x y R => match y with
  | .d .none => match x with
    | .d .none => R (.d (.bool (!neg)))
    | .d _ => R (.d (.bool neg))
    | .own _ => R (.d (.bool neg))
    | .bor _ => R (.d (.bool neg))
    | _ => False
  | _ => False
theorem non_iff {G : Gm} {F H : Hp} {v : V} {x : DV} (hx : VOk G F H v x) : (x = .d .none → v = .non) ∧ (∀ y, x = .d y → y ≠ .none → v ≠ .non) ∧ (∀ xs, x = .own xs → v ≠ .non) ∧ (∀ xs, x = .bor xs → v ≠ .non) := by
  refine ⟨fun e => ?_, fun y e hy hv => ?_, fun xs e hv => ?_, fun xs e hv => ?_⟩
  · subst e
    cases (show At G.K F v .none from hx)
    rfl
  · subst e
    subst hv
    cases (show At G.K F .non y from hx)
    exact hy rfl
  · subst e
    obtain ⟨l, vs, h, _⟩ := hx
    rw [hv] at h
    cases h
  · subst e
    obtain ⟨l, vs, h, _⟩ := hx
    rw [hv] at h
    cases h
def rIsNA (neg : Bool) : R2 := fun x y H Q => y = .non ∧ Q (.bl (if neg then !decide (x = .non) else decide (x = .non))) H
theorem op_isA : OpR X (compareOp .Is) (rIsNA false) := op_isN
theorem o2_isN {neg : Bool} : Op2 X (rIsNA neg) (oIsN neg) := by
  intro G F δ σ H v u x y R Q hK g hx hy h k
  unfold oIsN at h
  split at h
  · have hu := (non_iff hy).1 rfl
    subst hu
    refine ⟨rfl, ?_⟩
    obtain ⟨n1, n2, n3, n4⟩ := non_iff hx
    split at h
    · rw [n1 rfl]
      have e : (if neg = true then !decide (V.non = V.non) else decide (V.non = V.non)) = !neg := by cases neg <;> rfl
      rw [e]
      exact k _ h _ F H (g.pushD (.bl _))
    · rename_i y hy
      have : decide (v = V.non) = false := decide_eq_false (n2 y rfl fun z => hy z)
      rw [this]
      have e : (if neg = true then !false else false) = neg := by cases neg <;> rfl
      rw [e]
      exact k _ h _ F H (g.pushD (.bl _))
    · have : decide (v = V.non) = false := decide_eq_false (n3 _ rfl)
      rw [this]
      have e : (if neg = true then !false else false) = neg := by cases neg <;> rfl
      rw [e]
      exact k _ h _ F H (g.pushD (.bl _))
    · have : decide (v = V.non) = false := decide_eq_false (n4 _ rfl)
      rw [this]
      have e : (if neg = true then !false else false) = neg := by cases neg <;> rfl
      rw [e]
      exact k _ h _ F H (g.pushD (.bl _))
    · exact h.elim
  · exact h.elim
theorem de_is (ha : DE X W a ma u1) (hb : DE X W b mb u2) : DE X W (.Compare a [.Is] [b] pos) (mBin (oIsN false) ma mb) (u1 + u2) := de_cmp op_isA o2_isN ha hb (nomark _)
def oIxI (x : DV) (i : Int) (R : DV → Prop) : Prop := match x with
  | .d (.str z) => z.length ≤ sizeLine ∧ ∃ ch, atI z.cps.toList i = some ch ∧ R (.d (.str ⟨#[ch]⟩))
  | x => match x.seq with
    | some ds => match atI ds i with
      | some d => R (.d d)
      | none => False
    | none => False
def oIx : D2 := fun x y R => match y with
  | .d (.int i) => oIxI x i R
  | _ => False
theorem atL_at {K : PySem.W.Frag} {F : Hp} {vs : List V} {ds : List PyData} (h : AtL K F vs ds) {i : Int} {d : PyData} (e : atI ds i = some d) : ∃ v, atI vs i = some v ∧ At K F v d := by
  unfold atI at e ⊢
  rw [h.length]
  cases q : ixN ds.length i with
  | none => rw [q] at e; cases e
  | some j =>
    rw [q] at e
    obtain ⟨v, h1, h2⟩ := h.get (i := j) e
    exact ⟨v, h1, h2⟩
theorem o2_ix : Op2 X (rIx X.K) oIx := by
  intro G F δ σ H v u x y R Q hK g hx hy h k
  match y, h, hy with
  | .d (.int i), h, hy =>
    cases int_of hy
    replace h : oIxI x i R := h
    have fin : ∀ {ds : List PyData} {l : Addr} {vs : List V}, (match atI ds i with | some d => R (.d d) | none => False) → v = .ref l → AtL G.K F vs ds → (SqL X.K H l vs ∨ SqT X.K H l vs) → rIx X.K v (.int i) H Q := by
      rintro ds l vs hm rfl ha hs
      split at hm
      · rename_i d ed
        obtain ⟨w, ew, hw⟩ := atL_at ha ed
        rcases hs with hs | hs
        · exact .inl ⟨l, vs, i, w, rfl, rfl, hs, ew, k _ hm _ F H (g.pushD hw)⟩
        · exact .inr (.inl ⟨l, vs, i, w, rfl, rfl, hs, ew, k _ hm _ F H (g.pushD hw)⟩)
      · exact hm.elim
    match x, h, hx with
    | .d (.str z), h, hx =>
      cases (show At G.K F v (.str z) from hx)
      obtain ⟨hz, ch, hc, hR⟩ := h
      exact .inr (.inr ⟨z, i, ch, rfl, rfl, hz, hc, k _ hR _ F H (g.pushD (.str _))⟩)
    | .d (.list xs), h, hx =>
      obtain ⟨l, vs, h1, h2, h3⟩ := lst_of hx g.fh rfl
      exact fin h h1 h3 (.inl (SqL.of h2))
    | .d (.tuple xs), h, hx =>
      obtain ⟨l, vs, h1, h2, h3⟩ := tup_of hx g.fh
      rw [hK] at h2
      exact fin h h1 h3 (.inr h2)
    | .own xs, h, hx =>
      obtain ⟨l, vs, h1, h2, h3⟩ := lst_of hx g.fh rfl
      exact fin h h1 h3 (.inl (SqL.of h2))
    | .bor xs, h, hx =>
      obtain ⟨l, vs, h1, h2, h3⟩ := lst_of hx g.fh rfl
      exact fin h h1 h3 (.inl (SqL.of h2))
theorem de_ix (ha : DE X W a ma u1) (hb : DE X W b mb u2) (hs : PlainIx b := by intro _ _; rfl) : DE X W (.Subscript a b pos) (mBin oIx ma mb) (u1 + u2) :=
  ⟨PE.imp (pe_ix ix_seq ha.pe hb.pe hs) fun σ H Q q => bin_lift o2_ix σ H Q q⟩
end
end DL
namespace DL
open PySem PySem.Spec L2
section
variable {u u1 u2 u3 : Nat} {X : Cx} {W : WC} {a b c e : Expr} {es : List Expr} {pos : Pos} {ma mb me : ME} {mas : MA} {k : Nat}
abbrev MO := XD → Env → (Option Int → Prop) → Prop
def liftO (K : PySem.W.Frag) (mg : Str → Option Value) (W : WC) (u : Nat) (m : MO) : TO := fun σ H Q => ∃ (ex : XD) (G : Gm) (F : Hp) (δ τ : Env) (ts : L2.St) (τ1 : Env) (ts1 : L2.St) (R : Option Int → Prop), Now K mg W u ex G F δ σ τ ts τ1 ts1 H ∧ m ex δ R ∧
  ∀ r, R r → ∀ F' H', Good (G.up u) F' (δ ++ τ ++ τ1) (σ ++ ts ++ ts1) H' → Q r H'
structure DO' (X : Cx) (W : WC) (e : Option Expr) (m : MO) (u : Nat) : Prop where
  po : PO X e (liftO X.K X.mg W u m)
theorem PO.imp {X : Cx} {e : Option Expr} {t t' : TO} (h : PO X e t) (i : ∀ σ H Q, t' σ H Q → t σ H Q) : PO X e t' := ⟨fun pins s σ H Q I q => h.run pins s σ H Q I (i _ _ _ q)⟩
def mPN : MO := fun _ _ R => R none
def mPS (m : ME) : MO := fun ex δ R => m ex δ fun x => match x with
  | .d (.int i) => R (some i)
  | _ => False
theorem do_none : DO' X W none mPN 0 := ⟨PO.imp po_none fun σ H Q q => by
  obtain ⟨ex, G, F, δ, τ, ts, τ1, ts1, R, n, m, k⟩ := q
  exact k _ m F H (n.good.later 0)⟩
theorem do_some (h : DE X W e me u) : DO' X W (some e) (mPS me) u := ⟨PO.imp (po_some h.pe) fun σ H Q q => by
  obtain ⟨ex, G, F, δ, τ, ts, τ1, ts1, R, n, m, k⟩ := q
  refine ⟨ex, G, F, δ, τ, ts, τ1, ts1, _, n, m, fun x hx v F1 H1 g1 => ?_⟩
  match x, hx, g1 with
  | .d (.int i), hx, g1 =>
    cases int_of g1.top
    exact ⟨i, rfl, k _ hx F1 H1 g1.pop⟩⟩
def cutD (xs : List PyData) (lo hi : Option Int) : List PyData := (xs.drop (HT.sIx xs.length 0 lo)).take (HT.sIx xs.length xs.length hi - HT.sIx xs.length 0 lo)
theorem atL_cut {K : PySem.W.Frag} {F : Hp} {vs : List V} {ds : List PyData} (h : AtL K F vs ds) (lo hi : Option Int) : AtL K F (cutV vs lo hi) (cutD ds lo hi) := by
  unfold cutV cutD
  rw [h.length]
  exact (h.drop _).take _
def oSl (x : DV) (lo hi : Option Int) (R : DV → Prop) : Prop := match x with
  | .d (.str z) => z.length ≤ sizeLine ∧ R (.d (.str (cutS z lo hi)))
  | .d (.tuple ds) => R (.d (.tuple (cutD ds lo hi)))
  | .scr ns => R (.own (cutD (ns.map .int) lo hi))
  | x => match x.lst with
    | some ds => R (.own (cutD ds lo hi))
    | none => False
def mSl (me : ME) (ml mh : MO) : ME := fun ex δ R => me ex δ fun x => ml ex δ fun lo => mh ex δ fun hi => oSl x lo hi R
def rSl3 (K : PySem.W.Frag) : V → Option Int → Option Int → Hp → VK → Prop := fun x lo hi H Q => rSlL K x lo hi H Q ∨ rSlA K x lo hi H Q ∨ rSlS x lo hi H Q
theorem sl3 : SlR X (rSl3 X.K) := SlR.or sl_list (SlR.or sl_tupA sl_str)
theorem cutD_all {ds : List PyData} {lo hi : Option Int} (h : HT.sIx ds.length 0 lo = 0 ∧ HT.sIx ds.length ds.length hi = ds.length) : cutD ds lo hi = ds := by
  unfold cutD
  rw [h.1, h.2]
  simp
theorem de_slice {lo hi : Option Expr} {p2 : Pos} {ml mh : MO} (he : DE X W e me u1) (hl : DO' X W lo ml u2) (hh : DO' X W hi mh u3) : DE X W (.Subscript e (.Slice lo hi none p2) pos) (mSl me ml mh) (u1 + (u2 + u3)) :=
  ⟨PE.imp (pe_slice sl3 he.pe hl.po hh.po) fun σ H Q q => by
    obtain ⟨ex, G, F, δ, τ, ts, τ1, ts1, R, n, m, k⟩ := q
    refine ⟨ex, G, F, δ, τ, ts, τ1, ts1, _, n.fst, m, fun x hx v F1 H1 g1 => ?_⟩
    refine ⟨ex, G.up u1, F1, δ, τ, ts, _, _, _, (n.after g1).fst, hx, fun l hlo F2 H2 g2 => ?_⟩
    refine ⟨ex, (G.up u1).up u2, F2, δ, τ, ts, _, _, _, (n.after g1).here g2, hlo, fun h hhi F3 H3 g3 => ?_⟩
    rw [up_up, up_up] at g3
    have g : Good (G.up (u1 + (u2 + u3))) F3 (δ ++ τ ++ τ1 ++ [some x]) (σ ++ ts ++ ts1 ++ [some v]) H3 := by simpa only [List.append_assoc] using g3
    have hxv := g.top
    match x, hhi, hxv, g with
    | .d (.str z), hhi, hxv, g =>
      cases (show At G.K F3 v (.str z) from hxv)
      exact .inr (.inr ⟨z, rfl, hhi.1, k _ hhi.2 _ F3 H3 (g.pop.pushD (.str _))⟩)
    | .d (.tuple ds), hhi, hxv, g =>
      obtain ⟨a, vs, rfl, h2, h3⟩ := tup_of hxv g.fh
      have hxx : At G.K F3 (.ref a) (.tuple ds) := hxv
      rw [n.k] at h2
      refine .inr (.inl ⟨a, vs, rfl, h2, fun hw => ?_, fun hw p hp => k _ hhi _ _ _ (g.pop.newT hp (atL_cut h3 l h))⟩)
      rw [h3.length] at hw
      have hhi' : R (.d (.tuple (cutD ds l h))) := hhi
      rw [cutD_all hw] at hhi'
      exact k _ hhi' _ F3 H3 (g.pop.pushD hxx)
    | .scr ns, hhi, hxv, g =>
      obtain ⟨a, vs, rfl, h2, h3⟩ := rd_of hxv g.fh rfl
      rw [n.k] at h2
      exact .inl ⟨a, vs, rfl, h2, fun p hp => k _ hhi _ _ _ (g.pop.newO hp (atL_cut h3 l h))⟩
    | .d (.list ds), hhi, hxv, g =>
      obtain ⟨a, vs, rfl, h2, h3⟩ := lst_of hxv g.fh rfl
      exact .inl ⟨a, vs, rfl, SqL.of h2, fun p hp => k _ hhi _ _ _ (g.pop.newO hp (atL_cut h3 l h))⟩
    | .own ds, hhi, hxv, g =>
      obtain ⟨a, vs, rfl, h2, h3⟩ := lst_of hxv g.fh rfl
      exact .inl ⟨a, vs, rfl, SqL.of h2, fun p hp => k _ hhi _ _ _ (g.pop.newO hp (atL_cut h3 l h))⟩
    | .bor ds, hhi, hxv, g =>
      obtain ⟨a, vs, rfl, h2, h3⟩ := lst_of hxv g.fh rfl
      exact .inl ⟨a, vs, rfl, SqL.of h2, fun p hp => k _ hhi _ _ _ (g.pop.newO hp (atL_cut h3 l h))⟩⟩
section
variable {prog : Program} {w : World} {A : Around} {E : Value → Shared → Prop} {s : Shared}
theorem back_applied {sl : Addr} {n : Nat} {Q : Int × Int × Nat → Shared → Prop} (hs : ∃ os, s.heap.get? sl = some os ∧ os.cls = .type "slice" ∧ ∃ t, os.data = .fields #[.none, .none, .int (-1) t])
    (h : Q ((n : Int) - 1, -1, n) s) : wpAny (model prog w) A (Builtin.Slice.sliceApplied (.ref sl) (pure (n : Int))) Q E s := by
  obtain ⟨os, hos, hcs, t, hds⟩ := hs
  unfold Builtin.Slice.sliceApplied Builtin.Slice.sliceFields
  refine wpAny_bind (wpAny_bind (wpAny_field hos hds (x := .none) rfl (wpAny_bind (wpAny_field hos hds (x := .none) rfl (wpAny_bind (wpAny_field hos hds (x := .int (-1) t) rfl (wpAny_pure ?_)))))))
  refine wpAny_bind (PyProof.Rows.slicePart_int ?_)
  show wpAny _ _ (if ((-1 : Int) == 0) = true then _ else _) _ _ s
  rw [if_neg (by decide)]
  refine wpAny_bind (PyProof.Rows.slicePart_none (wpAny_bind (PyProof.Rows.slicePart_none (wpAny_bind (wpAny_pure ?_)))))
  have e1 : Builtin.Slice.sliceAdjust none none (-1) (n : Int) = ((n : Int) - 1, -1) := by
    unfold Builtin.Slice.sliceAdjust
    simp
  have e2 : Builtin.Slice.slicePlaces ((n : Int) - 1) (-1) (-1) = n := by
    unfold Builtin.Slice.slicePlaces
    simp
    omega
  show wpAny _ _ (match Builtin.Slice.sliceAdjust none none (-1) (n : Int) with | (lo, hi) => pure (lo, (-1 : Int), Builtin.Slice.slicePlaces lo hi (-1))) _ _ s
  rw [e1]
  show wpAny _ _ (pure ((n : Int) - 1, (-1 : Int), Builtin.Slice.slicePlaces ((n : Int) - 1) (-1) (-1))) _ _ s
  rw [e2]
  exact wpAny_pure h
theorem back_pick (xs : List Value) : ((List.range xs.length).filterMap fun (m : Nat) => xs.toArray[(((xs.length : Nat) : Int) - 1 + (m : Int) * (-1)).toNat]?) = xs.reverse := by
  have e : (List.range xs.length).map (fun m => xs.length - 1 - m) = (List.range xs.length).reverse := by
    apply List.ext_getElem?
    intro i
    by_cases hi : i < xs.length
    · rw [List.getElem?_map, List.getElem?_range hi, List.getElem?_reverse (by simpa using hi), List.length_range, List.getElem?_range (by omega)]
      rfl
    · rw [List.getElem?_eq_none (by simpa using hi), List.getElem?_eq_none (by simpa using hi)]
  have e2 : ((List.range xs.length).filterMap fun (m : Nat) => xs.toArray[(((xs.length : Nat) : Int) - 1 + (m : Int) * (-1)).toNat]?) = ((List.range xs.length).map (fun m => xs.length - 1 - m)).filterMap fun j => xs[j]? := by
    rw [List.filterMap_map]
    have cong : ∀ (l : List Nat) (f g : Nat → Option Value), (∀ m ∈ l, f m = g m) → l.filterMap f = l.filterMap g := by
      intro l f g h
      induction l with
      | nil => rfl
      | cons a l ih => rw [List.filterMap_cons, List.filterMap_cons, h a List.mem_cons_self, ih fun m hm => h m (List.mem_cons_of_mem _ hm)]
    refine cong _ _ _ fun m hm => ?_
    have hm' : m < xs.length := List.mem_range.mp hm
    have : (((xs.length : Nat) : Int) - 1 + (m : Int) * (-1)).toNat = xs.length - 1 - m := by omega
    rw [this]
    simp
  rw [e2, e, List.filterMap_reverse]
  congr 1
  apply List.ext_getElem?
  intro i
  have all : ∀ l : List Value, (List.range l.length).filterMap (fun j => l[j]?) = l := by
    intro l
    induction l with
    | nil => rfl
    | cons a l ih =>
      rw [List.length_cons, List.range_succ_eq_map, List.filterMap_cons]
      simp only [List.getElem?_cons_zero, List.filterMap_map]
      congr 1
  rw [all]
theorem getItem_tuple_back {t sl : Addr} {its : List Value} {Q : Value → Shared → Prop} (ht : PyProof.Rows.IsTup s.heap t its.toArray) (hs : ∃ os, s.heap.get? sl = some os ∧ os.cls = .type "slice" ∧ ∃ tk, os.data = .fields #[.none, .none, .int (-1) tk])
    (h : Q (.ref s.heap.objs.size) { s with heap := s.heap.push { cls := .type "tuple", data := .seq its.reverse.toArray } }) (hsz : its.length ≤ sizeLine) : wpAny (model prog w) A (getItem (.ref t) (.ref sl)) Q E s := by
  obtain ⟨os, hos, hcs, hrest⟩ := id hs
  have hT : s.TypeIs (.ref sl) "slice" := ⟨os, hos, hcs⟩
  have room : sizeOk (.seq its.reverse.toArray) := by
    show its.reverse.toArray.size ≤ sizeLine
    rw [List.size_toArray, List.length_reverse]
    exact hsz
  unfold getItem
  try with_reducible refine wpAny_holding ?_
  first | refine wpAny_bind (wpAny_pure ?_) | skip
  refine wpAny_bind (wpAny_sequenceKey ht.typeIs (by decide) ?_)
  refine wpAny_bind (wpAny_callSpecial?_slot (name := Str.ofString "__getitem__") ht.typeIs PyProof.Rows.slot_tuple_getitem (wpAny_call_entry PyProof.Rows.slot_tuple_getitem ht.typeIs PyProof.Rows.entry_tuple_getitem ?_ (PyProof.Rows.args_tuple_getitem _ _)))
  show wpAny _ _ (Builtin.Tuple.tupleItemsOf (.ref t) >>= _) _ _ s
  refine wpAny_bind (PyProof.Rows.tupleItemsOf_ ht ?_)
  refine wpAny_bind (wpAny_typeOf hT ?_)
  rw [if_pos (by decide)]
  rw [show its.toArray.size = its.length from List.size_toArray]
  refine wpAny_bind (back_applied hs ?_)
  have hne : ¬ ((((its.length : Nat) : Int) - 1 == 0 && (-1 : Int) == 1 && its.length == its.length) = true) := by simp
  show wpAny _ _ (if ((((its.length : Nat) : Int) - 1 == 0 && (-1 : Int) == 1 && its.length == its.length) = true) then _ else _) _ _ s
  rw [if_neg hne, back_pick]
  first
    | exact wpAny_bind (m := Builtin.Tuple.tupleExact _) (wpAny_newObj_type (wpAny_pure ⟨_, rfl, wpAny_pure h⟩) room)
    | exact wpAny_bind (m := Builtin.Tuple.tupleExact _) (wpAny_newObj_type (wpAny_bind (wpAny_pure (wpAny_pure ⟨_, rfl, wpAny_pure h⟩))) room)
    | exact wpAny_bind (wpAny_bind (m := Builtin.Tuple.tupleExact _) (wpAny_newObj_type (wpAny_pure (wpAny_pure ⟨_, rfl, wpAny_pure h⟩)) room))
    | exact wpAny_bind (wpAny_bind (m := Builtin.Tuple.tupleExact _) (wpAny_newObj_type (wpAny_pure ⟨_, rfl, wpAny_pure h⟩) room))
end
def tBack (K : PySem.W.Frag) (te : TE) : TE := fun σ H Q => te σ H fun x H1 => ∃ a xs, x = .ref a ∧ ((SqL K H1 a xs ∧ ∀ p, H1 p = none → Q (.ref p) (upd H1 p (.lst xs.reverse))) ∨ (SqT K H1 a xs ∧ ∀ p, H1 p = none → Q (.ref p) (upd H1 p (.tup xs.reverse))))
theorem pe_back {te : TE} {n1 : Nat} {p1 p2 p3 : Pos} (he : PE X e te) : PE X (.Subscript e (.Slice none none (some (.UnaryOp .USub (.Constant (.int 1) n1 p1) p2)) p3) pos) (tBack X.K te) := by
  refine ⟨fun pins s σ H Q I h => ?_⟩
  refine PyProof.Rows.Subscript_ (thn (he.run pins s σ H _ I h) fun v s1 ⟨x, H1, I1, r1, a, xs, ex, q⟩ => ?_)
  subst ex
  cases r1
  have one : PO X (some (.UnaryOp .USub (.Constant (.int 1) n1 p1) p2)) (tPart (tUn (rU fun i => .int (-i)) (tC (.int 1)))) := po_some (pe_un un_neg pe_int)
  refine wpAny_Slice (thn (po_none.run pins s1 σ H1 (fun o H' => o = none ∧ H' = H1) I1 ⟨rfl, rfl⟩) fun vl s2 ⟨l, H2, I2, pl, el, e2⟩ => ?_)
  subst el
  subst e2
  refine thn (po_none.run pins s2 σ H2 (fun o H' => o = none ∧ H' = H2) I2 ⟨rfl, rfl⟩) fun vu s3 ⟨u, H3, I3, pu, eu, e3⟩ => ?_
  subst eu
  subst e3
  refine thn (one.run pins s3 σ H3 (fun o H' => o = some (-1) ∧ H' = H3) I3 ⟨1, rfl, -1, rfl, rfl, rfl⟩) fun vs s4 ⟨o, H4, I4, ps, eo, e4⟩ => ?_
  subst eo
  subst e4
  cases pl
  cases pu
  have I5 : Inv X pins σ H4 { s4 with heap := s4.heap.push { cls := .type "slice", data := .fields #[.none, .none, vs] } } := I4.kept (t' := s4.toks) fun b ob z => Heap.get?_push_of_some _ z
  show wpAny (model X.prog X.w) X.A (PyProof.Rows.subscriptTail e (.Slice none none (some (.UnaryOp .USub (.Constant (.int 1) n1 p1) p2)) p3) (.ref a) (.ref s4.heap.objs.size)) (EP X pins σ Q) X.xe { s4 with heap := s4.heap.push { cls := .type "slice", data := .fields #[.none, .none, vs] } }
  rcases q with ⟨hx, q⟩ | ⟨hx, q⟩
  · obtain ⟨its, r, ht, hz⟩ := I5.list hx
    have hlen := r.length
    refine PyProof.Rows.tail_any (ops := [.ref a, .ref s4.heap.objs.size]) ht.isList.typeIs PySem.slot_list_getitem.lookup ?_ (by with_unfolding_all rfl)
    refine wpAny_getItem_list_slice ht.isList (Heap.IsSliceOf.new _ .none .none vs) .none .none ps (by decide) ?_ (by rw [List.size_toArray]; omega)
    rw [PySem.W.krv_pick]
    exact ⟨.ref _, _, I5.laid (t' := s4.toks) (o := .lst xs.reverse) (fun b ob z => Heap.get?_push_of_some _ z) (Nat.le_refl _) ⟨by rw [List.length_reverse]; exact hz, _, 0, r.reverse, Heap.get?_push_size _ rfl⟩, rfl, q _ (I5.hok.fresh (Nat.le_refl _))⟩
  · obtain ⟨its, r, ht, hz⟩ := I5.tuple hx
    have hlen := r.length
    obtain ⟨tk, rfl⟩ : ∃ tk, vs = .int (-1) tk := by
      cases ps
      exact ⟨_, rfl⟩
    refine PyProof.Rows.tail_any (ops := [.ref a, .ref s4.heap.objs.size]) ht.typeIs PyProof.Rows.slot_tuple_getitem.lookup ?_ (by with_unfolding_all rfl)
    refine getItem_tuple_back ht ⟨_, Heap.get?_push_size _ rfl, rfl, tk, rfl⟩ ?_ (by omega)
    exact ⟨.ref _, _, I5.laid (t' := s4.toks) (o := .tup xs.reverse) (fun b ob z => Heap.get?_push_of_some _ z) (Nat.le_refl _) ⟨by rw [List.length_reverse]; exact hz, _, r.reverse, PyProof.Rows.IsTup.new _ _⟩, rfl, q _ (I5.hok.fresh (Nat.le_refl _))⟩
def oBack : D1 := fun x R => match x with
  | .d (.tuple ds) => R (.d (.tuple ds.reverse))
  | x => match x.lst with
    | some ds => R (.own ds.reverse)
    | none => False
theorem de_back {n1 : Nat} {p1 p2 p3 : Pos} (he : DE X W e me u) : DE X W (.Subscript e (.Slice none none (some (.UnaryOp .USub (.Constant (.int 1) n1 p1) p2)) p3) pos) (mUn oBack me) u :=
  ⟨PE.imp (pe_back he.pe) fun σ H Q q => by
    obtain ⟨ex, G, F, δ, τ, ts, τ1, ts1, R, n, m, k⟩ := q
    refine ⟨ex, G, F, δ, τ, ts, τ1, ts1, _, n, m, fun x hx v F1 H1 g => ?_⟩
    have hxv := g.top
    match x, hx, hxv, g with
    | .d (.tuple ds), hx, hxv, g =>
      obtain ⟨a, vs, rfl, h2, h3⟩ := tup_of hxv g.fh
      rw [n.k] at h2
      exact ⟨a, vs, rfl, .inr ⟨h2, fun p hp => k _ hx _ _ _ (g.pop.newT hp h3.reverse)⟩⟩
    | .d (.list ds), hx, hxv, g =>
      obtain ⟨a, vs, rfl, h2, h3⟩ := lst_of hxv g.fh rfl
      exact ⟨a, vs, rfl, .inl ⟨SqL.of h2, fun p hp => k _ hx _ _ _ (g.pop.newO hp h3.reverse)⟩⟩
    | .own ds, hx, hxv, g =>
      obtain ⟨a, vs, rfl, h2, h3⟩ := lst_of hxv g.fh rfl
      exact ⟨a, vs, rfl, .inl ⟨SqL.of h2, fun p hp => k _ hx _ _ _ (g.pop.newO hp h3.reverse)⟩⟩
    | .bor ds, hx, hxv, g =>
      obtain ⟨a, vs, rfl, h2, h3⟩ := lst_of hxv g.fh rfl
      exact ⟨a, vs, rfl, .inl ⟨SqL.of h2, fun p hp => k _ hx _ _ _ (g.pop.newO hp h3.reverse)⟩⟩⟩
end
end DL
namespace DL
open PySem PySem.Spec L2
section
variable {u u1 u2 u3 : Nat} {X : Cx} {W : WC} {a b c e : Expr} {es : List Expr} {pos p : Pos} {ma mb me : ME} {mas : MA} {k : Nat}
def o1 (o : D1) : DN := fun xs R => match xs with
  | [x] => o x R
  | _ => False
theorem on_1 {r : List V → Hp → VK → Prop} {o : D1} (h : ∀ (G : Gm) (F : Hp) (δ : Env) (σ : L2.St) (H : Hp) (v : V) (x : DV) (R : DV → Prop) (Q : VK), G.K = X.K → Good G F δ σ H → VOk G F H v x → o x R →
    (∀ z, R z → ∀ w F' H', Good G F' (δ ++ [some z]) (σ ++ [some w]) H' → Q w H') → r [v] H Q) : OpN X r (o1 o) := by
  intro G F δ σ H vs xs R Q hK hl g ho k
  match xs, ho, hl, g with
  | [x], ho, hl, g =>
    obtain ⟨v, rfl, hv, g'⟩ := one_of hl g
    exact h G F δ σ H v x R Q hK g' hv ho k
theorem on_2 {r : List V → Hp → VK → Prop} {o : D2} (h : ∀ (G : Gm) (F : Hp) (δ : Env) (σ : L2.St) (H : Hp) (v u : V) (x y : DV) (R : DV → Prop) (Q : VK), G.K = X.K → Good G F δ σ H → VOk G F H v x → VOk G F H u y → o x y R →
    (∀ z, R z → ∀ w F' H', Good G F' (δ ++ [some z]) (σ ++ [some w]) H' → Q w H') → r [v, u] H Q) : OpN X r (fun xs R => match xs with | [x, y] => o x y R | _ => False) := by
  intro G F δ σ H vs xs R Q hK hl g ho k
  match xs, ho, hl, g with
  | [x, y], ho, hl, g =>
    obtain ⟨v, u, rfl, hv, hu, g'⟩ := two_of hl g
    exact h G F δ σ H v u x y R Q hK g' hv hu ho k
def o2 (o : D2) : DN := fun xs R => match xs with
  | [x, y] => o x y R
  | _ => False
def oLen : D1 := fun x R => match x with
  | .d (.str z) => z.length ≤ sizeLine ∧ R (.d (.int z.length))
  | .scr ns => R (.d (.int ns.length))
  | x => match x.seq with
    | some ds => R (.d (.int ds.length))
    | none => False
def rLen (K : PySem.W.Frag) : List V → Hp → VK → Prop := fun xs H Q => (∃ p ys, xs = [.ref p] ∧ (SqL K H p ys ∨ SqT K H p ys) ∧ Q (.int ys.length) H) ∨ ∃ z, xs = [.str z] ∧ z.length ≤ sizeLine ∧ Q (.int z.length) H
theorem cr_len : CallR X (.builtin "len") (rLen X.K) := CallR.or call_len_seq call_len_str
theorem on_len : OpN X (rLen X.K) (o1 oLen) := on_1 fun G F δ σ H v x R Q hK g hx h k => by
  match x, h, hx with
  | .d (.str z), h, hx =>
    cases (show At G.K F v (.str z) from hx)
    exact .inr ⟨z, rfl, h.1, k _ h.2 _ F H (g.pushD (.int _))⟩
  | .scr ns, h, hx =>
    obtain ⟨l, vs, rfl, h1, h2⟩ := rd_of hx g.fh rfl
    rw [hK] at h1
    refine .inl ⟨l, vs, rfl, .inl h1, ?_⟩
    rw [h2.length, List.length_map]
    exact k _ h _ F H (g.pushD (.int _))
  | .d (.list ds), h, hx =>
    obtain ⟨l, vs, rfl, h1, h2⟩ := lst_of hx g.fh rfl
    refine .inl ⟨l, vs, rfl, .inl (SqL.of h1), ?_⟩
    rw [h2.length]
    exact k _ h _ F H (g.pushD (.int _))
  | .d (.tuple ds), h, hx =>
    obtain ⟨l, vs, rfl, h1, h2⟩ := tup_of hx g.fh
    rw [hK] at h1
    refine .inl ⟨l, vs, rfl, .inr h1, ?_⟩
    rw [h2.length]
    exact k _ h _ F H (g.pushD (.int _))
  | .own ds, h, hx =>
    obtain ⟨l, vs, rfl, h1, h2⟩ := lst_of hx g.fh rfl
    refine .inl ⟨l, vs, rfl, .inl (SqL.of h1), ?_⟩
    rw [h2.length]
    exact k _ h _ F H (g.pushD (.int _))
  | .bor ds, h, hx =>
    obtain ⟨l, vs, rfl, h1, h2⟩ := lst_of hx g.fh rfl
    refine .inl ⟨l, vs, rfl, .inl (SqL.of h1), ?_⟩
    rw [h2.length]
    exact k _ h _ F H (g.pushD (.int _))
theorem de_len (hg : Gl X "len") (hm : X.mg "len" = none) (ha : DA X W [e] mas u) (he : starEach [e] X.env = (false, eval e X.env) :: starEach [] X.env := by rfl) (hpl : (backTo pos (starEach [] X.env)).any (·.1) = false := by rfl) :
    DE X W (.Call (.Name "len" p) [e] [] pos) (mCB (o1 oLen) mas) u := de_callB cr_len on_len hg hm PySem.boot_len ha (by decide) (by decide) he hpl
def oAbs : D1 := fun x R => match x with
  | .d (.int i) => R (.d (.int (if i < 0 then -i else i)))
  | _ => False
theorem on_abs : OpN X (fun xs H Q => ∃ i, xs = [.int i] ∧ Q (.int (if i < 0 then -i else i)) H) (o1 oAbs) := on_1 fun G F δ σ H v x R Q hK g hx h k => by
  match x, h, hx with
  | .d (.int i), h, hx =>
    cases int_of hx
    exact ⟨i, rfl, k _ h _ F H (g.pushD (.int _))⟩
theorem de_abs (hg : Gl X "abs") (hm : X.mg "abs" = none) (ha : DA X W [e] mas u) (he : starEach [e] X.env = (false, eval e X.env) :: starEach [] X.env := by rfl) (hpl : (backTo pos (starEach [] X.env)).any (·.1) = false := by rfl) :
    DE X W (.Call (.Name "abs" p) [e] [] pos) (mCB (o1 oAbs) mas) u := de_callB call_abs on_abs hg hm (by decide +kernel) ha (by decide) (by decide) he hpl
def oMax2 : D2 := fun x y R => match x, y with
  | .d (.int i), .d (.int j) => R (.d (.int (if j > i then j else i)))
  | _, _ => False
def oMin2 : D2 := fun x y R => match x, y with
  | .d (.int i), .d (.int j) => R (.d (.int (if j < i then j else i)))
  | _, _ => False
theorem oMax2_inv {x y : DV} {R : DV → Prop} (h : oMax2 x y R) : ∃ i j, x = .d (.int i) ∧ y = .d (.int j) ∧ R (.d (.int (if j > i then j else i))) := by
  cases x with
  | d v => cases v with
    | int i => cases y with
      | d w => cases w with
        | int j => exact ⟨i, j, rfl, rfl, h⟩
        | _ => exact False.elim h
      | _ => exact False.elim h
    | _ => exact False.elim h
  | _ => exact False.elim h
theorem oMin2_inv {x y : DV} {R : DV → Prop} (h : oMin2 x y R) : ∃ i j, x = .d (.int i) ∧ y = .d (.int j) ∧ R (.d (.int (if j < i then j else i))) := by
  cases x with
  | d v => cases v with
    | int i => cases y with
      | d w => cases w with
        | int j => exact ⟨i, j, rfl, rfl, h⟩
        | _ => exact False.elim h
      | _ => exact False.elim h
    | _ => exact False.elim h
  | _ => exact False.elim h
theorem on_max2 : OpN X (fun xs H Q => ∃ i j, xs = [.int i, .int j] ∧ Q (.int (if j > i then j else i)) H) (o2 oMax2) := on_2 fun G F δ σ H v u x y R Q hK g hx hy h k => by
  obtain ⟨i, j, rfl, rfl, h⟩ := oMax2_inv h
  cases int_of hx
  cases int_of hy
  exact ⟨i, j, rfl, k _ h _ F H (g.pushD (.int _))⟩
theorem on_min2 : OpN X (fun xs H Q => ∃ i j, xs = [.int i, .int j] ∧ Q (.int (if j < i then j else i)) H) (o2 oMin2) := on_2 fun G F δ σ H v u x y R Q hK g hx hy h k => by
  obtain ⟨i, j, rfl, rfl, h⟩ := oMin2_inv h
  cases int_of hx
  cases int_of hy
  exact ⟨i, j, rfl, k _ h _ F H (g.pushD (.int _))⟩
theorem de_max2 (hc : X.calm = true) (hg : Gl X "max") (hm : X.mg "max" = none) (ha : DA X W [a, b] mas u) (he : starEach [a, b] X.env = (false, eval a X.env) :: starEach [b] X.env := by rfl) (hpl : (backTo pos (starEach [b] X.env)).any (·.1) = false := by rfl) :
    DE X W (.Call (.Name "max" p) [a, b] [] pos) (mCB (o2 oMax2) mas) u := de_callB (call_max2 hc) on_max2 hg hm (by decide +kernel) ha (by decide) (by decide) he hpl
theorem de_min2 (hc : X.calm = true) (hg : Gl X "min") (hm : X.mg "min" = none) (ha : DA X W [a, b] mas u) (he : starEach [a, b] X.env = (false, eval a X.env) :: starEach [b] X.env := by rfl) (hpl : (backTo pos (starEach [b] X.env)).any (·.1) = false := by rfl) :
    DE X W (.Call (.Name "min" p) [a, b] [] pos) (mCB (o2 oMin2) mas) u := de_callB (call_min2 hc) on_min2 hg hm (by decide +kernel) ha (by decide) (by decide) he hpl
def oInt : D1 := fun x R => match x with
  | .d (.int i) => R (.d (.int i))
  | .d (.bool b) => R (.d (.int (if b then 1 else 0)))
  | _ => False
theorem on_int : OpN X (fun xs H Q => (∃ i, xs = [.int i] ∧ Q (.int i) H) ∨ ∃ k, xs = [.bl k] ∧ Q (.int (if k then 1 else 0)) H) (o1 oInt) := on_1 fun G F δ σ H v x R Q hK g hx h k => by
  match x, h, hx with
  | .d (.int i), h, hx =>
    cases int_of hx
    exact .inl ⟨i, rfl, k _ h _ F H (g.pushD (.int _))⟩
  | .d (.bool b), h, hx =>
    cases (show At G.K F v (.bool b) from hx)
    exact .inr ⟨b, rfl, k _ h _ F H (g.pushD (.int _))⟩
theorem de_intC (hg : Gl X "int") (hm : X.mg "int" = none) (ha : DA X W [e] mas u) (he : starEach [e] X.env = (false, eval e X.env) :: starEach [] X.env := by rfl) (hpl : (backTo pos (starEach [] X.env)).any (·.1) = false := by rfl) :
    DE X W (.Call (.Name "int" p) [e] [] pos) (mCB (o1 oInt) mas) u := de_callTy call_int1 on_int hg hm (by decide +kernel) ha (by decide) (by decide) he hpl
def oTuple : D1 := fun x R => match x with
  | .d (.tuple ds) => R (.d (.tuple ds))
  | x => match x.lst with
    | some ds => R (.d (.tuple ds))
    | none => False
theorem on_tuple : OpN X (fun xs H Q => ∃ p ys, xs = [.ref p] ∧ ((SqL X.K H p ys ∧ ∀ l, H l = none → Q (.ref l) (upd H l (.tup ys))) ∨ (SqT X.K H p ys ∧ Q (.ref p) H))) (o1 oTuple) := on_1 fun G F δ σ H v x R Q hK g hx h k => by
  match x, h, hx with
  | .d (.tuple ds), h, hx =>
    have hxx : At G.K F v (.tuple ds) := hx
    obtain ⟨l, vs, rfl, h1, h2⟩ := tup_of hx g.fh
    rw [hK] at h1
    exact ⟨l, vs, rfl, .inr ⟨h1, k _ h _ F H (g.pushD hxx)⟩⟩
  | .d (.list ds), h, hx =>
    obtain ⟨l, vs, rfl, h1, h2⟩ := lst_of hx g.fh rfl
    exact ⟨l, vs, rfl, .inl ⟨SqL.of h1, fun q hq => k _ h _ _ _ (g.newT hq h2)⟩⟩
  | .own ds, h, hx =>
    obtain ⟨l, vs, rfl, h1, h2⟩ := lst_of hx g.fh rfl
    exact ⟨l, vs, rfl, .inl ⟨SqL.of h1, fun q hq => k _ h _ _ _ (g.newT hq h2)⟩⟩
  | .bor ds, h, hx =>
    obtain ⟨l, vs, rfl, h1, h2⟩ := lst_of hx g.fh rfl
    exact ⟨l, vs, rfl, .inl ⟨SqL.of h1, fun q hq => k _ h _ _ _ (g.newT hq h2)⟩⟩
theorem de_tupleC (hg : Gl X "tuple") (hm : X.mg "tuple" = none) (ha : DA X W [e] mas u) (he : starEach [e] X.env = (false, eval e X.env) :: starEach [] X.env := by rfl) (hpl : (backTo pos (starEach [] X.env)).any (·.1) = false := by rfl) :
    DE X W (.Call (.Name "tuple" p) [e] [] pos) (mCB (o1 oTuple) mas) u := de_callTy call_tuple_of on_tuple hg hm (by decide +kernel) ha (by decide) (by decide) he hpl
def intsOf : List PyData → Option (List Int)
  | [] => some []
  | .int i :: r => (intsOf r).map (i :: ·)
  | _ :: _ => none
theorem intsOf_map : ∀ ns : List Int, intsOf (ns.map PyData.int) = some ns
  | [] => rfl
  | n :: ns => by simp [intsOf, intsOf_map ns]
theorem intsOf_eq : ∀ {ds : List PyData} {ns : List Int}, intsOf ds = some ns → ds = ns.map PyData.int
  | [], ns, e => by cases e; rfl
  | .int i :: r, ns, e => by
    simp only [intsOf, Option.map_eq_some_iff] at e
    obtain ⟨m, h, rfl⟩ := e
    rw [intsOf_eq h]
    rfl
def oInts (o : List Int → (DV → Prop) → Prop) : D1 := fun x R => match x.lst with
  | some ds => match intsOf ds with
    | some ns => o ns R
    | none => False
  | none => False
theorem ints_of {G : Gm} {F H : Hp} {v : V} {x : DV} {o : List Int → (DV → Prop) → Prop} {R : DV → Prop} (hx : VOk G F H v x) (hf : Same F H) (h : oInts o x R) : ∃ l ns, v = .ref l ∧ H l = some (.lst (ns.map V.int)) ∧ o ns R := by
  unfold oInts at h
  split at h
  · rename_i ds e
    split at h
    · rename_i ns e2
      obtain ⟨l, vs, rfl, h1, h2⟩ := lst_of hx hf e
      rw [intsOf_eq e2] at h2
      have := h2.ints
      subst this
      exact ⟨l, ns, rfl, h1, h⟩
    · exact h.elim
  · exact h.elim
def oSum : D1 := oInts fun ns R => R (.d (.int ns.sum))
theorem on_sum : OpN X (rSum X.K) (o1 oSum) := on_1 fun G F δ σ H v x R Q hK g hx h k => by
  obtain ⟨l, ns, rfl, h1, hR⟩ := ints_of hx g.fh h
  exact ⟨l, ns, rfl, SqL.of h1, k _ hR _ F H (g.pushD (.int _))⟩
theorem de_sum (hc : X.calm = true) (hg : Gl X "sum") (hm : X.mg "sum" = none) (ha : DA X W [e] mas u) (he : starEach [e] X.env = (false, eval e X.env) :: starEach [] X.env := by rfl) (hpl : (backTo pos (starEach [] X.env)).any (·.1) = false := by rfl) :
    DE X W (.Call (.Name "sum" p) [e] [] pos) (mCB (o1 oSum) mas) u := de_callB (cr_sum hc) on_sum hg hm (by decide +kernel) ha (by decide) (by decide) he hpl
def isTy : PyData → String → Bool
  | .none, _ => false
  | .bool _, T => T == "bool" || T == "int"
  | .int _, T => T == "int"
  | .str _, T => T == "str"
  | .list _, T => T == "list"
  | .tuple _, T => T == "tuple"
  | .dict ks, T => T == "dict" && !isObj ks
def tys : List String := ["int", "bool", "str", "tuple", "list", "dict"]
theorem kit_all : ∀ T ∈ tys, kitB "NoneType" T = some false ∧ kitB "bool" T = some (T == "bool" || T == "int") ∧ kitB "int" T = some (T == "int") ∧ kitB "str" T = some (T == "str") ∧ kitB "list" T = some (T == "list") ∧ kitB "tuple" T = some (T == "tuple") ∧ kitB "dict" T = some (T == "dict") := by decide +kernel
theorem isObj_kv {K : PySem.W.Frag} {F : Hp} {kvs : List (Key × V)} {ds : List (PyData × PyData)} (h : AtKv K F kvs ds) : isObj ds = false := by
  cases h with
  | nil => rfl
  | @cons k v r d ds h1 h2 => cases k <;> rfl
theorem kit_at {K : PySem.W.Frag} {H : Hp} {v : V} {d : PyData} (h : Da K H v d) : ∃ t, TyX K H v t ∧ ∀ T ∈ tys, PySem.W.kitOne K t (.type T) = some (isTy d T) := by
  obtain ⟨F, hF, h⟩ := h
  cases h with
  | non => exact ⟨_, .base .non, fun T h => kit_ty (kit_all T h).1⟩
  | bl b => exact ⟨_, .base (.bl b), fun T h => kit_ty (kit_all T h).2.1⟩
  | int i => exact ⟨_, .base (.int i), fun T h => kit_ty (kit_all T h).2.2.1⟩
  | str x => exact ⟨_, .base (.str x), fun T h => kit_ty (kit_all T h).2.2.2.1⟩
  | lst hs _ => exact ⟨_, .base (.lst (hF _ _ hs)), fun T h => kit_ty (kit_all T h).2.2.2.2.1⟩
  | dct hs ha =>
    have e : ∀ T ∈ tys, PySem.W.kitOne K (.type "dict") (.type T) = some (isTy (.dict _) T) := fun T h => by
      rw [isTy, isObj_kv ha, Bool.not_false, Bool.and_true]
      exact kit_ty (kit_all T h).2.2.2.2.2.2
    rcases hs with hs | ⟨o, hs⟩
    · exact ⟨_, .base (.dK (hF _ _ hs)), e⟩
    · exact ⟨_, .fDict (hF _ _ hs), e⟩
  | tup hs _ =>
    exact ⟨_, .base (.tup (hF _ _ hs)), fun T h => kit_ty (kit_all T h).2.2.2.2.2.1⟩
  | obj hs ho _ _ => exact ⟨_, .base (.ins (hF _ _ hs) ho.cls ho.ha ho.hn ho.htk ho.hm), fun T h => by
      rw [isTy, show isObj ((objK, _) :: _) = true from rfl, Bool.not_true, Bool.and_false]
      exact ho.no T h⟩
def oIsi : D2 := fun x y R => match x.pd, y with
  | some d, .raw (.ty T) => T ∈ tys ∧ R (.d (.bool (isTy d T)))
  | _, _ => False
theorem on_isi : OpN X (rIsi X.K) (o2 oIsi) := on_2 fun G F δ σ H v u x y R Q hK g hx hy h k => by
  unfold oIsi at h
  split at h
  · rename_i d T e
    have hd := pd_da hx g.fh e
    rw [hK] at hd
    have hu : u = .ty T := hy
    subst hu
    obtain ⟨t, ht, hk⟩ := kit_at hd
    exact ⟨v, .ty T, _, _, _, rfl, .ty T, ht, hk T h.1, k _ h.2 _ F H (g.pushD (.bl _))⟩
  · exact h.elim
theorem de_isi (hg : Gl X "isinstance") (hm : X.mg "isinstance" = none) (ha : DA X W [a, b] mas u) (he : starEach [a, b] X.env = (false, eval a X.env) :: starEach [b] X.env := by rfl) (hpl : (backTo pos (starEach [b] X.env)).any (·.1) = false := by rfl) :
    DE X W (.Call (.Name "isinstance" p) [a, b] [] pos) (mCB (o2 oIsi) mas) u := de_callB call_isi on_isi hg hm (by decide +kernel) ha (by decide) (by decide) he hpl
def Shows (d : PyData) : Prop := d.hasDict = false ∧ d.showable = true ∧ d.shown.length ≤ sizeLine ∧ d.depth ≤ 30
end
end DL
namespace DL
open PySem PySem.Spec L2
section
variable {u u1 u2 u3 : Nat} {X : Cx} {W : WC} {a b c e : Expr} {es : List Expr} {pos p : Pos} {ma mb me mi : ME} {mas : MA} {k : Nat}
abbrev Mut := List PyData → List PyData → Option (PyData × List PyData)
def MutOk (K : PySem.W.Frag) (r : V → List V → Hp → VK → Prop) (o : Mut) : Prop := ∀ (F : Hp) (l : Addr) (ws : List V) (xs : List PyData) (vs : List V) (ds : List PyData) (H : Hp) (Q : VK) (res : PyData) (xs' : List PyData), Same F H → H l = some (.lst ws) → AtL K F ws xs → AtL K F vs ds → o xs ds = some (res, xs') →
  (∀ u ws', At K F u res → AtL K F ws' xs' → Q u (upd H l (.lst ws'))) → r (.ref l) vs H Q
def uApp : Mut := fun xs ds => match ds with
  | [d] => if xs.length < sizeLine then some (.none, xs ++ [d]) else none
  | _ => none
theorem mut_app {K : PySem.W.Frag} : MutOk K rAppend uApp := by
  intro F l ws xs vs ds H Q res xs' hF hl ha hv e k
  unfold uApp at e
  split at e
  · cases hv with
    | cons h1 h2 =>
      cases h2
      split at e
      · rename_i hz
        cases e
        exact ⟨l, ws, _, rfl, rfl, hl, by rw [ha.length]; exact hz, k _ _ .non (ha.append (.cons h1 .nil))⟩
      · cases e
  · cases e
def uExt : Mut := fun xs ds => match ds with
  | [.list zs] => if xs.length + zs.length ≤ sizeLine then some (.none, xs ++ zs) else none
  | _ => none
theorem mut_ext {K : PySem.W.Frag} : MutOk K rExtend uExt := by
  intro F l ws xs vs ds H Q res xs' hF hl ha hv e k
  unfold uExt at e
  split at e
  · rename_i zs
    cases hv with
    | cons h1 h2 =>
      cases h2
      cases h1 with
      | @lst b ys _ hb hy =>
        split at e
        · rename_i hz
          cases e
          exact ⟨l, b, ws, ys, rfl, rfl, hl, hF _ _ hb, by rw [ha.length, hy.length]; exact hz, k _ _ .non (ha.append hy)⟩
        · cases e
  · cases e
def mutRun (o : Mut) (i : Nat) (δ : Env) (as : List DV) (R : PyData → Env → Prop) : Prop := match δ[i]? with
  | some (some (.own xs)) => match vals as with
    | some ds => match o xs ds with
      | some (res, xs') => R res (δ.set i (some (.own xs')))
      | none => False
    | none => False
  | _ => False
theorem mut_lift {r : V → List V → Hp → VK → Prop} {o : Mut} {G : Gm} (ho : MutOk G.K r o) {F : Hp} {δ τ : Env} {σ ts : L2.St} {H : Hp} {i : Nat} {as : List DV} {vs : List V} {R : PyData → Env → Prop} {Q : VK} {v : V} (nb : NoBor (δ ++ τ)) (l1 : δ.length = σ.length) (hl : as.length = vs.length)
    (g : Good G F (δ ++ τ ++ as.map some) (σ ++ ts ++ vs.map some) H) (hi : σ[i]? = some (some v)) (h : mutRun o i δ as R) (hQ : ∀ res δ', R res δ' → ∀ u F' H', δ'.length = δ.length → NoBor (δ' ++ τ) → Good G F' (δ' ++ τ ++ [some (.d res)]) (σ ++ ts ++ [some u]) H' → Q u H') : r v vs H Q := by
  unfold mutRun at h
  split at h
  · rename_i xs e
    have hiL : i < δ.length := (List.getElem?_eq_some_iff.mp e).1
    split at h
    · rename_i ds ev
      split at h
      · rename_i res xs' eo
        obtain ⟨F2, s2, g2⟩ := fix_all as g ev
        have hd : ds.length = vs.length := (vals_len ev).trans hl
        have hav := atL_of hd g2
        have g3 := g2.cut (by simpa using hd)
        obtain ⟨w, ew, l, ws, rfl, h1, h2, _⟩ := g3.get (i := i) (dv := .own xs) (by rw [List.getElem?_append_left hiL]; exact e)
        rw [List.getElem?_append_left (by omega), hi] at ew
        cases ew
        refine ho F2 l ws xs vs ds H Q res xs' g3.fh h1 h2 hav eo fun u ws' hu hws => ?_
        have g4 := g3.write nb (n := i) (xs := xs) (ys := xs') (l := l) (ws := ws') (by rw [List.getElem?_append_left hiL]; exact e) (by rw [List.getElem?_append_left (by omega)]; exact hi) hws
        rw [List.set_append_left _ _ hiL] at g4
        refine hQ res _ h u F2 _ (by simp) ?_ (g4.pushD hu)
        rw [← List.set_append_left _ _ hiL]
        exact noBor_set nb rfl
      · exact h.elim
    · exact h.elim
  · exact h.elim
theorem own_ref {G : Gm} {F : Hp} {δ A : Env} {σ A' : L2.St} {H : Hp} {i : Nat} {xs : List PyData} (l1 : δ.length = σ.length) (g : Good G F (δ ++ A) (σ ++ A') H) (e : δ[i]? = some (some (.own xs))) : ∃ l ws, σ[i]? = some (some (.ref l)) ∧ H l = some (.lst ws) := by
  have hiL : i < δ.length := (List.getElem?_eq_some_iff.mp e).1
  obtain ⟨w, ew, l, ws, rfl, h1, _⟩ := g.get (i := i) (dv := .own xs) (by rw [List.getElem?_append_left hiL]; exact e)
  rw [List.getElem?_append_left (by omega)] at ew
  exact ⟨l, ws, ew, h1⟩
def isOwnAt (δ : Env) (i : Nat) : Prop := match δ[i]? with
  | some (some (.own _)) => True
  | _ => False
theorem isOwn_some {δ : Env} {i : Nat} (h : isOwnAt δ i) : ∃ xs, δ[i]? = some (some (.own xs)) := by
  unfold isOwnAt at h
  split at h
  · exact ⟨_, by assumption⟩
  · exact h.elim
def mMut (i : Nat) (o : Mut) (t : MA) : MS := fun ex E δ => isOwnAt δ i ∧ t ex δ fun as => mutRun o i δ as fun _ δ' => E.nx δ'
theorem setTop2 {G : Gm} {F : Hp} {δ τ : Env} {σ ts : L2.St} {H : Hp} {j : Nat} {x : DV} {u : V} (l1 : δ.length = σ.length) (hj : j < δ.length) (g : Good G F (δ ++ τ ++ [some x]) (σ ++ ts ++ [some u]) H) : Good G F (δ.set j (some x) ++ τ) (σ.set j (some u) ++ ts) H := by
  have := g.setTop (i := j) (by simp; omega)
  rw [List.set_append_left _ _ hj, List.set_append_left _ _ (by omega)] at this
  exact this
variable {x : Str} {p1 ap cp : Pos} {m id : Str}
theorem tyL {K : PySem.W.Frag} {H : Hp} {l : Addr} {ws : List V} (h : H l = some (.lst ws)) : tyV K "list" (.ref l) H := .inl ⟨rfl, ws, SqL.of h⟩
theorem bm_lift {i : Nat} {o : Mut} {r : V → List V → Hp → VK → Prop} (ho : MutOk X.K r o) {D : Ends} {σ : L2.St} {H : Hp} {ex : XD} {G : Gm} {F : Hp} {δ τ : Env} {ts : L2.St} (n : Now X.K X.mg W u1 ex G F δ σ τ ts [] [] H) (nb : NoBor (δ ++ τ)) {R : PyData → Env → Prop} {Q : VK}
    (h : isOwnAt δ i ∧ mas ex δ fun as => mutRun o i δ as R) (hQ : ∀ res δ', R res δ' → ∀ u F' H', δ'.length = δ.length → NoBor (δ' ++ τ) → Good (G.up u1) F' (δ' ++ τ ++ [some (.d res)]) (σ ++ ts ++ [some u]) H' → Q u H') :
    tBM X.K "list" r (tVar i) (liftA X.K X.mg W u1 mas) σ H Q := by
  obtain ⟨ho1, ha⟩ := h
  obtain ⟨xs, e⟩ := isOwn_some ho1
  obtain ⟨l, ws, el, hw⟩ := own_ref n.l1 n.g0 e
  refine ⟨.ref l, el, tyL hw, ex, G, F, δ, τ, ts, [], [], _, n, ha, fun as has vs F1 H1 hl g1 => ?_⟩
  exact mut_lift (by have e : (G.up u1).K = X.K := n.k; rw [e]; exact ho) nb n.l1 hl (by simpa using g1) el has hQ
theorem drop_end {D : Ends} {σ : L2.St} {G : Gm} {δ τ : Env} {ts : L2.St} {E : DEnds} {u1 : Nat} (l1 : δ.length = σ.length) (eo : EndsOk G u1 τ ts E D) : ∀ (res : PyData) δ', E.nx δ' → ∀ u F' H', δ'.length = δ.length → NoBor (δ' ++ τ) → Good (G.up u1) F' (δ' ++ τ ++ [some (.d res)]) (σ ++ ts ++ [some u]) H' → D.nx σ H' :=
  fun res δ' h u F' H' hl nb g => eo.nx δ' h u1 σ F' H' (Nat.le_refl _) (hl.trans l1) nb g.pop
theorem ds_mut {i : Nat} {o : Mut} {r : V → List V → Hp → VK → Prop} {name : Str} {id : String} (slot : Slot "list" name id) (hty : typeOf (.builtin id) = pure (.type "method_descriptor")) (hm : MtR X id r) (ho : MutOk X.K r o) (hv : PE X (.Name x p1) (tVar i)) (ha : DA X W (e :: es) mas u1)
    (hbase : attributeBase (.Name x p1) name X.env (eval (.Name x p1) X.env) = eval (.Name x p1) X.env := by rfl)
    (hfew : ((backTo cp (starEach (e :: es) X.env)).all (fun x => !x.1) && (backToKw cp (keywordEach [] X.env)).all (fun x => x.1.isSome)
      && decide ((e :: es).length + ([] : List Keyword).length + (if ([] : List Keyword).isEmpty then 0 else 1) < 30)) = true := by rfl)
    (hline : (ap.endLine == cp.line) = true := by rfl) (hs : starEach (e :: es) X.env = (false, eval e X.env) :: starEach es X.env := by rfl) (hplain : (backTo cp (starEach es X.env)).any (·.1) = false := by rfl) (hsw : swapsWith (.Call (.Attribute (.Name x p1) name ap) (e :: es) [] cp) none pos.line X.env = pure false := by rfl) :
    DS X W (.Expr (.Call (.Attribute (.Name x p1) name ap) (e :: es) [] cp) pos) (mMut i o mas) u1 :=
  ⟨PS.imp (ps_expr (pe_bm PySem.F.plainAttrs_list slot hty hm hv ha.pa hbase hfew hline hs hplain) hsw) fun D σ H q => by
    obtain ⟨ex, G, F, δ, τ, ts, E, n, nb, eo, h⟩ := q
    exact bm_lift (D := D) (Q := fun _ H1 => D.nx σ H1) ho n nb h (drop_end n.l1 eo)⟩
def mSto (i : Nat) (mi me : ME) : MS := fun ex E δ => isOwnAt δ i ∧ me ex δ fun y => mi ex δ fun z => match δ[i]?, y.val, z with
  | some (some (.own xs)), some d, .d (.int k) => match ixN xs.length k with
    | some j => E.nx (δ.set i (some (.own (xs.set j d))))
    | none => False
  | _, _, _ => False
theorem ds_sto {i : Nat} {idx : Expr} {p2 : Pos} (hv : PE X (.Name x p1) (tVar i)) (hi : DE X W idx mi u2) (he : DE X W e me u1)
    (hset : ∀ v, assign (.Subscript (.Name x p1) idx p2) X.env v = (do
      let ov ← holding [v] (eval (.Name x p1) X.env)
      let iv ← holding [v, ov] (eval idx X.env)
      standAt p2
      holding [v, ov, iv] (setItem ov iv v)
      release [v, ov, iv] []) := by intro _; rfl)
    (hs : swapsWithSole [.Subscript (.Name x p1) idx p2] e pos.line X.env = pure false := by rfl) (hw : swappedStores [.Subscript (.Name x p1) idx p2] e X.env = pure none := by rfl)
    (h1 : (assignEach [.Subscript (.Name x p1) idx p2] X.env).map (·.2) = [assign (.Subscript (.Name x p1) idx p2) X.env] := by rfl) :
    DS X W (.Assign [.Subscript (.Name x p1) idx p2] e pos) (mSto i mi me) (u1 + u2) :=
  ⟨PS.imp (ps_asg he.pe (pg_sub hv hi.pe set_list hset) hs hw h1) fun D σ H q => by
    obtain ⟨ex, G, F, δ, τ, ts, E, n, nb, eo, ho1, h⟩ := q
    obtain ⟨xs, eX⟩ := isOwn_some ho1
    refine ⟨ex, G, F, δ, τ, ts, [], [], _, n.fst, h, fun y hy v F1 H1 g1 => ?_⟩
    obtain ⟨l, ws0, el, _⟩ := own_ref n.l1 n.g0 eX
    refine ⟨.ref l, el, ?_⟩
    refine ⟨ex, G.up u1, F1, δ, τ, ts, _, _, _, n.after (rs := [some y]) (vs := [some v]) g1, hy, fun z hz iv F2 H2 g2 => ?_⟩
    rw [up_up] at g2
    have g : Good (G.up (u1 + u2)) F2 (δ ++ τ ++ [some y] ++ [some z]) (σ ++ ts ++ [some v] ++ [some iv]) H2 := by simpa only [List.append_assoc, List.nil_append] using g2
    rw [eX] at hz
    match hyv : y.val, z, hz, g with
    | some d, .d (.int kk), hz, g =>
      cases int_of g.top
      obtain ⟨F3, s3, g3⟩ := fix_one (A := δ ++ τ) (A2 := []) (x := y) (ρ := σ ++ ts ++ [some v]) (by simpa using g.pop) hyv
      have g3' : Good (G.up (u1 + u2)) F3 (δ ++ τ ++ [some (.d d)]) (σ ++ ts ++ [some v]) H2 := g3
      have hd : At G.K F3 v d := g3'.top
      have g4 := g3'.pop
      have hiL : i < δ.length := (List.getElem?_eq_some_iff.mp eX).1
      obtain ⟨w, ew, l', ws, rfl, q1, q2, _⟩ := g4.get (i := i) (dv := .own xs) (by rw [List.getElem?_append_left hiL]; exact eX)
      rw [List.getElem?_append_left (by have := n.l1; omega), el] at ew
      cases ew
      have hz' : (match ixN xs.length kk with | some j => E.nx (δ.set i (some (.own (xs.set j d)))) | none => False) := hz
      split at hz'
      · rename_i j ej
        refine ⟨l, ws, kk, j, rfl, rfl, q1, by rw [q2.length]; exact ej, ?_⟩
        have g5 := g4.write nb (n := i) (xs := xs) (ys := xs.set j d) (l := l) (ws := ws.set j v) (by rw [List.getElem?_append_left hiL]; exact eX) (by rw [List.getElem?_append_left (by have := n.l1; omega)]; exact el) (AtL.set hd j q2)
        rw [List.set_append_left _ _ hiL] at g5
        refine eo.nx _ hz' _ σ F3 _ (Nat.le_refl _) (by simpa using n.l1) ?_ g5
        rw [← List.set_append_left _ _ hiL]
        exact noBor_set nb rfl
      · exact hz'.elim⟩
def mPar2 (i j : Nat) (t : MA) : MS := fun ex E δ => t ex δ fun xs => match xs with
  | [x, y] => x.isBor = false ∧ y.isBor = false ∧ i < δ.length ∧ j < δ.length ∧ E.nx ((δ.set i (some x)).set j (some y))
  | _ => False
theorem ds_par2 {i j : Nat} {y : Str} {px py pt pt2 : Pos} {kt k2 : _} (hc : X.calm = true) (hN : X.N.Nodup) (hi : X.N[i]? = some x) (hj : X.N[j]? = some y) (hij : i ≠ j)
    (hx : X.env.scope.names.lookup x = some .local) (hy : X.env.scope.names.lookup y = some .local) (ha : DA X W [a, b] mas u1)
    (hw : swappedStores [.Tuple [.Name x px, .Name y py] kt pt] (.Tuple [a, b] k2 pt2) X.env = pure (some [x, y]))
    (hs : swapsWithSole [.Tuple [.Name x px, .Name y py] kt pt] (.Tuple [a, b] k2 pt2) pos.line X.env = pure false := by rfl) :
    DS X W (.Assign [.Tuple [.Name x px, .Name y py] kt pt] (.Tuple [a, b] k2 pt2) pos) (mPar2 i j mas) u1 :=
  ⟨PS.imp (ps_par hc hN hi hj hij hx hy ha.pa hw hs) fun D σ H q => by
    obtain ⟨ex, G, F, δ, τ, ts, E, n, nb, eo, h⟩ := q
    refine ⟨ex, G, F, δ, τ, ts, [], [], _, n, h, fun xs hxs vs F1 H1 hl g1 => ?_⟩
    match xs, hxs, hl, g1 with
    | [x, y], hxs, hl, g1 =>
      obtain ⟨h1, h2, h3, h4, h5⟩ := hxs
      match vs, hl, g1 with
      | [v, u], hl, g1 =>
        refine ⟨v, u, rfl, ?_⟩
        have l1 := n.l1
        have g : Good (G.up u1) F1 (δ ++ (τ ++ [some x]) ++ [some y]) (σ ++ (ts ++ [some v]) ++ [some u]) H1 := by simpa using g1
        have g2 : Good (G.up u1) F1 (δ.set j (some y) ++ τ ++ [some x]) (σ.set j (some u) ++ ts ++ [some v]) H1 := by
          have := setTop2 l1 h4 g
          simpa only [List.append_assoc] using this
        have g3 := setTop2 (by simpa using l1) (j := i) (by simpa using h3) g2
        rw [List.set_comm _ _ (Ne.symm hij), List.set_comm _ _ (Ne.symm hij)] at g3
        refine eo.nx _ h5 _ _ F1 H1 (Nat.le_refl _) (by simpa using l1) ?_ g3
        exact nb_mk (noBor_set (noBor_set (nb_left nb) h1) h2) (nb_right nb)⟩
def mAug (i : Nat) (f : Int → Int → Int) (me : ME) : MS := fun ex E δ => match δ[i]? with
  | some (some (.d (.int v))) => me ex δ fun y => match y with
    | .d (.int u) => E.nx (δ.set i (some (.d (.int (f v u)))))
    | _ => False
  | _ => False
theorem ds_aug {i : Nat} {op : Operator} {f : Int → Int → Int} (hN : X.N.Nodup) (hi : X.N[i]? = some x) (hx : Loc X.env.scope x) (he : DE X W e me u1) (ho : PIp X op (ipI f)) (hf : X.fn x = true ∨ X.env.scope.names.lookup x = some .local := by first | exact .inl rfl | exact .inr rfl | assumption) :
    DS X W (.AugAssign (.Name x p1) op e pos) (mAug i f me) u1 :=
  ⟨PS.imp (ps_aug hN hi hx he.pe ho hf) fun D σ H q => by
    obtain ⟨ex, G, F, δ, τ, ts, E, n, nb, eo, h⟩ := q
    unfold mAug at h
    split at h
    · rename_i v e
      have hiL : i < δ.length := (List.getElem?_eq_some_iff.mp e).1
      obtain ⟨w, ew, hw⟩ := n.g0.get (i := i) (dv := .d (.int v)) (by rw [List.getElem?_append_left hiL]; exact e)
      rw [List.getElem?_append_left (by have := n.l1; omega)] at ew
      cases int_of hw
      refine ⟨.int v, ew, ex, G, F, δ, τ, ts, [], [], _, n, h, fun y hy u F1 H1 g1 => ?_⟩
      match y, hy, g1 with
      | .d (.int j), hy, g1 =>
        cases int_of g1.top
        have g2 : Good (G.up u1) F1 (δ ++ τ) (σ ++ ts) H1 := by
          have := g1.pop
          simpa using this
        refine ⟨v, j, rfl, rfl, eo.nx _ hy _ _ F1 H1 (Nat.le_refl _) (by simpa using n.l1) ?_ (setTop2 n.l1 hiL (g2.pushD (.int _)))⟩
        rw [← List.set_append_left _ _ hiL]
        exact noBor_set nb rfl
    · exact h.elim⟩
end
end DL
namespace DL
open PySem PySem.Spec L2
section
variable {u u1 u2 u3 : Nat} {X : Cx} {W : WC} {a b c e : Expr} {es : List Expr} {pos p : Pos} {ma mb mc me : ME} {mas : MA} {k : Nat}
theorem Ctx.blk (cx : Ctx X W k) {s : Shared} {H : Hp} {scope : Scope} {ce : PySem.Env} {fp : List Addr} : Ctx (X.blk s H scope ce fp) (W0 W) k := ⟨cx.gd, cx.hr, takes0⟩
theorem CtxU.blk (cx : CtxU X) {s : Shared} {H : Hp} {scope : Scope} {ce : PySem.Env} {fp : List Addr} : CtxU (X.blk s H scope ce fp) := ⟨cx.gd, cx.un⟩
theorem Ctx.passes {Y : Cx} {K : Value → Shared → Prop} {E₁ : Value → Shared → Prop} (hx : Y.xe = fun e s' => wpAny (model Y.prog Y.w) Y.A (leaving Y.env e) (fun _ s'' => K e s'') E₁ s') : PassesOwn (model Y.prog Y.w) Y.A Y.env Y.xe := passes_of hx
theorem dt_eq (cx : CtxU X) (ha : DE X W a ma u1) (hb : DE X W b mb u2) : DT X W (.Compare a [.Eq] [b] pos) (mB (mBin (oEq false) ma mb)) (u1 + u2) := dt_cmp (op_eqB cx.u64) o2_eq ha hb (nomark _)
theorem dt_ne (cx : CtxU X) (ha : DE X W a ma u1) (hb : DE X W b mb u2) : DT X W (.Compare a [.NotEq] [b] pos) (mB (mBin (oEq true) ma mb)) (u1 + u2) := dt_cmp (op_neB cx.u64) o2_eq ha hb (nomark _)
theorem dt_lt (ha : DE X W a ma u1) (hb : DE X W b mb u2) : DT X W (.Compare a [.Lt] [b] pos) (mB (mBin oLt ma mb)) (u1 + u2) := dt_cmp op_lt o2_C ha hb (nomark _)
theorem dt_le (ha : DE X W a ma u1) (hb : DE X W b mb u2) : DT X W (.Compare a [.LtE] [b] pos) (mB (mBin oLe ma mb)) (u1 + u2) := dt_cmp op_le o2_C ha hb (nomark _)
theorem dt_is (ha : DE X W a ma u1) (hb : DE X W b mb u2) : DT X W (.Compare a [.Is] [b] pos) (mB (mBin (oIsN false) ma mb)) (u1 + u2) := dt_cmp op_isA o2_isN ha hb (nomark _)
theorem de_ch {op op' : CmpOp} {f g : Int → Int → Bool} (h : OpR X (compareOp op) (rI0 fun i j => .bl (f i j))) (h' : OpR X (compareOp op') (rI0 fun i j => .bl (g i j))) (ha : DE X W a ma u1) (hb : DE X W b mb u2) (hc : DE X W c mc u3)
    (hm : lastMarks [op, op'] [b, c] = false := by with_unfolding_all rfl) : DE X W (.Compare a [op, op'] [b, c] pos) (mChain (oC f) (oC g) ma mb mc) (u1 + (u2 + u3)) :=
  ⟨PE.imp (pe_chain h h' ha.pe hb.pe hc.pe hm) fun σ H Q q => chain_lift o2_C o2_C oC_bool σ H Q q⟩
theorem dt_ch {op op' : CmpOp} {f g : Int → Int → Bool} (h : OpR X (compareOp op) (rI0 fun i j => .bl (f i j))) (h' : OpR X (compareOp op') (rI0 fun i j => .bl (g i j))) (ha : DE X W a ma u1) (hb : DE X W b mb u2) (hc : DE X W c mc u3)
    (hm : lastMarks [op, op'] [b, c] = false := by with_unfolding_all rfl) : DT X W (.Compare a [op, op'] [b, c] pos) (mB (mChain (oC f) (oC g) ma mb mc)) (u1 + (u2 + u3)) :=
  ⟨PT.imp (pt_chain h h' ha.pe hb.pe hc.pe hm) fun σ H Q q => by
    have q' := liftT_of σ H Q q
    exact chain_lift o2_C o2_C oC_bool σ H _ q'⟩
def tCallG (sp : Sp) (W : WX) (t : TA) : TE := fun σ H Q => t σ H fun vs H1 => sp vs H1 Q (WE W σ)
theorem pe_callG {sp : Sp} {t : TA} {f : Addr} {fd : FuncData} {ps : List Str} {j : Nat} {x : Str} {w : WX} (gd : X.A.guards = some []) (hr : Room j X.A) (tk : Takes X w) (F : FnG X.prog X.w X.K X.mg X.base k f fd ps sp) (hk : k ≤ j) (hm : X.mg x = some (.ref f)) (hkp : PySem.W.keepIn X.K (.ref f) = true) (hb : Binds X.K fd ps []) (hg : Gl X x) (ha : PA X (e :: es) t) (hdb : (x == ("__debug__" : Str)) = false := by decide)
    (he : starEach (e :: es) X.env = (false, eval e X.env) :: starEach es X.env := by rfl) (hpl : (backTo pos (starEach es X.env)).any (·.1) = false := by rfl) : PE X (.Call (.Name x p) (e :: es) [] pos) (tCallG sp w t) := by
  refine ⟨fun pins s σ H Q I h => ?_⟩
  refine wpAny_Call_Name_kw (ld_glob I hg hm ?_ hdb)
  exact PySem.W.callWith_K (h₀ := X.base) I.ok.mod.kin hkp (thn (ha.run pos pins s σ H _ I h) fun us s1 ⟨vs, H1, I1, r, q⟩ => ⟨I1.kIn, call_run (W := ⟨w, fun _ _ _ _ => True⟩) F gd (hr.mono hk) hb tk I1 r q⟩) he hpl
end
end DL
namespace DL
open PySem PySem.Spec L2
section
variable {u u1 u2 u3 : Nat} {X : Cx} {W : WC} {a b c e : Expr} {pos p : Pos} {mas : MA}
def downD (hi : Int) (n : Nat) : List PyData := (List.range n).map fun i => .int (hi - (i : Nat))
theorem downD_len {lo : Int} {n : Nat} : (downD lo n).length = n := by unfold downD; simp
theorem downD_get {lo : Int} {n i : Nat} : (downD lo n)[i]? = if i < n then some (.int (lo - (i : Nat))) else none := by
  unfold downD
  rw [List.getElem?_map]
  by_cases h : i < n
  · rw [List.getElem?_range h, if_pos h]; rfl
  · rw [List.getElem?_eq_none (by simpa using h), if_neg h]; rfl
theorem itc_ok (G : Gm) (lo : Int) (n : Nat) : ItOk G ⟨[], downD lo n⟩ [] (Itc lo (-1) n) := fun b i F A B A' B' H hA hB g => by
  refine ⟨fun h => by rw [downD_len] at h; exact h, fun d hd => ?_⟩
  rw [downD_get] at hd
  split at hd
  · rename_i hi
    cases hd
    refine ⟨hi, fun y H3 hy => ?_⟩
    obtain ⟨rfl, rfl⟩ := hy
    have e : lo + (i : Nat) * (-1 : Int) = lo - (i : Nat) := by omega
    rw [e]
    exact ⟨F, g.pushD (.int _)⟩
  · cases hd
def mR3 (t : MA) : MI := fun ex δ R => t ex δ fun xs => match xs with
  | [.d (.int i), .d (.int j), .d (.int c)] => c = -1 ∧ (-(2 ^ 62) ≤ i ∧ i < 2 ^ 62 ∧ -(2 ^ 62) ≤ j ∧ j < 2 ^ 62) ∧ R ⟨[], downD i (i - j).toNat⟩
  | _ => False
theorem di_range3 {tg : Expr} {p : Pos} (hg : Gl X "range") (hm : X.mg "range" = none) (ha : DA X W [a, b, c] mas u) (hs : starEach [a, b, c] X.env = (false, eval a X.env) :: starEach [b, c] X.env := by rfl)
    (hpl : (backTo pos (starEach [b, c] X.env)).any (·.1) = false := by rfl) :
    DI X W tg (.Call (.Name "range" p) [a, b, c] [] pos) (mR3 mas) u :=
  ⟨PI.imp (pi_range3 hg hm ha.pa hs hpl) fun σ H Q q => by
    obtain ⟨ex, G, F, δ, τ, ts, τ1, ts1, R, n, m, k⟩ := q
    refine ⟨ex, G, F, δ, τ, ts, τ1, ts1, _, n, m, fun xs hxs vs F1 H1 hl g1 => ?_⟩
    match xs, hxs, hl, g1 with
    | [.d (.int i), .d (.int j), .d (.int c)], hxs, hl, g1 =>
      obtain ⟨rfl, ⟨h1, h2, h3, h4⟩, hR⟩ := hxs
      obtain ⟨v, u, w, rfl, hv, hu, hw, g⟩ := three_of hl g1
      cases int_of hv
      cases int_of hu
      cases int_of hw
      exact ⟨i, j, -1, _, rfl, RgC.neg h1 h2 h3 h4, k _ hR [] F1 H1 _ rfl (by simpa using g) (itc_ok _ i _)⟩⟩
end
theorem Good.alloc {G : Gm} {F H : Hp} {δ : Env} {σ : L2.St} (g : Good G F δ σ H) {p : Addr} {o : HO} (hp : H p = none) : Good G F δ σ (upd H p o) := by
  have cp : ¬ G.C p := fun c => g.g.jn _ H g.jh p c hp
  have fp : F p = none := g.fresh hp
  refine ⟨g.g, g.len, g.f0, fun b u e => ?_, g.fr, fun b u c e => ?_, g.cf, g.g.js _ _ _ g.jh (fun b c => upd_ne (fun z => cp (z ▸ c))) (fun b x e => by rw [upd_ne (ne_of_none e hp)]; exact e), fun i z e => ?_, g.di⟩
  · rw [upd_ne (ne_of_none e fp)]
    exact g.fh _ _ e
  · have hb := g.bh _ _ c e
    rw [upd_ne (ne_of_none hb hp)]
    exact hb
  · obtain ⟨w, e', h⟩ := g.sl i z e
    exact ⟨w, e', h.keep (Same.refl F) (fun l vs _ _ hl => by rw [upd_ne (ne_of_none hl hp)]; exact hl) fun _ _ _ hl => hl⟩
theorem Good.base {G : Gm} {F H : Hp} {δ : Env} {σ : L2.St} (g : Good G F δ σ H) (hn : ∀ (i : Nat) (x : DV), δ[i]? = some (some x) → x.arg = true) : Good (G.into F H) F δ σ H := by
  refine ⟨⟨g.g.js, g.g.jm, g.g.jn, fun p c => g.g.jn _ H g.jh p c, g.g.jt⟩, g.len, Same.refl F, g.fh, fun p q1 q2 => absurd q2 q1, fun p o _ q => q, g.cf, g.jh, fun i x e => ?_, fun i j a b l hx _ e1 _ _ _ => ?_⟩
  · obtain ⟨v, e1, e2⟩ := g.sl i x e
    have hm := hn i x e
    refine ⟨v, e1, ?_⟩
    cases x with
    | d _ => exact e2
    | cask => exact e2
    | raw _ => exact e2
    | scr _ => exact e2
    | fvs _ _ => exact e2
    | _ => cases hm
  · have hm := hn i a e1
    cases a with
    | own _ => cases hm
    | odk _ => cases hm
    | olk _ _ => cases hm
    | odt _ _ => cases hm
    | ins _ _ _ => cases hm
    | _ => cases hx
theorem Good.draw {G : Gm} {F H H' : Hp} {δ : Env} {σ : L2.St} {k : Nat} (g : Good G F δ σ H) (hk : ∀ p, ¬ G.C p → ∀ o, H p = some o → H' p = some o) (hj : G.J (G.n + k) H') : Good (G.up k) F [] [] H' := by
  refine ⟨g.g.up k, rfl, g.f0, fun b u e => ?_, g.fr, fun b u c e => hk b c _ (g.bh _ _ c e), g.cf, hj, fun i z e => by simp at e, fun i j x y l _ _ e => by simp at e⟩
  have nc : ¬ G.C b := fun c => by rw [g.cf b c] at e; cases e
  exact hk b nc _ (g.fh _ _ e)
theorem good_script {K : PySem.W.Frag} {H : Hp} {a : Addr} {ns : List Int} (h : SqL K H a (ns.map V.int)) (k lim : Nat) :
    Good ⟨K, fun p => if p = a then H p else none, H, fun _ => False, .non, fun _ _ => True, 0, lim⟩ (fun p => if p = a then H p else none) (some (.scr ns) :: List.replicate k none) (some (.ref a) :: List.replicate k none) H := by
  refine ⟨⟨fun _ _ _ _ _ _ => trivial, fun _ _ _ _ _ => trivial, fun _ _ _ _ z => z.elim, fun _ z => z.elim, fun _ _ _ _ z => z.elim⟩, by simp, Same.refl _, fun b u e => ?_, fun p q1 q2 => absurd q2 q1, fun _ _ _ q => q, fun _ z => z.elim, trivial, fun i x e => ?_, fun i j x y l hx _ e1 _ _ _ => ?_⟩
  · have e' : (if b = a then H b else none) = some u := e
    split at e'
    · exact e'
    · cases e'
  · cases i with
    | zero =>
      cases e
      refine ⟨.ref a, rfl, a, rfl, ?_⟩
      have h' : SqL K (fun p => if p = a then H p else none) a (ns.map V.int) := by
        have e0 : (fun p => if p = a then H p else none) a = H a := if_pos rfl
        unfold SqL Rd at h ⊢
        rw [e0]
        exact h
      exact h'
    | succ i =>
      rw [List.getElem?_cons_succ, List.getElem?_replicate] at e
      split at e <;> cases e
  · cases i with
    | zero => cases e1; cases hx
    | succ i =>
      rw [List.getElem?_cons_succ, List.getElem?_replicate] at e1
      split at e1 <;> cases e1
theorem good_cask {G : Gm} {H : Hp} {i : Nat} {σ : L2.St} (hG : G.Ok) (h0 : G.F0 = fun _ => none) (hB : G.B = H) (hj : G.J G.n H) (hi : σ[i]? = some (some G.cv)) : Good G (fun _ => none) ((List.replicate σ.length none).set i (some .cask)) σ H := by
  have s0 : Same G.F0 (fun _ => none) := by rw [h0]; exact Same.refl _
  refine ⟨hG, by simp, s0, fun b u e => (nomatch e), fun p q => absurd rfl q, fun p o _ q => by rw [← hB]; exact q, fun _ _ => rfl, hj, fun j x e => ?_, fun a b x y l hx _ e1 _ _ _ => ?_⟩
  · rcases get_set e with ⟨q1, q2, _⟩ | ⟨_, q⟩
    · cases q2
      subst q1
      exact ⟨G.cv, hi, rfl⟩
    · rw [List.getElem?_replicate] at q
      split at q <;> cases q
  · rcases get_set e1 with ⟨_, q2, _⟩ | ⟨_, q⟩
    · cases q2; cases hx
    · rw [List.getElem?_replicate] at q
      split at q <;> cases q
section
variable {u1 : Nat} {X : Cx} {W : WC} {a b c : Expr} {pos : Pos} {mas : MA} {x y z : Str}
theorem ds_tup2 {i j : Nat} {px py pt pt2 : Pos} {kt k2 : _} (hc : X.calm = true) (hN : X.N.Nodup) (hi : X.N[i]? = some x) (hj : X.N[j]? = some y) (hij : i ≠ j) (hx : Loc X.env.scope x) (hy : Loc X.env.scope y) (ha : DA X W [a, b] mas u1)
    (hfx : X.fn x = true ∨ X.env.scope.names.lookup x = some .local := by first | exact .inl rfl | exact .inr rfl) (hfy : X.fn y = true ∨ X.env.scope.names.lookup y = some .local := by first | exact .inl rfl | exact .inr rfl)
    (hn : (assignEach [.Name x px, .Name y py] X.env).length = 2 := by rfl) (hst : (assignEach [.Name x px, .Name y py] X.env).findIdx? (·.1) = none := by rfl)
    (h1 : (assignEach [.Name x px, .Name y py] X.env).map (·.2) = assign (.Name x px) X.env :: (assignEach [.Name y py] X.env).map (·.2) := by rfl) (h2 : (assignEach [.Name y py] X.env).map (·.2) = assign (.Name y py) X.env :: (assignEach [] X.env).map (·.2) := by rfl)
    (hs : swapsWithSole [.Tuple [.Name x px, .Name y py] kt pt] (.Tuple [a, b] k2 pt2) pos.line X.env = pure false := by rfl) (hw : swappedStores [.Tuple [.Name x px, .Name y py] kt pt] (.Tuple [a, b] k2 pt2) X.env = pure none := by rfl)
    (h0 : (assignEach [.Tuple [.Name x px, .Name y py] kt pt] X.env).map (·.2) = [assign (.Tuple [.Name x px, .Name y py] kt pt) X.env] := by rfl) :
    DS X W (.Assign [.Tuple [.Name x px, .Name y py] kt pt] (.Tuple [a, b] k2 pt2) pos) (mPar2 i j mas) u1 :=
  ⟨PS.imp (ps_asg (pe_tup ha.pa) (pg_tup hc (pgs_cons (pg_name hN hi hx hfx) (pgs_cons (pg_name hN hj hy hfy) pgs_nil h2) h1) hn hst) hs hw h0) fun D σ H q => by
    obtain ⟨ex, G, F, δ, τ, ts, E, n, nb, eo, h⟩ := q
    refine ⟨ex, G, F, δ, τ, ts, [], [], _, n, h, fun xs hxs vs F1 H1 hl g1 => ?_⟩
    match xs, hxs, hl, g1 with
    | [x, y], hxs, hl, g1 =>
      obtain ⟨q1, q2, q3, q4, q5⟩ := hxs
      match vs, hl, g1 with
      | [v, u], hl, g1 =>
        refine ⟨by show 2 ≤ sizeLine; decide, fun p hp => ⟨p, [v, u], rfl, SqT.of upd_same, rfl, v, [u], rfl, u, [], rfl, rfl, ?_⟩⟩
        have l1 := n.l1
        have g : Good (G.up u1) F1 (δ ++ (τ ++ [some x]) ++ [some y]) (σ ++ (ts ++ [some v]) ++ [some u]) (upd H1 p (.tup [v, u])) := by
          have := g1.alloc (o := .tup [v, u]) hp
          simpa using this
        have g2 : Good (G.up u1) F1 (δ.set j (some y) ++ τ ++ [some x]) (σ.set j (some u) ++ ts ++ [some v]) (upd H1 p (.tup [v, u])) := by
          have := setTop2 l1 q4 g
          simpa only [List.append_assoc] using this
        have g3 := setTop2 (by simpa using l1) (j := i) (by simpa using q3) g2
        rw [List.set_comm _ _ (Ne.symm hij), List.set_comm _ _ (Ne.symm hij)] at g3
        refine eo.nx _ q5 _ _ F1 _ (Nat.le_refl _) (by simpa using l1) ?_ g3
        exact nb_mk (noBor_set (noBor_set (nb_left nb) q1) q2) (nb_right nb)⟩
end
end DL
namespace DL
open PySem PySem.Spec L2
theorem ge0 {α : Type} {a : α} {l : List α} : (a :: l)[0]? = some a := rfl
theorem ges {α : Type} {a : α} {l : List α} {n : Nat} : (a :: l)[n + 1]? = l[n]? := List.getElem?_cons_succ
theorem all_nil' {α : Type} {p : α → Prop} : (∀ x ∈ ([] : List α), p x) = True := by simp
theorem tf_t {A B : Prop} : ((true = true → A) ∧ (true = false → B)) = A := by simp
theorem tf_f {A B : Prop} : ((false = true → A) ∧ (false = false → B)) = B := by simp
theorem tf1 {A : Prop} : (true = true → A) = A := by simp
theorem tf2 {A : Prop} : (false = true → A) = True := by simp
theorem tf3 {A : Prop} : (true = false → A) = True := by simp
theorem tf4 {A : Prop} : (false = false → A) = A := by simp
section
variable {x y : PyData} {xs ys : List PyData} {i j : Int} {s t : Str} {b : Bool} {ns : List Int} {R : DV → Prop}
theorem val_d : (DV.val (.d x)) = (some x) := rfl
theorem val_o : (DV.val (.own xs)) = (some (.list xs)) := rfl
theorem seen_d : (DV.seen (.d x)) = (.d x) := rfl
theorem seen_o : (DV.seen (.own xs)) = (.bor xs) := rfl
theorem seen_b : (DV.seen (.bor xs)) = (.bor xs) := rfl
theorem seen_c : (DV.seen .cask) = (.cask) := rfl
theorem seen_s : (DV.seen (.scr ns)) = (.scr ns) := rfl
theorem fix_d : (DV.fix (.d x)) = (.d x) := rfl
theorem fix_o : (DV.fix (.own xs)) = (.d (.list xs)) := rfl
theorem fix_b : (DV.fix (.bor xs)) = (.d (.list xs)) := rfl
theorem fix_c : (DV.fix .cask) = (.cask) := rfl
theorem isBor_d : (DV.isBor (.d x)) = (false) := rfl
theorem isBor_o : (DV.isBor (.own xs)) = (false) := rfl
theorem isBor_b : (DV.isBor (.bor xs)) = (true) := rfl
theorem isBor_c : (DV.isBor .cask) = (false) := rfl
theorem isBor_s : (DV.isBor (.scr ns)) = (false) := rfl
variable {Rb : Bool → Prop}
theorem tru_b : (DV.tru (.d (.bool b)) Rb) = (Rb b) := rfl
theorem lst_dl : (DV.lst (.d (.list xs))) = (some xs) := rfl
theorem rd_dl : (DV.rd (.d (.list xs))) = (some xs) := rfl
theorem lst_o : (DV.lst (.own xs)) = (some xs) := rfl
theorem rd_o : (DV.rd (.own xs)) = (some xs) := rfl
theorem lst_b : (DV.lst (.bor xs)) = (some xs) := rfl
theorem rd_b : (DV.rd (.bor xs)) = (some xs) := rfl
theorem seq_dl : (DV.seq (.d (.list xs))) = (some xs) := rfl
theorem seq_dt : (DV.seq (.d (.tuple xs))) = (some xs) := rfl
theorem seq_o : (DV.seq (.own xs)) = (some xs) := rfl
theorem seq_b : (DV.seq (.bor xs)) = (some xs) := rfl
theorem rd_s : (DV.rd (.scr ns)) = (some (ns.map .int)) := rfl
theorem pd_d : (DV.pd (.d x)) = (some x) := rfl
theorem pd_o : (DV.pd (.own xs)) = (some (.list xs)) := rfl
theorem pd_b : (DV.pd (.bor xs)) = (some (.list xs)) := rfl
variable {C : Int → Int → Prop} {f : Int → Int → Int} {g : Int → Int → Bool}
theorem oI_i : (oI C f (.d (.int i)) (.d (.int j)) R) = (C i j ∧ R (.d (.int (f i j)))) := rfl
theorem oC_i : (oC g (.d (.int i)) (.d (.int j)) R) = (R (.d (.bool (g i j)))) := rfl
theorem oAdd_i : (oAdd (.d (.int i)) (.d (.int j)) R) = (R (.d (.int (i + j)))) := rfl
theorem oAdd_s : (oAdd (.d (.str s)) (.d (.str t)) R) = (s.length + t.length ≤ sizeLine ∧ R (.d (.str (s ++ t)))) := rfl
theorem oAdd_t : (oAdd (.d (.tuple xs)) (.d (.tuple ys)) R) = (xs.length + ys.length ≤ sizeLine ∧ R (.d (.tuple (xs ++ ys)))) := rfl
theorem oAdd_ll : (oAdd (.d (.list xs)) (.d (.list ys)) R) = (xs.length + ys.length ≤ sizeLine ∧ R (.own (xs ++ ys))) := rfl
theorem oAdd_lo : (oAdd (.d (.list xs)) (.own ys) R) = (xs.length + ys.length ≤ sizeLine ∧ R (.own (xs ++ ys))) := rfl
theorem oAdd_lb : (oAdd (.d (.list xs)) (.bor ys) R) = (xs.length + ys.length ≤ sizeLine ∧ R (.own (xs ++ ys))) := rfl
theorem oAdd_ol : (oAdd (.own xs) (.d (.list ys)) R) = (xs.length + ys.length ≤ sizeLine ∧ R (.own (xs ++ ys))) := rfl
theorem oAdd_oo : (oAdd (.own xs) (.own ys) R) = (xs.length + ys.length ≤ sizeLine ∧ R (.own (xs ++ ys))) := rfl
theorem oAdd_ob : (oAdd (.own xs) (.bor ys) R) = (xs.length + ys.length ≤ sizeLine ∧ R (.own (xs ++ ys))) := rfl
theorem oAdd_bl : (oAdd (.bor xs) (.d (.list ys)) R) = (xs.length + ys.length ≤ sizeLine ∧ R (.own (xs ++ ys))) := rfl
theorem oAdd_bo : (oAdd (.bor xs) (.own ys) R) = (xs.length + ys.length ≤ sizeLine ∧ R (.own (xs ++ ys))) := rfl
theorem oAdd_bb : (oAdd (.bor xs) (.bor ys) R) = (xs.length + ys.length ≤ sizeLine ∧ R (.own (xs ++ ys))) := rfl
theorem oMul_i : (oMul (.d (.int i)) (.d (.int j)) R) = (CMul i j ∧ R (.d (.int (i * j)))) := rfl
theorem oMul_l : (oMul (.d (.list xs)) (.d (.int j)) R) = (-(2 ^ 63) ≤ j ∧ j < 2 ^ 63 ∧ xs.length * j.toNat ≤ sizeLine ∧ R (.own (List.replicate j.toNat xs).flatten)) := rfl
theorem oMul_o : (oMul (.own xs) (.d (.int j)) R) = (-(2 ^ 63) ≤ j ∧ j < 2 ^ 63 ∧ xs.length * j.toNat ≤ sizeLine ∧ R (.own (List.replicate j.toNat xs).flatten)) := rfl
theorem oMul_b : (oMul (.bor xs) (.d (.int j)) R) = (-(2 ^ 63) ≤ j ∧ j < 2 ^ 63 ∧ xs.length * j.toNat ≤ sizeLine ∧ R (.own (List.replicate j.toNat xs).flatten)) := rfl
theorem oNeg_i : (oNeg (.d (.int i)) R) = (R (.d (.int (-i)))) := rfl
theorem oIsN_nnf : (oIsN false (.d .none) (.d .none) R) = (R (.d (.bool true))) := rfl
theorem oIsN_if : (oIsN false (.d (.int i)) (.d .none) R) = (R (.d (.bool false))) := rfl
theorem oIsN_bf : (oIsN false (.d (.bool b)) (.d .none) R) = (R (.d (.bool false))) := rfl
theorem oIsN_sf : (oIsN false (.d (.str s)) (.d .none) R) = (R (.d (.bool false))) := rfl
theorem oIsN_tf : (oIsN false (.d (.tuple xs)) (.d .none) R) = (R (.d (.bool false))) := rfl
theorem oIsN_lf : (oIsN false (.d (.list xs)) (.d .none) R) = (R (.d (.bool false))) := rfl
theorem oIsN_of : (oIsN false (.own xs) (.d .none) R) = (R (.d (.bool false))) := rfl
theorem oIsN_rf : (oIsN false (.bor xs) (.d .none) R) = (R (.d (.bool false))) := rfl
theorem oIsN_nnt : (oIsN true (.d .none) (.d .none) R) = (R (.d (.bool false))) := rfl
theorem oIsN_it : (oIsN true (.d (.int i)) (.d .none) R) = (R (.d (.bool true))) := rfl
theorem oIsN_bt : (oIsN true (.d (.bool b)) (.d .none) R) = (R (.d (.bool true))) := rfl
theorem oIsN_st : (oIsN true (.d (.str s)) (.d .none) R) = (R (.d (.bool true))) := rfl
theorem oIsN_tt : (oIsN true (.d (.tuple xs)) (.d .none) R) = (R (.d (.bool true))) := rfl
theorem oIsN_lt : (oIsN true (.d (.list xs)) (.d .none) R) = (R (.d (.bool true))) := rfl
theorem oIsN_ot : (oIsN true (.own xs) (.d .none) R) = (R (.d (.bool true))) := rfl
theorem oIsN_rt : (oIsN true (.bor xs) (.d .none) R) = (R (.d (.bool true))) := rfl
theorem oIx_t : (oIx (.d (.tuple xs)) (.d (.int i)) R) = (match atI xs i with | some d => R (.d d) | none => False) := rfl
theorem oLen_t : (oLen (.d (.tuple xs)) R) = (R (.d (.int xs.length))) := rfl
theorem oIx_l : (oIx (.d (.list xs)) (.d (.int i)) R) = (match atI xs i with | some d => R (.d d) | none => False) := rfl
theorem oLen_l : (oLen (.d (.list xs)) R) = (R (.d (.int xs.length))) := rfl
theorem oIx_o : (oIx (.own xs) (.d (.int i)) R) = (match atI xs i with | some d => R (.d d) | none => False) := rfl
theorem oLen_o : (oLen (.own xs) R) = (R (.d (.int xs.length))) := rfl
theorem oIx_b : (oIx (.bor xs) (.d (.int i)) R) = (match atI xs i with | some d => R (.d d) | none => False) := rfl
theorem oLen_b : (oLen (.bor xs) R) = (R (.d (.int xs.length))) := rfl
theorem oLen_s : (oLen (.scr ns) R) = (R (.d (.int ns.length))) := rfl
theorem oLen_x : (oLen (.d (.str s)) R) = (s.length ≤ sizeLine ∧ R (.d (.int s.length))) := rfl
theorem oAbs_i : (oAbs (.d (.int i)) R) = (R (.d (.int (if i < 0 then -i else i)))) := rfl
theorem oMax2_i : (oMax2 (.d (.int i)) (.d (.int j)) R) = (R (.d (.int (if j > i then j else i)))) := rfl
theorem oMin2_i : (oMin2 (.d (.int i)) (.d (.int j)) R) = (R (.d (.int (if j < i then j else i)))) := rfl
theorem oInt_i : (oInt (.d (.int i)) R) = (R (.d (.int i))) := rfl
theorem oInt_b : (oInt (.d (.bool b)) R) = (R (.d (.int (if b then 1 else 0)))) := rfl
theorem oTuple_t : (oTuple (.d (.tuple xs)) R) = (R (.d (.tuple xs))) := rfl
theorem oTuple_l : (oTuple (.d (.list xs)) R) = (R (.d (.tuple xs))) := rfl
theorem oTuple_o : (oTuple (.own xs) R) = (R (.d (.tuple xs))) := rfl
theorem oTuple_b : (oTuple (.bor xs) R) = (R (.d (.tuple xs))) := rfl
variable {o : List Int → (DV → Prop) → Prop}
theorem oInts_l : (oInts o (.d (.list xs)) R) = (match intsOf xs with | some ns => o ns R | none => False) := rfl
theorem oInts_o : (oInts o (.own xs) R) = (match intsOf xs with | some ns => o ns R | none => False) := rfl
theorem oInts_b : (oInts o (.bor xs) R) = (match intsOf xs with | some ns => o ns R | none => False) := rfl
theorem oIsi_d {T : String} : (oIsi (.d x) (.raw (.ty T)) R) = (T ∈ tys ∧ R (.d (.bool (isTy (x) T)))) := rfl
theorem oIsi_o {T : String} : (oIsi (.own xs) (.raw (.ty T)) R) = (T ∈ tys ∧ R (.d (.bool (isTy (.list xs) T)))) := rfl
theorem oIsi_b {T : String} : (oIsi (.bor xs) (.raw (.ty T)) R) = (T ∈ tys ∧ R (.d (.bool (isTy (.list xs) T)))) := rfl
variable {lo hi : Option Int}
theorem oSl_t : (oSl (.d (.tuple xs)) lo hi R) = (R (.d (.tuple (cutD xs lo hi)))) := rfl
theorem oSl_l : (oSl (.d (.list xs)) lo hi R) = (R (.own (cutD xs lo hi))) := rfl
theorem oSl_o : (oSl (.own xs) lo hi R) = (R (.own (cutD xs lo hi))) := rfl
theorem oSl_b : (oSl (.bor xs) lo hi R) = (R (.own (cutD xs lo hi))) := rfl
theorem oSl_s : (oSl (.scr ns) lo hi R) = (R (.own (cutD (ns.map .int) lo hi))) := rfl
theorem oBack_t : (oBack (.d (.tuple xs)) R) = (R (.d (.tuple xs.reverse))) := rfl
theorem oBack_l : (oBack (.d (.list xs)) R) = (R (.own xs.reverse)) := rfl
theorem oBack_o : (oBack (.own xs) R) = (R (.own xs.reverse)) := rfl
theorem oBack_b : (oBack (.bor xs) R) = (R (.own xs.reverse)) := rfl
end
theorem at0 {a : PyData} {l : List PyData} : atI (a :: l) 0 = some a := atI_nat (j := 0) rfl
theorem at1 {a b : PyData} {l : List PyData} : atI (a :: b :: l) 1 = some b := atI_nat (j := 1) rfl
theorem at2 {a b c : PyData} {l : List PyData} : atI (a :: b :: c :: l) 2 = some c := atI_nat (j := 2) rfl
theorem ixN_nat {n s : Nat} (h : s < n) : ixN n (s : Nat) = some s := by
  unfold ixN
  rw [if_pos (by omega), if_pos (by omega)]
  simp
theorem oI_T {f : Int → Int → Int} {i j : Int} {R : DV → Prop} : (oI (fun _ _ => True) f (.d (.int i)) (.d (.int j)) R) = (R (.d (.int (f i j)))) := by simp [oI]
section
variable {x y : PyData} {xs ys : List PyData} {i : Int} {b : Bool} {s t : Str} {kv : List (PyData × PyData)} {R : DV → Prop}
theorem oEq_ssf : (oEq false (.d (.str s)) (.d (.str t)) R) = (R (.d (.bool (PyData.eqv (.str s) (.str t))))) := rfl
theorem oEq_ndf : (oEq false (.d (.none)) (.d y) R) = (SeqAt.shaped (.none) = true ∧ SeqAt.shaped (y) = true ∧ R (.d (.bool (PyData.eqv (.none) (y))))) := rfl
theorem oEq_nof : (oEq false (.d (.none)) (.own ys) R) = (SeqAt.shaped (.none) = true ∧ SeqAt.shaped (.list ys) = true ∧ R (.d (.bool (PyData.eqv (.none) (.list ys))))) := rfl
theorem oEq_nrf : (oEq false (.d (.none)) (.bor ys) R) = (SeqAt.shaped (.none) = true ∧ SeqAt.shaped (.list ys) = true ∧ R (.d (.bool (PyData.eqv (.none) (.list ys))))) := rfl
theorem oEq_dnf : (oEq false (.d x) (.d (.none)) R) = (SeqAt.shaped (x) = true ∧ SeqAt.shaped (.none) = true ∧ R (.d (.bool (PyData.eqv (x) (.none))))) := by cases x <;> rfl
theorem oEq_bdf : (oEq false (.d (.bool b)) (.d y) R) = (SeqAt.shaped (.bool b) = true ∧ SeqAt.shaped (y) = true ∧ R (.d (.bool (PyData.eqv (.bool b) (y))))) := rfl
theorem oEq_bof : (oEq false (.d (.bool b)) (.own ys) R) = (SeqAt.shaped (.bool b) = true ∧ SeqAt.shaped (.list ys) = true ∧ R (.d (.bool (PyData.eqv (.bool b) (.list ys))))) := rfl
theorem oEq_brf : (oEq false (.d (.bool b)) (.bor ys) R) = (SeqAt.shaped (.bool b) = true ∧ SeqAt.shaped (.list ys) = true ∧ R (.d (.bool (PyData.eqv (.bool b) (.list ys))))) := rfl
theorem oEq_dbf : (oEq false (.d x) (.d (.bool b)) R) = (SeqAt.shaped (x) = true ∧ SeqAt.shaped (.bool b) = true ∧ R (.d (.bool (PyData.eqv (x) (.bool b))))) := by cases x <;> rfl
theorem oEq_idf : (oEq false (.d (.int i)) (.d y) R) = (SeqAt.shaped (.int i) = true ∧ SeqAt.shaped (y) = true ∧ R (.d (.bool (PyData.eqv (.int i) (y))))) := rfl
theorem oEq_iof : (oEq false (.d (.int i)) (.own ys) R) = (SeqAt.shaped (.int i) = true ∧ SeqAt.shaped (.list ys) = true ∧ R (.d (.bool (PyData.eqv (.int i) (.list ys))))) := rfl
theorem oEq_irf : (oEq false (.d (.int i)) (.bor ys) R) = (SeqAt.shaped (.int i) = true ∧ SeqAt.shaped (.list ys) = true ∧ R (.d (.bool (PyData.eqv (.int i) (.list ys))))) := rfl
theorem oEq_dif : (oEq false (.d x) (.d (.int i)) R) = (SeqAt.shaped (x) = true ∧ SeqAt.shaped (.int i) = true ∧ R (.d (.bool (PyData.eqv (x) (.int i))))) := by cases x <;> rfl
theorem oEq_ldf : (oEq false (.d (.list xs)) (.d y) R) = (SeqAt.shaped (.list xs) = true ∧ SeqAt.shaped (y) = true ∧ R (.d (.bool (PyData.eqv (.list xs) (y))))) := rfl
theorem oEq_lof : (oEq false (.d (.list xs)) (.own ys) R) = (SeqAt.shaped (.list xs) = true ∧ SeqAt.shaped (.list ys) = true ∧ R (.d (.bool (PyData.eqv (.list xs) (.list ys))))) := rfl
theorem oEq_lrf : (oEq false (.d (.list xs)) (.bor ys) R) = (SeqAt.shaped (.list xs) = true ∧ SeqAt.shaped (.list ys) = true ∧ R (.d (.bool (PyData.eqv (.list xs) (.list ys))))) := rfl
theorem oEq_dlf : (oEq false (.d x) (.d (.list xs)) R) = (SeqAt.shaped (x) = true ∧ SeqAt.shaped (.list xs) = true ∧ R (.d (.bool (PyData.eqv (x) (.list xs))))) := by cases x <;> rfl
theorem oEq_tdf : (oEq false (.d (.tuple xs)) (.d y) R) = (SeqAt.shaped (.tuple xs) = true ∧ SeqAt.shaped (y) = true ∧ R (.d (.bool (PyData.eqv (.tuple xs) (y))))) := rfl
theorem oEq_tof : (oEq false (.d (.tuple xs)) (.own ys) R) = (SeqAt.shaped (.tuple xs) = true ∧ SeqAt.shaped (.list ys) = true ∧ R (.d (.bool (PyData.eqv (.tuple xs) (.list ys))))) := rfl
theorem oEq_trf : (oEq false (.d (.tuple xs)) (.bor ys) R) = (SeqAt.shaped (.tuple xs) = true ∧ SeqAt.shaped (.list ys) = true ∧ R (.d (.bool (PyData.eqv (.tuple xs) (.list ys))))) := rfl
theorem oEq_dtf : (oEq false (.d x) (.d (.tuple xs)) R) = (SeqAt.shaped (x) = true ∧ SeqAt.shaped (.tuple xs) = true ∧ R (.d (.bool (PyData.eqv (x) (.tuple xs))))) := by cases x <;> rfl
theorem oEq_kdf : (oEq false (.d (.dict kv)) (.d y) R) = (SeqAt.shaped (.dict kv) = true ∧ SeqAt.shaped (y) = true ∧ R (.d (.bool (PyData.eqv (.dict kv) (y))))) := rfl
theorem oEq_kof : (oEq false (.d (.dict kv)) (.own ys) R) = (SeqAt.shaped (.dict kv) = true ∧ SeqAt.shaped (.list ys) = true ∧ R (.d (.bool (PyData.eqv (.dict kv) (.list ys))))) := rfl
theorem oEq_krf : (oEq false (.d (.dict kv)) (.bor ys) R) = (SeqAt.shaped (.dict kv) = true ∧ SeqAt.shaped (.list ys) = true ∧ R (.d (.bool (PyData.eqv (.dict kv) (.list ys))))) := rfl
theorem oEq_dkf : (oEq false (.d x) (.d (.dict kv)) R) = (SeqAt.shaped (x) = true ∧ SeqAt.shaped (.dict kv) = true ∧ R (.d (.bool (PyData.eqv (x) (.dict kv))))) := by cases x <;> rfl
theorem oEq_odf : (oEq false (.own xs) (.d y) R) = (SeqAt.shaped (.list xs) = true ∧ SeqAt.shaped (y) = true ∧ R (.d (.bool (PyData.eqv (.list xs) (y))))) := rfl
theorem oEq_oof : (oEq false (.own xs) (.own ys) R) = (SeqAt.shaped (.list xs) = true ∧ SeqAt.shaped (.list ys) = true ∧ R (.d (.bool (PyData.eqv (.list xs) (.list ys))))) := rfl
theorem oEq_orf : (oEq false (.own xs) (.bor ys) R) = (SeqAt.shaped (.list xs) = true ∧ SeqAt.shaped (.list ys) = true ∧ R (.d (.bool (PyData.eqv (.list xs) (.list ys))))) := rfl
theorem oEq_dof : (oEq false (.d x) (.own xs) R) = (SeqAt.shaped (x) = true ∧ SeqAt.shaped (.list xs) = true ∧ R (.d (.bool (PyData.eqv (x) (.list xs))))) := by cases x <;> rfl
theorem oEq_rdf : (oEq false (.bor xs) (.d y) R) = (SeqAt.shaped (.list xs) = true ∧ SeqAt.shaped (y) = true ∧ R (.d (.bool (PyData.eqv (.list xs) (y))))) := rfl
theorem oEq_rof : (oEq false (.bor xs) (.own ys) R) = (SeqAt.shaped (.list xs) = true ∧ SeqAt.shaped (.list ys) = true ∧ R (.d (.bool (PyData.eqv (.list xs) (.list ys))))) := rfl
theorem oEq_rrf : (oEq false (.bor xs) (.bor ys) R) = (SeqAt.shaped (.list xs) = true ∧ SeqAt.shaped (.list ys) = true ∧ R (.d (.bool (PyData.eqv (.list xs) (.list ys))))) := rfl
theorem oEq_drf : (oEq false (.d x) (.bor xs) R) = (SeqAt.shaped (x) = true ∧ SeqAt.shaped (.list xs) = true ∧ R (.d (.bool (PyData.eqv (x) (.list xs))))) := by cases x <;> rfl
theorem oEq_sst : (oEq true (.d (.str s)) (.d (.str t)) R) = (R (.d (.bool (!PyData.eqv (.str s) (.str t))))) := rfl
theorem oEq_ndt : (oEq true (.d (.none)) (.d y) R) = (SeqAt.shaped (.none) = true ∧ SeqAt.shaped (y) = true ∧ R (.d (.bool (!PyData.eqv (.none) (y))))) := rfl
theorem oEq_not : (oEq true (.d (.none)) (.own ys) R) = (SeqAt.shaped (.none) = true ∧ SeqAt.shaped (.list ys) = true ∧ R (.d (.bool (!PyData.eqv (.none) (.list ys))))) := rfl
theorem oEq_nrt : (oEq true (.d (.none)) (.bor ys) R) = (SeqAt.shaped (.none) = true ∧ SeqAt.shaped (.list ys) = true ∧ R (.d (.bool (!PyData.eqv (.none) (.list ys))))) := rfl
theorem oEq_dnt : (oEq true (.d x) (.d (.none)) R) = (SeqAt.shaped (x) = true ∧ SeqAt.shaped (.none) = true ∧ R (.d (.bool (!PyData.eqv (x) (.none))))) := by cases x <;> rfl
theorem oEq_bdt : (oEq true (.d (.bool b)) (.d y) R) = (SeqAt.shaped (.bool b) = true ∧ SeqAt.shaped (y) = true ∧ R (.d (.bool (!PyData.eqv (.bool b) (y))))) := rfl
theorem oEq_bot : (oEq true (.d (.bool b)) (.own ys) R) = (SeqAt.shaped (.bool b) = true ∧ SeqAt.shaped (.list ys) = true ∧ R (.d (.bool (!PyData.eqv (.bool b) (.list ys))))) := rfl
theorem oEq_brt : (oEq true (.d (.bool b)) (.bor ys) R) = (SeqAt.shaped (.bool b) = true ∧ SeqAt.shaped (.list ys) = true ∧ R (.d (.bool (!PyData.eqv (.bool b) (.list ys))))) := rfl
theorem oEq_dbt : (oEq true (.d x) (.d (.bool b)) R) = (SeqAt.shaped (x) = true ∧ SeqAt.shaped (.bool b) = true ∧ R (.d (.bool (!PyData.eqv (x) (.bool b))))) := by cases x <;> rfl
theorem oEq_idt : (oEq true (.d (.int i)) (.d y) R) = (SeqAt.shaped (.int i) = true ∧ SeqAt.shaped (y) = true ∧ R (.d (.bool (!PyData.eqv (.int i) (y))))) := rfl
theorem oEq_iot : (oEq true (.d (.int i)) (.own ys) R) = (SeqAt.shaped (.int i) = true ∧ SeqAt.shaped (.list ys) = true ∧ R (.d (.bool (!PyData.eqv (.int i) (.list ys))))) := rfl
theorem oEq_irt : (oEq true (.d (.int i)) (.bor ys) R) = (SeqAt.shaped (.int i) = true ∧ SeqAt.shaped (.list ys) = true ∧ R (.d (.bool (!PyData.eqv (.int i) (.list ys))))) := rfl
theorem oEq_dit : (oEq true (.d x) (.d (.int i)) R) = (SeqAt.shaped (x) = true ∧ SeqAt.shaped (.int i) = true ∧ R (.d (.bool (!PyData.eqv (x) (.int i))))) := by cases x <;> rfl
theorem oEq_ldt : (oEq true (.d (.list xs)) (.d y) R) = (SeqAt.shaped (.list xs) = true ∧ SeqAt.shaped (y) = true ∧ R (.d (.bool (!PyData.eqv (.list xs) (y))))) := rfl
theorem oEq_lot : (oEq true (.d (.list xs)) (.own ys) R) = (SeqAt.shaped (.list xs) = true ∧ SeqAt.shaped (.list ys) = true ∧ R (.d (.bool (!PyData.eqv (.list xs) (.list ys))))) := rfl
theorem oEq_lrt : (oEq true (.d (.list xs)) (.bor ys) R) = (SeqAt.shaped (.list xs) = true ∧ SeqAt.shaped (.list ys) = true ∧ R (.d (.bool (!PyData.eqv (.list xs) (.list ys))))) := rfl
theorem oEq_dlt : (oEq true (.d x) (.d (.list xs)) R) = (SeqAt.shaped (x) = true ∧ SeqAt.shaped (.list xs) = true ∧ R (.d (.bool (!PyData.eqv (x) (.list xs))))) := by cases x <;> rfl
theorem oEq_tdt : (oEq true (.d (.tuple xs)) (.d y) R) = (SeqAt.shaped (.tuple xs) = true ∧ SeqAt.shaped (y) = true ∧ R (.d (.bool (!PyData.eqv (.tuple xs) (y))))) := rfl
theorem oEq_tot : (oEq true (.d (.tuple xs)) (.own ys) R) = (SeqAt.shaped (.tuple xs) = true ∧ SeqAt.shaped (.list ys) = true ∧ R (.d (.bool (!PyData.eqv (.tuple xs) (.list ys))))) := rfl
theorem oEq_trt : (oEq true (.d (.tuple xs)) (.bor ys) R) = (SeqAt.shaped (.tuple xs) = true ∧ SeqAt.shaped (.list ys) = true ∧ R (.d (.bool (!PyData.eqv (.tuple xs) (.list ys))))) := rfl
theorem oEq_dtt : (oEq true (.d x) (.d (.tuple xs)) R) = (SeqAt.shaped (x) = true ∧ SeqAt.shaped (.tuple xs) = true ∧ R (.d (.bool (!PyData.eqv (x) (.tuple xs))))) := by cases x <;> rfl
theorem oEq_kdt : (oEq true (.d (.dict kv)) (.d y) R) = (SeqAt.shaped (.dict kv) = true ∧ SeqAt.shaped (y) = true ∧ R (.d (.bool (!PyData.eqv (.dict kv) (y))))) := rfl
theorem oEq_kot : (oEq true (.d (.dict kv)) (.own ys) R) = (SeqAt.shaped (.dict kv) = true ∧ SeqAt.shaped (.list ys) = true ∧ R (.d (.bool (!PyData.eqv (.dict kv) (.list ys))))) := rfl
theorem oEq_krt : (oEq true (.d (.dict kv)) (.bor ys) R) = (SeqAt.shaped (.dict kv) = true ∧ SeqAt.shaped (.list ys) = true ∧ R (.d (.bool (!PyData.eqv (.dict kv) (.list ys))))) := rfl
theorem oEq_dkt : (oEq true (.d x) (.d (.dict kv)) R) = (SeqAt.shaped (x) = true ∧ SeqAt.shaped (.dict kv) = true ∧ R (.d (.bool (!PyData.eqv (x) (.dict kv))))) := by cases x <;> rfl
theorem oEq_odt : (oEq true (.own xs) (.d y) R) = (SeqAt.shaped (.list xs) = true ∧ SeqAt.shaped (y) = true ∧ R (.d (.bool (!PyData.eqv (.list xs) (y))))) := rfl
theorem oEq_oot : (oEq true (.own xs) (.own ys) R) = (SeqAt.shaped (.list xs) = true ∧ SeqAt.shaped (.list ys) = true ∧ R (.d (.bool (!PyData.eqv (.list xs) (.list ys))))) := rfl
theorem oEq_ort : (oEq true (.own xs) (.bor ys) R) = (SeqAt.shaped (.list xs) = true ∧ SeqAt.shaped (.list ys) = true ∧ R (.d (.bool (!PyData.eqv (.list xs) (.list ys))))) := rfl
theorem oEq_dot : (oEq true (.d x) (.own xs) R) = (SeqAt.shaped (x) = true ∧ SeqAt.shaped (.list xs) = true ∧ R (.d (.bool (!PyData.eqv (x) (.list xs))))) := by cases x <;> rfl
theorem oEq_rdt : (oEq true (.bor xs) (.d y) R) = (SeqAt.shaped (.list xs) = true ∧ SeqAt.shaped (y) = true ∧ R (.d (.bool (!PyData.eqv (.list xs) (y))))) := rfl
theorem oEq_rot : (oEq true (.bor xs) (.own ys) R) = (SeqAt.shaped (.list xs) = true ∧ SeqAt.shaped (.list ys) = true ∧ R (.d (.bool (!PyData.eqv (.list xs) (.list ys))))) := rfl
theorem oEq_rrt : (oEq true (.bor xs) (.bor ys) R) = (SeqAt.shaped (.list xs) = true ∧ SeqAt.shaped (.list ys) = true ∧ R (.d (.bool (!PyData.eqv (.list xs) (.list ys))))) := rfl
theorem oEq_drt : (oEq true (.d x) (.bor xs) R) = (SeqAt.shaped (x) = true ∧ SeqAt.shaped (.list xs) = true ∧ R (.d (.bool (!PyData.eqv (x) (.list xs))))) := by cases x <;> rfl
end
end DL
namespace DL
open PySem PySem.Spec L2
mutual
def wid : PyData → Nat
  | .none => 4
  | .bool _ => 5
  | .int _ => 1922
  | .str x => (reprText x).length
  | .list xs => 4 + widAll xs
  | .tuple xs => 4 + widAll xs
  | .dict _ => 0
def widAll : List PyData → Nat
  | [] => 0
  | x :: xs => wid x + 2 + widAll xs
end
theorem listText_le : ∀ ts : List Str, (listText ts).length ≤ 4 + piled ts
  | [] => by
    have : (listText []).length = 2 := rfl
    omega
  | t :: r => by
    have h := textFrom_length_pos r 1 (("[" : Str) ++ (if (0 : Nat) > 0 then ", " else "" : String) ++ t) (Nat.succ_pos 0)
    have e : ((("[" : Str) ++ (if (0 : Nat) > 0 then ", " else "" : String) ++ t)).length = 1 + t.length := by
      rw [strLen_append, strLen_append]; rfl
    have hX : (listText (t :: r)).length = (textFrom 0 "[" (t :: r)).length + 1 := by
      show (textFrom 0 "[" (t :: r) ++ "]").length = _
      rw [strLen_append]; rfl
    have hY : (textFrom 0 "[" (t :: r)).length = (textFrom 1 (("[" : Str) ++ (if (0 : Nat) > 0 then ", " else "" : String) ++ t) r).length := rfl
    rw [hX, hY, h, e, piled_cons]
    omega
theorem tupleText_le (ts : List Str) : (tupleText ts).length ≤ 4 + piled ts := by
  unfold tupleText
  rw [strLen_append, strLen_append]
  have h1 : (Str.ofString "(").length = 1 := rfl
  have h2 : (Str.ofString (if ts.length == 1 then ",)" else ")")).length ≤ 2 := by split <;> decide
  by_cases h : ts = []
  · subst h
    have h3 : (Str.join ", " ([] : List Str)).length = 0 := rfl
    have := piled_nil
    omega
  · have := join_length_add ts h
    omega
mutual
theorem shown_le : ∀ d : PyData, d.hasDict = false → d.showable = true → d.shown.length ≤ wid d
  | .none, _, _ => by
    have : (PyData.shown .none).length = 4 := by simp only [PyData.shown]; rfl
    simp only [wid]; omega
  | .bool b, _, _ => by
    have : (PyData.shown (.bool b)).length ≤ 5 := by simp only [PyData.shown]; cases b <;> decide
    simp only [wid]; omega
  | .int i, _, h => by
    have h' : i.natAbs.log2 < 1920 := by simpa [PyData.showable] using h
    have e := int_text_length_le (k := 1920) (by decide) h'
    have : (PyData.shown (.int i)).length = (toString i).length := by simp only [PyData.shown]; exact ofString_length _
    simp only [wid]; omega
  | .str x, _, _ => by simp only [PyData.shown, wid]; exact Nat.le_refl _
  | .list xs, h1, h2 => by
    have := shownAll_le xs (by simpa [PyData.hasDict] using h1) (by simpa [PyData.showable] using h2)
    have := listText_le (PyData.shownAll xs)
    simp only [PyData.shown, wid]; omega
  | .tuple xs, h1, h2 => by
    have := shownAll_le xs (by simpa [PyData.hasDict] using h1) (by simpa [PyData.showable] using h2)
    have := tupleText_le (PyData.shownAll xs)
    simp only [PyData.shown, wid]; omega
  | .dict _, h, _ => by simp [PyData.hasDict] at h
theorem shownAll_le : ∀ xs : List PyData, PyData.hasDictAll xs = false → PyData.showableAll xs = true → piled (PyData.shownAll xs) ≤ widAll xs
  | [], _, _ => Nat.le_refl _
  | x :: xs, h1, h2 => by
    simp only [PyData.hasDictAll, Bool.or_eq_false_iff] at h1
    simp only [PyData.showableAll, Bool.and_eq_true] at h2
    have a := shown_le x h1.1 h2.1
    have b := shownAll_le xs h1.2 h2.2
    simp only [PyData.shownAll, piled_cons, widAll]
    omega
end
structure Sz (d : PyData) (dp wd : Nat) : Prop where
  nd : d.hasDict = false
  sh : d.showable = true
  de : d.depth ≤ dp
  wi : wid d ≤ wd
  ly : d.canLay0 = true
structure SzA (xs : List PyData) (dp wd : Nat) : Prop where
  nd : PyData.hasDictAll xs = false
  sh : PyData.showableAll xs = true
  de : PyData.depthAll xs ≤ dp
  wi : widAll xs ≤ xs.length * (wd + 2)
  ly : PyData.canLayAll0 xs = true
theorem szA {dp wd : Nat} : ∀ {xs : List PyData}, (∀ x ∈ xs, Sz x dp wd) → SzA xs dp wd
  | [], _ => ⟨rfl, rfl, Nat.zero_le _, by simp [widAll], rfl⟩
  | x :: xs, h => by
    have a := h x (by simp)
    have b := szA (xs := xs) fun y hy => h y (by simp [hy])
    refine ⟨by simp [PyData.hasDictAll, a.nd, b.nd], by simp [PyData.showableAll, a.sh, b.sh], ?_, ?_, by simp [PyData.canLayAll0, a.ly, b.ly]⟩
    · simp only [PyData.depthAll]
      have := a.de; have := b.de
      omega
    · have := a.wi; have := b.wi
      simp only [widAll, List.length_cons, Nat.succ_mul]
      omega
theorem Sz.int {i : Int} (h : i.natAbs.log2 < 1920) : Sz (.int i) 0 1922 := ⟨rfl, by simp [PyData.showable, h], Nat.le_refl _, Nat.le_refl _, rfl⟩
theorem log_lt {i : Int} (h : -(2 ^ 1900) ≤ i ∧ i ≤ 2 ^ 1900) : i.natAbs.log2 < 1920 := by
  have h1 : i.natAbs ≤ 2 ^ 1900 := by
    have e : ((2 ^ 1900 : Nat) : Int) = 2 ^ 1900 := by norm_cast
    omega
  by_cases h0 : i.natAbs = 0
  · rw [h0]; decide
  · have := (Nat.log2_lt h0 (k := 1901)).mpr (Nat.lt_of_le_of_lt h1 (Nat.pow_lt_pow_right (by decide) (by decide)))
    omega
theorem Sz.int' {i : Int} (h : -(2 ^ 100) ≤ i ∧ i ≤ 2 ^ 100) : Sz (.int i) 0 1922 := Sz.int (log_lt ⟨by
    have : (2 : Int) ^ 100 ≤ 2 ^ 1900 := by decide +kernel
    omega, by
    have : (2 : Int) ^ 100 ≤ 2 ^ 1900 := by decide +kernel
    omega⟩)
theorem Sz.mono {d : PyData} {a b a' b' : Nat} (h : Sz d a b) (ha : a ≤ a') (hb : b ≤ b') : Sz d a' b' := ⟨h.nd, h.sh, Nat.le_trans h.de ha, Nat.le_trans h.wi hb, h.ly⟩
theorem Sz.tup {xs : List PyData} {dp wd n : Nat} (h : ∀ x ∈ xs, Sz x dp wd) (hn : xs.length ≤ n) : Sz (.tuple xs) (dp + 1) (4 + n * (wd + 2)) := by
  have b := szA h
  have hm : xs.length * (wd + 2) ≤ n * (wd + 2) := Nat.mul_le_mul_right _ hn
  exact ⟨by simp [PyData.hasDict, b.nd], by simp [PyData.showable, b.sh], by simp only [PyData.depth]; have := b.de; omega, by simp only [wid]; have := b.wi; omega, by simp [PyData.canLay0, b.ly]⟩
theorem Sz.lst {xs : List PyData} {dp wd n : Nat} (h : ∀ x ∈ xs, Sz x dp wd) (hn : xs.length ≤ n) : Sz (.list xs) (dp + 1) (4 + n * (wd + 2)) := by
  have b := szA h
  have hm : xs.length * (wd + 2) ≤ n * (wd + 2) := Nat.mul_le_mul_right _ hn
  exact ⟨by simp [PyData.hasDict, b.nd], by simp [PyData.showable, b.sh], by simp only [PyData.depth]; have := b.de; omega, by simp only [wid]; have := b.wi; omega, by simp [PyData.canLay0, b.ly]⟩
theorem Sz.pair {x y : PyData} {dp wd : Nat} (hx : Sz x dp wd) (hy : Sz y dp wd) : Sz (.tuple [x, y]) (dp + 1) (4 + 2 * (wd + 2)) := Sz.tup (fun z hz => by
  rcases List.mem_cons.mp hz with rfl | hz
  · exact hx
  · rcases List.mem_cons.mp hz with rfl | hz
    · exact hy
    · cases hz) (by simp)
theorem Sz.shows {d : PyData} {dp wd : Nat} (h : Sz d dp wd) (h1 : dp ≤ 30) (h2 : wd ≤ 16000000) : Shows d := ⟨h.nd, h.sh, by
  have := shown_le d h.nd h.sh
  have := h.wi
  rw [sizeLine_eq]; omega, Nat.le_trans h.de h1⟩
theorem Sz.shaped {d : PyData} {dp wd : Nat} (h : Sz d dp wd) (h1 : dp ≤ 64 := by decide) : SeqAt.shaped d = true := by
  unfold SeqAt.shaped
  rw [h.ly, Bool.true_and]
  exact decide_eq_true (Nat.le_trans h.de h1)
theorem shaped_int (i : Int) : SeqAt.shaped (.int i) = true := by simp [SeqAt.shaped, PyData.canLay0, PyData.depth]
theorem any_ints (ns : List Int) (i : Int) : ((ns.map PyData.int).any fun z => PyData.eqv z (.int i)) = decide (i ∈ ns) := by
  induction ns with
  | nil => simp
  | cons n ns ih =>
    simp only [List.map_cons, List.any_cons, ih, PyData.eqv, List.mem_cons]
    by_cases h : n = i
    · subst h; simp
    · have h' : ¬ i = n := fun z => h z.symm
      simp [h, h']
theorem mem_range_int {n : Nat} {d : PyData} {lo : Int} : d ∈ rangeD lo n ↔ ∃ i : Nat, i < n ∧ d = .int (lo + (i : Nat)) := by
  unfold rangeD
  simp only [List.mem_map, List.mem_range]
  constructor
  · rintro ⟨i, h, rfl⟩; exact ⟨i, h, rfl⟩
  · rintro ⟨i, h, rfl⟩; exact ⟨i, h, rfl⟩
end DL
local macro_rules | `(tactic| walk_at "lim") => `(tactic| first | omega | (simp only [PySem.sizeLine_eq, List.length_reverse, List.length_append, List.length_map, List.length_cons, List.length_nil]; omega) | decide | decide +kernel)
namespace DL
open PySem PySem.Spec L2
theorem if_dec {p : Prop} [Decidable p] {A B : Prop} (h1 : p → A) (h2 : ¬ p → B) : (decide p = true → A) ∧ (decide p = false → B) := ⟨fun h => h1 (of_decide_eq_true h), fun h => h2 (of_decide_eq_false h)⟩
theorem for_ind {g : MG} {b : MS} {ex : XD} {E : DEnds} (I : List PyData → Env → Prop) (h0 : ∀ δ, I [] δ → E.nx δ)
    (hs : ∀ d ds δ (K : Env → Prop), I (d :: ds) δ → (∀ δ', I ds δ' → K δ') → g (.d d) δ fun δ' => b ex { nx := K, ct := K, bk := E.nx, rt := E.rt, ro := E.ro } δ') : ∀ ds δ, I ds δ → forRun g b ex E ds δ
  | [], δ, h => h0 δ h
  | d :: ds, δ, h => hs d ds δ _ h fun δ' h' => for_ind I h0 hs ds δ' h'
theorem for_at {g : MG} {b : MS} {ex : XD} {E : DEnds} {ds : List PyData} {δ : Env} (I : Nat → Env → Prop) (hi : I 0 δ) (h0 : ∀ δ, I ds.length δ → E.nx δ)
    (hs : ∀ k d δ (K : Env → Prop), ds[k]? = some d → I k δ → (∀ δ', I (k + 1) δ' → K δ') → g (.d d) δ fun δ' => b ex { nx := K, ct := K, bk := E.nx, rt := E.rt, ro := E.ro } δ') : forRun g b ex E ds δ := by
  refine for_ind (fun l δ => ∃ k, k ≤ ds.length ∧ l = ds.drop k ∧ I k δ) (fun δ ⟨k, hk, e, h⟩ => ?_) (fun d l δ K ⟨k, hk, e, h⟩ hK => ?_) ds δ ⟨0, Nat.zero_le _, rfl, hi⟩
  · have : ds.length ≤ k := by
      have := congrArg List.length e
      simp at this
      omega
    have hk' : k = ds.length := by omega
    subst hk'
    exact h0 δ h
  · have hlt : k < ds.length := by
      have := congrArg List.length e
      simp at this
      omega
    have hd : ds[k]? = some d := by
      have : (ds.drop k)[0]? = some d := by rw [← e]; rfl
      simpa using this
    refine hs k d δ K hd h fun δ' h' => hK δ' ⟨k + 1, hlt, ?_, h'⟩
    have := drop_cons hd
    rw [this] at e
    exact (List.cons.inj e).2
theorem for_range {g : MG} {b : MS} {ex : XD} {E : DEnds} {lo : Int} {n : Nat} {δ : Env} (I : Nat → Env → Prop) (hi : I 0 δ) (h0 : ∀ δ, I n δ → E.nx δ)
    (hs : ∀ k δ (K : Env → Prop), k < n → I k δ → (∀ δ', I (k + 1) δ' → K δ') → g (.d (.int (lo + (k : Nat)))) δ fun δ' => b ex { nx := K, ct := K, bk := E.nx, rt := E.rt, ro := E.ro } δ') : forRun g b ex E (rangeD lo n) δ := by
  refine for_at I hi (fun δ h => h0 δ (by rwa [rangeD_len] at h)) fun k d δ K hd h hK => ?_
  rw [rangeD_get] at hd
  split at hd
  · rename_i hk
    cases hd
    exact hs k δ K hk h hK
  · cases hd
theorem for_down {g : MG} {b : MS} {ex : XD} {E : DEnds} {lo : Int} {n : Nat} {δ : Env} (I : Nat → Env → Prop) (hi : I 0 δ) (h0 : ∀ δ, I n δ → E.nx δ)
    (hs : ∀ k δ (K : Env → Prop), k < n → I k δ → (∀ δ', I (k + 1) δ' → K δ') → g (.d (.int (lo - (k : Nat)))) δ fun δ' => b ex { nx := K, ct := K, bk := E.nx, rt := E.rt, ro := E.ro } δ') : forRun g b ex E (downD lo n) δ := by
  refine for_at I hi (fun δ h => h0 δ (by rwa [downD_len] at h)) fun k d δ K hd h hK => ?_
  rw [downD_get] at hd
  split at hd
  · rename_i hk
    cases hd
    exact hs k δ K hk h hK
  · cases hd
theorem lc_ind {g : MG} {tt : MT} {te : ME} {δ : Env} {R : DV → Prop} (out : PyData → Option PyData) : ∀ (ds acc : List PyData),
    (∀ d ∈ ds, ∀ (K1 : PyData → Prop) (K0 : Prop), (∀ z, out d = some z → K1 z) → (out d = none → K0) → g (.d d) δ fun δ' => tt ex0 δ' fun c => (c = true → te ex0 δ' fun y => match y.val with
      | some z => K1 z
      | none => False) ∧ (c = false → K0)) → acc.length + ds.length ≤ sizeLine → R (.own (acc ++ ds.filterMap out)) → lcRun g tt te δ R ds acc
  | [], acc, _, _, h => by
    unfold lcRun
    simpa using h
  | d :: ds, acc, hs, hz, h => by
    unfold lcRun
    rw [List.length_cons] at hz
    refine hs d (by simp) (fun z => acc.length < sizeLine ∧ lcRun g tt te δ R ds (acc ++ [z])) (lcRun g tt te δ R ds acc) (fun z e => ⟨by omega, ?_⟩) fun e => ?_
    · refine lc_ind out ds (acc ++ [z]) (fun d' hd' => hs d' (by simp [hd'])) (by simp; omega) ?_
      simpa [List.filterMap_cons, e] using h
    · refine lc_ind out ds acc (fun d' hd' => hs d' (by simp [hd'])) (by omega) ?_
      simpa [List.filterMap_cons, e] using h
end DL
namespace DL
open PySem PySem.Spec L2
abbrev SRow := List (Int × Int)
def stD (p : Int × Int) : PyData := .tuple [.int p.1, .int p.2]
def rowD (l : SRow) : PyData := .tuple (l.map stD)
def pl (l : SRow) (i : Nat) : Int := (l.getD i (0, 0)).1
def ht (l : SRow) (i : Nat) : Int := (l.getD i (0, 0)).2
theorem atI_row {l : SRow} {i : Int} (k : Nat) (h : i = (k : Nat)) (hk : k < l.length) : atI (l.map stD) i = some (.tuple [.int (pl l k), .int (ht l k)]) := by
  subst h
  refine atI_nat ?_
  rw [List.getElem?_map, List.getElem?_eq_getElem hk]
  unfold pl ht
  rw [List.getD_eq_getElem?_getD, List.getElem?_eq_getElem hk]
  rfl
theorem atI_map {α : Type} {f : α → PyData} {l : List α} {i : Int} (k : Nat) {x : α} (h : i = (k : Nat)) (hx : l[k]? = some x) : atI (l.map f) i = some (f x) := by
  subst h
  refine atI_nat ?_
  rw [List.getElem?_map, hx]
  rfl
theorem atI_end {α : Type} {f : α → PyData} {l : List α} {x : α} (hx : l[l.length - 1]? = some x) : atI (l.map f) (-1) = some (f x) := by
  have h0 : l.length - 1 < l.length := (List.getElem?_eq_some_iff.mp hx).1
  unfold atI ixN
  rw [if_neg (by decide), if_pos (by rw [List.length_map]; omega)]
  show (l.map f)[((-1 : Int) + ((l.map f).length : Nat)).toNat]? = _
  have e : ((-1 : Int) + ((l.map f).length : Nat)).toNat = l.length - 1 := by rw [List.length_map]; omega
  rw [e, List.getElem?_map, hx]
  rfl
structure Inc (l : SRow) : Prop where
  n0 : 0 < l.length
  n1 : l.length ≤ 1000
  inc : ∀ i j, i < j → j < l.length → pl l i < pl l j
  hp : ∀ i, i < l.length → 0 ≤ ht l i
structure IsEnd (l : SRow) (s m : Nat) : Prop where
  le : s ≤ m
  lt : m < l.length
  ch : ∀ j, s < j → j ≤ m → ∃ k, s ≤ k ∧ k < j ∧ pl l j ≤ pl l k + ht l k
  st : m + 1 < l.length → ∀ k, s ≤ k → k ≤ m → pl l k + ht l k < pl l (m + 1)
theorem IsEnd.uniq {l : SRow} {s m k : Nat} (h1 : IsEnd l s m) (h2 : IsEnd l s k) : m = k := by
  rcases Nat.lt_trichotomy m k with h | h | h
  · obtain ⟨j, a, b, c⟩ := h2.ch (m + 1) (by have := h1.le; omega) (by omega)
    have := h1.st (by have := h2.lt; omega) j a (by omega)
    omega
  · exact h
  · obtain ⟨j, a, b, c⟩ := h1.ch (k + 1) (by have := h2.le; omega) (by omega)
    have := h2.st (by have := h1.lt; omega) j a (by omega)
    omega
structure Seek (l : SRow) (s m : Nat) : Prop where
  le : s ≤ m
  lt : m < l.length
  ch : ∀ j, s < j → j ≤ m → ∃ k, s ≤ k ∧ k < j ∧ pl l j ≤ pl l k + ht l k
  st : m + 1 < l.length → ∀ k, s < k → k ≤ m → pl l k + ht l k < pl l (m + 1)
theorem Seek.start {l : SRow} {s : Nat} (h : s < l.length) : Seek l s s := ⟨Nat.le_refl _, h, fun j a b => by omega, fun _ k a b => by omega⟩
theorem Seek.step {l : SRow} (I : Inc l) {s m e : Nat} (h : Seek l s m) (hr : pl l (m + 1) ≤ pl l s + ht l s) (he : IsEnd l (m + 1) e) : Seek l s e := by
  refine ⟨by have := h.le; have := he.le; omega, he.lt, fun j a b => ?_, fun hn k a b => ?_⟩
  · rcases Nat.lt_trichotomy j (m + 1) with q | q | q
    · exact h.ch j a (by omega)
    · exact ⟨s, Nat.le_refl _, a, by rw [q]; exact hr⟩
    · obtain ⟨k, x, y, z⟩ := he.ch j q b
      exact ⟨k, by have := h.le; omega, y, z⟩
  · rcases Nat.lt_or_ge m k with q | q
    · exact he.st hn k (by omega) b
    · have h1 := h.st (by have := he.le; omega) k a q
      have h2 : pl l (m + 1) < pl l (e + 1) := I.inc _ _ (by have := he.le; omega) hn
      omega
theorem Seek.done {l : SRow} {s m : Nat} (h : Seek l s m) (hs : m + 1 < l.length → pl l s + ht l s < pl l (m + 1)) : IsEnd l s m :=
  ⟨h.le, h.lt, h.ch, fun hn k a b => by
    rcases Nat.lt_or_ge s k with q | q
    · exact h.st hn k q b
    · have : k = s := by omega
      rw [this]; exact hs hn⟩
structure AllEnds (l : SRow) (fs : List Nat) : Prop where
  len : fs.length = l.length
  at_ : ∀ s m, fs[s]? = some m → IsEnd l s m
def natD (n : Nat) : PyData := .int (n : Nat)
theorem seek_end {l : SRow} (I : Inc l) {s : Nat} (ih : ∀ t, s < t → t < l.length → ∃ e, IsEnd l t e) : ∀ (d m : Nat), l.length - m ≤ d → Seek l s m → ∃ e, IsEnd l s e
  | 0, m, hd, h => by have := h.lt; omega
  | d + 1, m, hd, h => by
    have hm := h.lt
    have hle := h.le
    by_cases c : m + 1 < l.length ∧ pl l (m + 1) ≤ pl l s + ht l s
    · obtain ⟨e, he⟩ := ih (m + 1) (by omega) c.1
      exact seek_end I ih d e (by have := he.le; omega) (h.step I c.2 he)
    · exact ⟨m, h.done fun hn => by
        rcases Int.lt_or_le (pl l s + ht l s) (pl l (m + 1)) with q | q
        · exact q
        · exact absurd ⟨hn, q⟩ c⟩
theorem end_ex {l : SRow} (I : Inc l) : ∀ (d s : Nat), l.length - s ≤ d → s < l.length → ∃ e, IsEnd l s e
  | 0, s, hd, h => by omega
  | d + 1, s, hd, h => seek_end I (fun t h1 h2 => end_ex I d t (by omega) h2) _ s (Nat.le_refl _) (Seek.start h)
open Classical in
noncomputable def endOf (l : SRow) (s : Nat) : Nat := if h : ∃ e, IsEnd l s e then h.choose else 0
theorem endOf_ok {l : SRow} (I : Inc l) {s : Nat} (h : s < l.length) : IsEnd l s (endOf l s) := by
  have hx := end_ex I _ s (Nat.le_refl _) h
  unfold endOf
  rw [dif_pos hx]
  exact hx.choose_spec
noncomputable def ends (l : SRow) : List Nat := (List.range l.length).map (endOf l)
theorem ends_len {l : SRow} : (ends l).length = l.length := by unfold ends; simp
theorem ends_get {l : SRow} {s : Nat} (h : s < l.length) : (ends l)[s]? = some (endOf l s) := by
  unfold ends
  rw [List.getElem?_map, List.getElem?_range h]
  rfl
theorem AllEnds.eq {l : SRow} {fs : List Nat} (I : Inc l) (h : AllEnds l fs) : fs = ends l := by
  apply List.ext_getElem?
  intro s
  rcases Nat.lt_or_ge s l.length with q | q
  · have e := List.getElem?_eq_getElem (l := fs) (i := s) (by rw [h.len]; exact q)
    rw [ends_get q, e, (h.at_ s _ e).uniq (endOf_ok I q)]
  · rw [List.getElem?_eq_none (by rw [h.len]; exact q), List.getElem?_eq_none (by rw [ends_len]; exact q)]
def mirror (l : SRow) : SRow := l.reverse.map fun p => (pl l 0 + pl l (l.length - 1) - p.1, p.2)
theorem mirror_len (l : SRow) : (mirror l).length = l.length := by unfold mirror; simp
theorem mirror_get {l : SRow} {i : Nat} (h : i < l.length) : (mirror l)[i]? = some (pl l 0 + pl l (l.length - 1) - pl l (l.length - 1 - i), ht l (l.length - 1 - i)) := by
  unfold mirror
  have h2 : l.length - 1 - i < l.length := by omega
  rw [List.getElem?_map, List.getElem?_reverse h, List.getElem?_eq_getElem h2]
  unfold pl ht
  rw [List.getD_eq_getElem?_getD (i := l.length - 1 - i), List.getElem?_eq_getElem h2]
  rfl
theorem mirror_pl {l : SRow} {i : Nat} (h : i < l.length) : pl (mirror l) i = pl l 0 + pl l (l.length - 1) - pl l (l.length - 1 - i) := by
  show ((mirror l).getD i (0, 0)).1 = _
  rw [List.getD_eq_getElem?_getD, mirror_get h]
  rfl
theorem mirror_ht {l : SRow} {i : Nat} (h : i < l.length) : ht (mirror l) i = ht l (l.length - 1 - i) := by
  show ((mirror l).getD i (0, 0)).2 = _
  rw [List.getD_eq_getElem?_getD, mirror_get h]
  rfl
theorem Inc.mirror {l : SRow} (I : Inc l) : Inc (mirror l) := by
  have hn0 := I.n0
  refine ⟨by rw [mirror_len]; exact I.n0, by rw [mirror_len]; exact I.n1, fun i j hij hj => ?_, fun i hi => ?_⟩
  · rw [mirror_len] at hj
    rw [mirror_pl (by omega), mirror_pl hj]
    have := I.inc (l.length - 1 - j) (l.length - 1 - i) (by omega) (by omega)
    omega
  · rw [mirror_len] at hi
    rw [mirror_ht hi]
    exact I.hp _ (by omega)
structure IsStart (l : SRow) (s m : Nat) : Prop where
  le : m ≤ s
  lt : s < l.length
  ch : ∀ j, m ≤ j → j < s → ∃ k, j < k ∧ k ≤ s ∧ pl l k - ht l k ≤ pl l j
  st : 0 < m → ∀ k, m ≤ k → k ≤ s → pl l (m - 1) < pl l k - ht l k
theorem IsStart.of {l : SRow} {s e : Nat} (hs : s < l.length) (h : IsEnd (mirror l) (l.length - 1 - s) e) : IsStart l s (l.length - 1 - e) := by
  have h1 := h.le
  have h2 := h.lt
  rw [mirror_len] at h2
  refine ⟨by omega, hs, fun j a b => ?_, fun hm k a b => ?_⟩
  · obtain ⟨k, x, y, z⟩ := h.ch (l.length - 1 - j) (by omega) (by omega)
    rw [mirror_pl (by omega), mirror_pl (by omega), mirror_ht (by omega)] at z
    refine ⟨l.length - 1 - k, by omega, by omega, ?_⟩
    have e1 : l.length - 1 - (l.length - 1 - j) = j := by omega
    rw [e1] at z
    omega
  · have := h.st (by rw [mirror_len]; omega) (l.length - 1 - k) (by omega) (by omega)
    rw [mirror_pl (by omega), mirror_pl (by omega), mirror_ht (by omega)] at this
    have e1 : l.length - 1 - (l.length - 1 - k) = k := by omega
    have e2 : l.length - 1 - (e + 1) = l.length - 1 - e - 1 := by omega
    rw [e1, e2] at this
    omega
noncomputable def startOf (l : SRow) (s : Nat) : Nat := l.length - 1 - endOf (mirror l) (l.length - 1 - s)
theorem startOf_ok {l : SRow} (I : Inc l) {s : Nat} (h : s < l.length) : IsStart l s (startOf l s) := by
  have hn := I.n0
  exact IsStart.of h (endOf_ok I.mirror (by rw [mirror_len]; omega))
def Hit (l : SRow) (rt : Bool) (k j : Nat) : Prop := if rt then pl l k < pl l j ∧ pl l j ≤ pl l k + ht l k else pl l k - ht l k ≤ pl l j ∧ pl l j < pl l k
def Falls (l : SRow) (rt : Bool) (s lo hi : Nat) : Prop := if rt then lo = s ∧ IsEnd l s hi else hi = s ∧ IsStart l s lo
theorem Inc.lt_of {l : SRow} (I : Inc l) {i j : Nat} (hi : i < l.length) (hj : j < l.length) (h : pl l i < pl l j) : i < j := by
  rcases Nat.lt_trichotomy i j with q | q | q
  · exact q
  · subst q; omega
  · have := I.inc _ _ q hi; omega
theorem Falls.bd {l : SRow} {rt : Bool} {s lo hi : Nat} (h : Falls l rt s lo hi) : lo ≤ s ∧ s ≤ hi ∧ hi < l.length := by
  unfold Falls at h
  cases rt with
  | true => rw [if_pos rfl] at h; obtain ⟨rfl, h⟩ := h; exact ⟨Nat.le_refl _, h.le, h.lt⟩
  | false => rw [if_neg (by decide)] at h; obtain ⟨rfl, h⟩ := h; exact ⟨h.le, Nat.le_refl _, h.lt⟩
theorem Falls.hit {l : SRow} (I : Inc l) {rt : Bool} {s lo hi k j : Nat} (h : Falls l rt s lo hi) (h1 : lo ≤ k) (h2 : k ≤ hi) (hj : j < l.length) (hh : Hit l rt k j) : lo ≤ j ∧ j ≤ hi := by
  have hb := h.bd
  unfold Falls at h
  unfold Hit at hh
  cases rt with
  | true =>
    rw [if_pos rfl] at h hh
    obtain ⟨rfl, h⟩ := h
    have hkj := I.lt_of (by omega) hj hh.1
    refine ⟨by omega, ?_⟩
    rcases Nat.lt_or_ge hi j with q | q
    · have h3 := h.st (by omega) k h1 h2
      rcases Nat.lt_or_ge (hi + 1) j with q' | q'
      · have := I.inc _ _ q' hj; omega
      · have : j = hi + 1 := by omega
        subst this; omega
    · exact q
  | false =>
    rw [if_neg (by decide)] at h hh
    obtain ⟨rfl, h⟩ := h
    have hkj := I.lt_of hj (by omega) hh.2
    refine ⟨?_, by omega⟩
    rcases Nat.lt_or_ge j lo with q | q
    · have h3 := h.st (by omega) k h1 h2
      rcases Nat.lt_or_ge j (lo - 1) with q' | q'
      · have := I.inc _ _ q' (by omega); omega
      · have : j = lo - 1 := by omega
        subst this; omega
    · exact q
theorem Falls.all {l : SRow} (I : Inc l) {rt : Bool} {s lo hi : Nat} (h : Falls l rt s lo hi) (P : Nat → Prop) (hs : P s) (hc : ∀ k, lo ≤ k → k ≤ hi → P k → ∀ j, j < l.length → Hit l rt k j → P j) : ∀ j, lo ≤ j → j ≤ hi → P j := by
  have hb := h.bd
  unfold Falls at h
  cases rt with
  | true =>
    rw [if_pos rfl] at h
    obtain ⟨rfl, h⟩ := h
    intro j
    induction j using Nat.strongRecOn with
    | _ j ih =>
      intro h1 h2
      rcases Nat.lt_or_ge lo j with q | q
      · obtain ⟨k, a, b, c⟩ := h.ch j q h2
        refine hc k a (by omega) (ih k b a (by omega)) j (by omega) ?_
        unfold Hit
        rw [if_pos rfl]
        exact ⟨I.inc _ _ b (by omega), c⟩
      · have : j = lo := by omega
        subst this; exact hs
  | false =>
    rw [if_neg (by decide)] at h
    obtain ⟨rfl, h⟩ := h
    have key : ∀ d j, hi - j ≤ d → lo ≤ j → j ≤ hi → P j := by
      intro d
      induction d with
      | zero => intro j h0 h1 h2; have : j = hi := by omega
                subst this; exact hs
      | succ d ih =>
        intro j h0 h1 h2
        rcases Nat.lt_or_ge j hi with q | q
        · obtain ⟨k, a, b, c⟩ := h.ch j h1 q
          refine hc k (by omega) b (ih k (by omega) (by omega) b) j (by omega) ?_
          unfold Hit
          rw [if_neg (by decide)]
          exact ⟨c, I.inc _ _ a (by omega)⟩
        · have : j = hi := by omega
          subst this; exact hs
    exact fun j h1 h2 => key _ j (Nat.le_refl _) h1 h2
end DL
namespace PySem.W
open PySem PySem.Spec PySem.Calls PyProof.Rows
structure EClass (K : Frag) (D : Addr) : Prop where
  e1 : findIn K (.ref D) "__getattribute__" = some (some (.builtin "BaseException.__getattribute__"))
  e2 : findIn K (.ref D) "__getattr__" = some none
  e3 : subIn K (.ref D) (.type "BaseException") = some true
  e4 : hasDictIn K D = true
  e5 : findIn K (.ref D) "__class__" = some (some (.builtin "object.__class__"))
  e6 : specialIn K (.builtin "object.__class__") "__get__" = some (some (.builtin "getset_descriptor.__get__"))
  e7 : takesIn K (.builtin "object.__class__") = some true
  e8 : mroIn K D (.type "object") = some true
theorem EClass.isc {K : Frag} {D : Addr} (T : EClass K D) : (clsIn K D).isSome = true := by
  obtain ⟨cd, hc, _⟩ := any_some T.e4
  rw [hc]; rfl
theorem EClass.found {K : Frag} {D : Addr} (T : EClass K D) (od : Option Obj) : findObj K D od "__class__" = some (.bind (.builtin "getset_descriptor.__get__") (.builtin "object.__class__")) := by
  obtain ⟨cd, q⟩ := Option.isSome_iff_exists.mp T.isc
  unfold findObj
  rw [q, Option.bind_some, T.e5, Option.bind_some]
  simp [T.e6, T.e7]
theorem EClass.ask {K : Frag} {D x : Addr} {o : Obj} {od : Option Obj} {prog : Program} {w : World} {A : Around} {E : Value → Shared → Prop} {s : Shared} {Q : Option Value → Shared → Prop} (T : EClass K D) (X : K.In s.heap) (I : InstAt s.heap x o D od)
    (h : Q (some (.ref D)) { s with toks := s.toks + 1 }) : wpAny (model prog w) A (getAttr? (.ref x) "__class__") Q E s := by
  have fnd := T.found od
  obtain ⟨hp, gg, dr, tk, os⟩ := s
  have k0 := I.type (M := model prog w)
  have k1 := looks_findIn (M := model prog w) X T.e1
  have k2 := looks_findIn (M := model prog w) X T.e2
  have k3 := looks_find (M := model prog w) X I fnd
  have sb : Looks (model prog w) hp (isInstance (.ref x) (.type "BaseException")) true := k0.andThen (looks_subIn X T.e3)
  have n1 : (Value.builtin "BaseException.__getattribute__" == Value.builtin "object.__getattribute__") = false := by decide +kernel
  have n2 : (onTheHeap (Value.ref D) && Value.builtin "BaseException.__getattribute__" == Value.builtin "object.__getattribute__") = false := by rw [n1]; rfl
  have n3 : (false && onTheHeap (Value.builtin "BaseException.__getattribute__")) = false := rfl
  unfold getAttr? getAttrBy? getAttrBy
  refine wpAny_bind (wpAny_mkText (wpAny_bind (wpAny_attempt (wpAny_holding (wpAny_bind (k0.at (wpAny_bind (k1.at ?_))))))))
  show wpAny _ _ (if (onTheHeap (Value.ref D) && Value.builtin "BaseException.__getattribute__" == Value.builtin "object.__getattribute__") = true then _ else _) _ _ _
  rw [n2]; rw [if_neg Bool.false_ne_true]
  unfold getAttrByItsOwn hookBefore
  apply wpAny_bind
  rw [if_pos (show (onTheHeap (Value.ref D) = true) from rfl)]
  refine k2.at (wpAny_bind (wpAny_attempt (wpAny_holding ?_)))
  unfold callGetattribute
  rw [n3]; rw [if_neg Bool.false_ne_true]
  unfold boundAndCalled
  rw [PySem.F.excAttr_ValueError.ga.bind (.ref x)]
  apply wpAny_bind; apply wpAny_pure
  show wpAny _ _ (call (.builtin "BaseException.__getattribute__") [.ref x, .str "__class__" tk]) _ _ _
  refine wpAny_call (codeAny_call_builtin PySem.F.excAttr_ValueError.ga.plain PySem.F.entry_bexc_ga ?_)
  refine @check_slot (model prog w) _ _ ⟨hp, gg, dr, tk + 1, os⟩ "BaseException.__getattribute__" "BaseException" "__getattribute__" (.ref x) [.str "__class__" tk] [] _ (by decide +kernel) (by decide +kernel) sb (PySem.F.args_bexc_ga (.ref x) (.str "__class__" tk)) ?_
  unfold Builtin.«object.__getattribute__»
  refine wpAny_bind (wpAny_of_eq (a := ((Value.ref x : Value), [Value.str "__class__" tk])) (by first | rfl | (simp only [slotArgs]; rfl)) ?_)
  refine wpAny_bind (wpAny_pure (wpAny_bind (k0.at (wpAny_bind (k3.at ?_)))))
  show wpAny _ _ (holding [Value.builtin "object.__class__"] (call (.builtin "getset_descriptor.__get__") [.builtin "object.__class__", .ref x, .ref D]) >>= ret) _ _ _
  refine wpAny_bind (wpAny_holding (wpAny_call (class_get (s := ⟨hp, gg, dr, tk + 1, os⟩) (ox := o) (od := od) X I T.e8 ?_)))
  apply wpAny_pure
  show wpAny _ _ (handedOut (.ref D)) _ _ _
  rw [handedOut_of (v := Value.ref D) rfl]
  first
    | exact wpAny_pure (wpAny_pure h)
    | exact wpAny_pure h
    | exact wpAny_pure (wpAny_bind (wpAny_pure (wpAny_pure h)))
end PySem.W
namespace DL
open PySem PySem.Spec L2 PySem.W
def clsA (mg : Str → Option Value) (x : Str) : Addr := match mg x with
  | some (.ref C) => C
  | _ => 0
theorem clsA_of {mg : Str → Option Value} {x : Str} {C : Addr} (h : mg x = some (.ref C)) : clsA mg x = C := by
  unfold clsA
  rw [h]
def AllS (p : Str → Prop) : List Str → Prop
  | [] => True
  | x :: xs => p x ∧ AllS p xs
theorem AllS.get {p : Str → Prop} : ∀ {l : List Str} {x : Str}, AllS p l → x ∈ l → p x
  | [], _, _, h => by cases h
  | y :: ys, x, h, hm => by
    rcases List.mem_cons.mp hm with rfl | q
    · exact h.1
    · exact AllS.get h.2 q
structure XTab (K : Frag) (mg : Str → Option Value) (L M fs : List Str) (sub : Str → Str → Bool) : Prop where
  ml : AllS (fun x => mg x = some (.ref (clsA mg x))) L
  mm : AllS (fun y => mg y = some (.ref (clsA mg y))) M
  ec : AllS (fun x => EClass K (clsA mg x)) L
  no : AllS (fun x => AllS (fun f => findIn K (.ref (clsA mg x)) f = some none) fs) L
  kt : AllS (fun x => AllS (fun y => kitOne K (.ref (clsA mg x)) (.ref (clsA mg y)) = some (sub x y)) M) L
  kv : AllS (fun x => kitOne K (.ref (clsA mg x)) (.type "ValueError") = some true) L
section
variable {u u1 u2 : Nat} {X : Cx} {W : WC} {a C : Addr} {oe : Obj} {d : Option Addr} {pn : List (Addr × Obj)} {e : Expr} {es : List Expr} {me : ME} {mas : MA} {pos p p2 tpos : Pos} {k : Nat}
  {K' : Frag} {mg' : Str → Option Value} {L M fs Y : List Str} {sub : Str → Str → Bool}
structure DCl (X : Cx) (es : List Expr) (ys : List Str) : Prop where
  pa : PA X es fun _ H Q => Q (ys.map fun y => V.ref (clsA X.mg y)) H
def spInit (K : Frag) (C : Addr) (f : Str) : Sp := fun vs H Q _ => ∃ a y, vs = [.ref a, y] ∧ H a = some (exo a C none) ∧ ∀ dx, H dx = none → dx ≠ a → Q .non (upd (upd H dx (exd dx [(f, y)])) a (exo a C (some dx)))
theorem init_read {K : Frag} {C : Addr} {N : List Str} {f : Str} {vs : List V} {H : Hp} {Q : VK} {E : XK} (hO : OexC K C) (hno : findIn K (.ref C) f = some none) (hN : N.length = 2) (h : spInit K C f vs H Q E) : tOst K f (tVar 0) (tVar 1) { nx := fun _ H' => Q .non H', rt := Q } (L2.start N vs) H := by
  obtain ⟨a, y, rfl, ha, hQ⟩ := h
  exact ⟨y, rfl, .ref a, rfl, a, C, rfl, hO, hno, .inl ⟨ha, fun dx n ne => hQ dx n ne⟩⟩
structure XMk (P : Program) (w : World) (K : Frag) (mg : Str → Option Value) (base : Heap) (x f : Str) : Prop where
  ex : ∃ C fI fd ps, mg x = some (.ref C) ∧ OexC K C ∧ findIn K (.ref C) "__init__" = some (some (.ref fI)) ∧ typeIn K (.ref fI) = some (.type "function") ∧ FnOk P w K mg base L2.CX0 1 fI fd ps (spInit K C f) ∧ Binds K fd ps []
def mRaise1 (x f : Str) (t : MA) : MS := fun ex E δ => t ex δ fun xs => match argsD xs with
  | some [.d y] => ex ⟨x, some (f, y)⟩ δ
  | _ => False
theorem ds_raise1 {x f : Str} (c : Ctx X W k) (M : XMk X.prog X.w X.K X.mg X.base x f) (hk : 2 ≤ k) (hc : X.calm = true) (hg : Gl X x) (ha : DA X W [e] mas u) (hdb : (x == ("__debug__" : Str)) = false := by decide)
    (he : starEach [e] X.env = (false, eval e X.env) :: starEach [] X.env := by rfl) (hpl : (backTo pos (starEach [] X.env)).any (·.1) = false := by rfl) : DS X W (.Raise (some (.Call (.Name x p) [e] [] pos)) none p2) (mRaise1 x f mas) u := by
  obtain ⟨C, fI, fd, ps, hm, hO, iC, tI, F1, hb⟩ := M.ex
  refine ⟨PS.imp (ps_raise hc c.tk (pmk_oex hO iC tI F1 (c.hr.mono hk) hb .nil L2.pass0 hg hm ha.pa hdb he hpl)) ?_⟩
  rintro D σ H ⟨ex, G, F, δ, τ, ts, E, n, nb, eo, m⟩
  refine ⟨ex, G, F, δ, τ, ts, [], [], _, n, m, fun xs hxs vs F1 H1 hl g1 => ?_⟩
  split at hxs
  · rename_i y ea
    obtain ⟨F2, s2, g2⟩ := fix_args xs g1 ea
    have hlen := (argsD_arg ea).1
    have hl1 : [DV.d y].length = vs.length := hlen.trans hl
    obtain ⟨v, rfl, hv, g3⟩ := one_of hl1 g2
    have hat : At G.K F2 v y := hv
    refine ⟨by show 1 ≤ 1000; decide, fun a na => ⟨a, v, rfl, upd_same, fun dx ndx ne => ⟨rfl, dx, [(f, v)], upd_same, by rw [upd_ne ne]; exact upd_same, by rw [upd_ne ne] at ndx; exact ndx, ?_⟩⟩⟩
    rw [upd_ne ne] at ndx
    have eH : upd (del (upd (upd (upd H1 a (exo a C none)) dx (exd dx [(f, v)])) a (exo a C (some dx))) a) dx (.xd [(f, v)]) = upd H1 dx (.xd [(f, v)]) := by
      funext b
      by_cases hbd : b = dx
      · rw [hbd, upd_same, upd_same]
      · rw [upd_ne hbd, upd_ne hbd]
        by_cases hba : b = a
        · rw [hba, del_same, na]
        · rw [del_ne hba, upd_ne hba, upd_ne hbd, upd_ne hba]
    rw [eH]
    have fdx : F2 dx = none := by
      cases q : F2 dx with
      | none => rfl
      | some o => rw [g3.fh _ _ q] at ndx; cases ndx
    have g4 := g3.grow (o := .xd [(f, v)]) ndx
    have hs : Same F2 (upd F2 dx (.xd [(f, v)])) := fun b o q => by rw [upd_ne (ne_of_none q fdx)]; exact q
    refine n.link u _ δ σ _ [] [] ⟨x, some (f, y)⟩ (.ref C) (some dx) (Nat.le_refl _) n.l1 (by simpa using g4) ⟨C, hm, rfl, dx, v, rfl, upd_same, ?_⟩ hxs
    rw [← n.k]
    exact At.mono hs _ _ hat
  · exact hxs.elim
structure XEx (K : Frag) (mg : Str → Option Value) (L : List Str) (sub : Str → Str → Bool) (x : Str) : Prop where
  m : mg x = some (.ref (clsA mg x))
  e : AllS (fun y => exmOne K (.ref (clsA mg y)) (.ref (clsA mg x)) = some (sub y x)) L
end
end DL
namespace DL
open PySem PySem.Spec L2 PySem.W
section
variable {X : Cx}
variable {W : WC} {e : Expr} {mas : MA} {u : Nat} {p pos : Pos}
end
section
variable {xs : List PyData} {R : DV → Prop}
theorem isBor_e {a C : Addr} {d : Option Addr} {er : DExc} : DV.isBor (.exc a C d er) = false := rfl
theorem seen_e {a C : Addr} {d : Option Addr} {er : DExc} : DV.seen (.exc a C d er) = .exc a C d er := rfl
end
theorem eqv_ii {a b : Int} : PyData.eqv (.int a) (.int b) = decide (a = b) := by
  simp only [PyData.eqv]
  by_cases h : a = b <;> simp [h]
theorem eqv_bb {a b : Bool} : PyData.eqv (.bool a) (.bool b) = decide (a = b) := by
  simp only [PyData.eqv]
  cases a <;> cases b <;> rfl
theorem shaped_i {i : Int} : (SeqAt.shaped (.int i) = true) = True := by simp [shaped_int]
theorem shaped_b {b : Bool} : (SeqAt.shaped (.bool b) = true) = True := by simp [SeqAt.shaped, PyData.canLay0, PyData.depth]
theorem shaped_n : (SeqAt.shaped .none = true) = True := by simp [SeqAt.shaped, PyData.canLay0, PyData.depth]
theorem shaped_nil : (SeqAt.shaped (.list []) = true) = True := by simp [SeqAt.shaped, PyData.canLay0, PyData.depth, PyData.canLayAll0, PyData.depthAll]
theorem shaped_nilt : (SeqAt.shaped (.tuple []) = true) = True := by simp [SeqAt.shaped, PyData.canLay0, PyData.depth, PyData.canLayAll0, PyData.depthAll]
theorem if_tt {α : Type} {a b : α} : (if true = true then a else b) = a := rfl
theorem if_ff {α : Type} {a b : α} : (if false = true then a else b) = b := rfl
theorem cp2 : CPow 10 2 = True := eq_true ⟨by decide, by decide, by decide⟩
theorem pw2 : (10 : Int) ^ Int.toNat 2 = 100 := by decide
theorem cp3 : CPow 10 3 = True := eq_true ⟨by decide, by decide, by decide⟩
theorem pw3 : (10 : Int) ^ Int.toNat 3 = 1000 := by decide
theorem cp4 : CPow 10 4 = True := eq_true ⟨by decide, by decide, by decide⟩
theorem pw4 : (10 : Int) ^ Int.toNat 4 = 10000 := by decide
theorem cp5 : CPow 10 5 = True := eq_true ⟨by decide, by decide, by decide⟩
theorem pw5 : (10 : Int) ^ Int.toNat 5 = 100000 := by decide
theorem cp6 : CPow 10 6 = True := eq_true ⟨by decide, by decide, by decide⟩
theorem pw6 : (10 : Int) ^ Int.toNat 6 = 1000000 := by decide
theorem cp7 : CPow 10 7 = True := eq_true ⟨by decide, by decide, by decide⟩
theorem pw7 : (10 : Int) ^ Int.toNat 7 = 10000000 := by decide
theorem cp8 : CPow 10 8 = True := eq_true ⟨by decide, by decide, by decide⟩
theorem pw8 : (10 : Int) ^ Int.toNat 8 = 100000000 := by decide
theorem cp9 : CPow 10 9 = True := eq_true ⟨by decide, by decide, by decide⟩
theorem pw9 : (10 : Int) ^ Int.toNat 9 = 1000000000 := by decide
theorem cp10 : CPow 10 10 = True := eq_true ⟨by decide, by decide, by decide⟩
theorem pw10 : (10 : Int) ^ Int.toNat 10 = 10000000000 := by decide
theorem cp11 : CPow 10 11 = True := eq_true ⟨by decide, by decide, by decide⟩
theorem pw11 : (10 : Int) ^ Int.toNat 11 = 100000000000 := by decide
theorem cp12 : CPow 10 12 = True := eq_true ⟨by decide, by decide, by decide⟩
theorem pw12 : (10 : Int) ^ Int.toNat 12 = 1000000000000 := by decide
theorem cp13 : CPow 10 13 = True := eq_true ⟨by decide, by decide, by decide⟩
theorem pw13 : (10 : Int) ^ Int.toNat 13 = 10000000000000 := by decide
theorem cp14 : CPow 10 14 = True := eq_true ⟨by decide, by decide, by decide⟩
theorem pw14 : (10 : Int) ^ Int.toNat 14 = 100000000000000 := by decide
theorem cp15 : CPow 10 15 = True := eq_true ⟨by decide, by decide, by decide⟩
theorem pw15 : (10 : Int) ^ Int.toNat 15 = 1000000000000000 := by decide
theorem cp16 : CPow 10 16 = True := eq_true ⟨by decide, by decide, by decide⟩
theorem pw16 : (10 : Int) ^ Int.toNat 16 = 10000000000000000 := by decide
theorem cp17 : CPow 10 17 = True := eq_true ⟨by decide, by decide, by decide⟩
theorem pw17 : (10 : Int) ^ Int.toNat 17 = 100000000000000000 := by decide
theorem cp18 : CPow 10 18 = True := eq_true ⟨by decide, by decide, by decide⟩
theorem pw18 : (10 : Int) ^ Int.toNat 18 = 1000000000000000000 := by decide
theorem cp19 : CPow 10 19 = True := eq_true ⟨by decide, by decide, by decide⟩
theorem pw19 : (10 : Int) ^ Int.toNat 19 = 10000000000000000000 := by decide
theorem cp20 : CPow 10 20 = True := eq_true ⟨by decide, by decide, by decide⟩
theorem pw20 : (10 : Int) ^ Int.toNat 20 = 100000000000000000000 := by decide
theorem cp21 : CPow 10 21 = True := eq_true ⟨by decide, by decide, by decide⟩
theorem pw21 : (10 : Int) ^ Int.toNat 21 = 1000000000000000000000 := by decide
theorem cp22 : CPow 10 22 = True := eq_true ⟨by decide, by decide, by decide⟩
theorem pw22 : (10 : Int) ^ Int.toNat 22 = 10000000000000000000000 := by decide
theorem cp23 : CPow 10 23 = True := eq_true ⟨by decide, by decide, by decide⟩
theorem pw23 : (10 : Int) ^ Int.toNat 23 = 100000000000000000000000 := by decide
theorem cp24 : CPow 10 24 = True := eq_true ⟨by decide, by decide, by decide⟩
theorem pw24 : (10 : Int) ^ Int.toNat 24 = 1000000000000000000000000 := by decide
theorem cp25 : CPow 10 25 = True := eq_true ⟨by decide, by decide, by decide⟩
theorem pw25 : (10 : Int) ^ Int.toNat 25 = 10000000000000000000000000 := by decide
theorem cp26 : CPow 10 26 = True := eq_true ⟨by decide, by decide, by decide⟩
theorem pw26 : (10 : Int) ^ Int.toNat 26 = 100000000000000000000000000 := by decide
theorem cp27 : CPow 10 27 = True := eq_true ⟨by decide, by decide, by decide⟩
theorem pw27 : (10 : Int) ^ Int.toNat 27 = 1000000000000000000000000000 := by decide
theorem cp28 : CPow 10 28 = True := eq_true ⟨by decide, by decide, by decide⟩
theorem pw28 : (10 : Int) ^ Int.toNat 28 = 10000000000000000000000000000 := by decide
theorem cp29 : CPow 10 29 = True := eq_true ⟨by decide, by decide, by decide⟩
theorem pw29 : (10 : Int) ^ Int.toNat 29 = 100000000000000000000000000000 := by decide
theorem cp30 : CPow 10 30 = True := eq_true ⟨by decide, by decide, by decide⟩
theorem pw30 : (10 : Int) ^ Int.toNat 30 = 1000000000000000000000000000000 := by decide
theorem cp31 : CPow 10 31 = True := eq_true ⟨by decide, by decide, by decide⟩
theorem pw31 : (10 : Int) ^ Int.toNat 31 = 10000000000000000000000000000000 := by decide
theorem cp32 : CPow 10 32 = True := eq_true ⟨by decide, by decide, by decide⟩
theorem pw32 : (10 : Int) ^ Int.toNat 32 = 100000000000000000000000000000000 := by decide
theorem cp33 : CPow 10 33 = True := eq_true ⟨by decide, by decide, by decide⟩
theorem pw33 : (10 : Int) ^ Int.toNat 33 = 1000000000000000000000000000000000 := by decide
theorem cp34 : CPow 10 34 = True := eq_true ⟨by decide, by decide, by decide⟩
theorem pw34 : (10 : Int) ^ Int.toNat 34 = 10000000000000000000000000000000000 := by decide
theorem cp35 : CPow 10 35 = True := eq_true ⟨by decide, by decide, by decide⟩
theorem pw35 : (10 : Int) ^ Int.toNat 35 = 100000000000000000000000000000000000 := by decide
theorem cp36 : CPow 10 36 = True := eq_true ⟨by decide, by decide, by decide⟩
theorem pw36 : (10 : Int) ^ Int.toNat 36 = 1000000000000000000000000000000000000 := by decide
theorem cp37 : CPow 10 37 = True := eq_true ⟨by decide, by decide, by decide⟩
theorem pw37 : (10 : Int) ^ Int.toNat 37 = 10000000000000000000000000000000000000 := by decide
theorem cp38 : CPow 10 38 = True := eq_true ⟨by decide, by decide, by decide⟩
theorem pw38 : (10 : Int) ^ Int.toNat 38 = 100000000000000000000000000000000000000 := by decide
theorem cp39 : CPow 10 39 = True := eq_true ⟨by decide, by decide, by decide⟩
theorem pw39 : (10 : Int) ^ Int.toNat 39 = 1000000000000000000000000000000000000000 := by decide
theorem cp40 : CPow 10 40 = True := eq_true ⟨by decide, by decide, by decide⟩
theorem pw40 : (10 : Int) ^ Int.toNat 40 = 10000000000000000000000000000000000000000 := by decide
theorem cdiv {i m : Int} (h0 : 0 < m) (h1 : m ≤ 2 ^ 100) : CDivW i m := ⟨h0, by
  have h2 : m.natAbs < 2 ^ 101 := by
    have e : ((2 ^ 101 : Nat) : Int) = 2 ^ 101 := by norm_cast
    have e2 : (2 : Int) ^ 100 < 2 ^ 101 := by decide
    omega
  have := (Nat.log2_lt (by omega) (k := 101)).mpr h2
  omega⟩
end DL
namespace DL
open PySem PySem.Spec L2 StX
structure FnS (P : Program) (w : World) (K : PySem.W.Frag) (mg : Str → Option Value) (base : Heap) (k : Nat) (f : Addr) (sp : Sp) : Prop where
  run : ∀ (A : Around) (outer : List PySem.Env) (s : Shared) (H : Hp) (us : List Value) (vs : List V) (Q : VK) (E : XK), A.guards = some [] → Room k A → Env0 P w K mg base A outer s H → Vals vs us → sp vs H Q E →
    codeAny (model P w) A (.call (.ref f) ⟨us, []⟩) (CR (L2.CX P w) outer P w H s Q E) s
section
variable {P : Program} {w : World} {K : PySem.W.Frag} {mg : Str → Option Value} {base : Heap}
theorem FnS.mono {j k : Nat} {f : Addr} {sp : Sp} (h : FnS P w K mg base j f sp) (q : j ≤ k) : FnS P w K mg base k f sp :=
  ⟨fun A outer s H us vs Q E hg hr => h.run A outer s H us vs Q E hg (hr.mono q)⟩
def spS (K : PySem.W.Frag) (mg : Str → Option Value) (CK : CKT) (u : Nat) (mf : MF) : Sp := fun vs H Q E => ∃ (G : Gm) (F : Hp) (as : List DV) (R : DV → Prop) (ex : DExc → Prop), G.K = K ∧ (CK G.C G.cv G.J G.lim ∧ G.n + u ≤ G.lim) ∧ as.length = vs.length ∧ (∀ x ∈ as, x.arg = true) ∧ Good G F (as.map some) (vs.map some) H ∧ mf as R ex ∧
  (∀ r, R r → r.arg = true → ∀ v F' H', Good (G.up u) F' [some r] [some v] H' → Q v H') ∧
  (∀ e, ex e → ∀ b cls d F' H', b ≤ u → Good (G.up b) F' [] [] H' → ExcAt K mg F' H' e cls d → E cls d H')
structure DFnS (P : Program) (w : World) (K : PySem.W.Frag) (mg : Str → Option Value) (base : Heap) (CK : CKT) (x : Str) (k u : Nat) (mf : MF) : Prop where
  ex : ∃ f, mg x = some (.ref f) ∧ PySem.W.keepIn K (.ref f) = true ∧ FnS P w K mg base k f (spS K mg CK u mf)
end
section
variable {X : Cx} {W : WC} {e : Expr} {es : List Expr} {pos p : Pos} {mas : MA} {x : Str} {k j u1 u2 : Nat} {mf : MF}
end
theorem DFnS.le {P : Program} {w : World} {K : PySem.W.Frag} {mg : Str → Option Value} {base : Heap} {CK : CKT} {x : Str} {k u u' : Nat} {mf : MF} (h : DFnS P w K mg base CK x k u mf) (hu : u ≤ u') : DFnS P w K mg base CK x k u' mf := by
  obtain ⟨f, h1, h2, h5⟩ := h
  refine ⟨f, h1, h2, ⟨fun A outer s H us vs Q E hg hr e0 r q => h5.run A outer s H us vs Q E hg hr e0 r ?_⟩⟩
  obtain ⟨G, F, as, R, ex, q2, q3, q4, q5, q6, q7, q8, q9⟩ := q
  exact ⟨G, F, as, R, ex, q2, ⟨q3.1, Nat.le_trans (Nat.add_le_add_left hu _) q3.2⟩, q4, q5, q6, q7, fun r hr ha v F' H' g => q8 r hr ha v F' H' (g.mono hu), fun e he b cls d F' H' hb g => q9 e he b cls d F' H' (Nat.le_trans hb hu) g⟩
end DL
namespace PySem
open Sem (wp)
theorem enum_one {v : Value} {o : Obj} {Hy : Heap → Prop} (B : Begins v o Hy) : Meets (Builtin.«enumerate.__new__» ⟨[.type "enumerate", v], []⟩) (fun _ R s => Hy s.heap ∧
    R (.ok (.ret (.ref (s.heap.push o).objs.size))) { s with heap := (s.heap.push o).push { cls := .type "enumerate", data := .fields #[.none, .bool false, .ref s.heap.objs.size, rawInt 0, .none, .none] } }) :=
  .of_wp fun prog w A R s h => by
    obtain ⟨hp, gg, dr, tk, os⟩ := s
    obtain ⟨hy, h⟩ := h
    have hsub := sub_enumerate
    have begin_ : ∀ {A' : Around} {E : Value → Shared → Prop} {Q : Value → Shared → Prop}, Q (.ref hp.objs.size) ⟨hp.push o, gg, dr, tk, os⟩ → wpAny (model prog w) A' (pyIter v) Q E ⟨hp, gg, dr, tk, os⟩ := fun q => B.iter prog w _ _ ⟨hp, gg, dr, tk, os⟩ _ hy q
    wp_walk using begin_
    refine wpAny_stack_any fun st => wpAny_pure ?_
    split
    · rename_i c _ _ _ _ _
      cases (c == Value.type "enumerate") <;> (wp_walk using begin_; exact ⟨_, rfl, h⟩)
    · wp_walk using begin_
      exact ⟨_, rfl, h⟩
theorem enum_call {prog : Program} {w : World} {A : Around} {E : Value → Shared → Prop} {s : Shared} {v : Value} {o : Obj} {Hy : Heap → Prop} {Q : Value → Shared → Prop} (B : Begins v o Hy) (hy : Hy s.heap)
    (h : ∀ h', IsEnum h' (s.heap.objs.size + 1) s.heap.objs.size 0 .none → h'.get? s.heap.objs.size = some o → (∀ b u, s.heap.get? b = some u → h'.get? b = some u) → Q (.ref (s.heap.objs.size + 1)) { s with heap := h' }) :
    wpAny (model prog w) A (call (.type "enumerate") [v]) Q E s := by
  refine callType_new F.called_enumerate (by decide) (F.typeCall_enumerate_1 _) (F.newCall_enumerate_1 _) (fun obj => F.args_object_init_2 obj _) F.entry_enumerate_new (enum_one B) ⟨hy, ?_⟩
  have sz : (s.heap.push o).objs.size = s.heap.objs.size + 1 := Heap.size_push ..
  show _ ∧ _
  rw [sz]
  obtain ⟨eo, heo⟩ : ∃ eo : Obj, eo = { cls := .type "enumerate", data := .fields #[.none, .bool false, .ref s.heap.objs.size, rawInt 0, .none, .none] } := ⟨_, rfl⟩
  have he : IsEnum ((s.heap.push o).push eo) (s.heap.objs.size + 1) s.heap.objs.size 0 .none := by
    have q := Heap.get?_push_size (s.heap.push o) (o := eo) (by rw [heo]; rfl)
    rw [sz] at q
    rw [heo] at q ⊢
    exact q
  rw [← heo]
  exact ⟨⟨_, by rw [heo] at he ⊢; exact he, rfl⟩, h _ he (Heap.get?_push_of_some _ (Heap.get?_push_size _ B.free)) fun b u q => Heap.get?_push_of_some _ (Heap.get?_push_of_some _ q)⟩
end PySem
namespace DL
open PySem PySem.Spec L2 StX
def IteT (K : PySem.W.Frag) (a : Addr) : It :=
  ⟨fun i H => ∃ (xs : List V) (x : V), SqT K H a xs ∧ xs[i]? = some x, fun i H v H' => ∃ T x, v = .ref T ∧ H T = none ∧ H' = upd H T (.tup [.int (i : Nat), x]) ∧ ∀ xs, SqT K H a xs → xs[i]? = some x, fun i H => ∃ xs : List V, SqT K H a xs ∧ xs.length ≤ i⟩
theorem tup_inj {X : Cx} {pins : List (Addr × Obj)} {σ : L2.St} {H : Hp} {s : Shared} {a : Addr} {xs ys : List V} (I : Inv X pins σ H s) (h1 : SqT X.K H a xs) (h2 : SqT X.K H a ys) : xs = ys := I.tuple_inj h1 h2
theorem turn_enumT {P : Program} {w : World} {K : PySem.W.Frag} {elts : List Expr} {kk : Nat} {tpos : Pos} (a e it : Addr) :
    Turn P w K (.Tuple elts kk tpos) (IteT K a) [e, it] e (fun i h => (∃ old, IsEnum h e it ((i : Nat) : Int) old) ∧ h.IsTupleIter it a i ∧ e ≠ it) := by
  refine ⟨by simp, fun i h st b hb => ?_, fun i h h' st k => ?_, ?_, ?_, fun A i s Q E st h => ?_⟩
  · obtain ⟨⟨old, he⟩, ⟨o, ho, hc, hd⟩, _⟩ := st
    rcases List.mem_cons.mp hb with rfl | hb
    · exact ⟨_, he, fun v q => nomatch q⟩
    · rw [List.mem_singleton.mp hb]
      exact ⟨o, ho, fun v q => by rw [hd] at q; cases q⟩
  · obtain ⟨⟨old, he⟩, hi, hne⟩ := st
    exact ⟨⟨old, k e (by simp) _ he⟩, hi.at fun o q => k it (by simp) o q, hne⟩
  · intro X hP hw hK hc i pins s σ H E I hf st hg
    subst hP hw hK
    obtain ⟨⟨old, he⟩, hit, hne⟩ := st
    obtain ⟨xs, x, hq, hx⟩ := hg
    obtain ⟨its, rv, p, hz⟩ := I.tuple hq
    obtain ⟨u, hu, ru⟩ := rv.get hx
    have le1 : e < s.heap.objs.size := Heap.lt_size he
    have le2 : it < s.heap.objs.size := by obtain ⟨_, q, _⟩ := hit; exact Heap.lt_size q
    have nea : e ≠ a := fun z => by
      obtain ⟨o, ho, hcl, _⟩ := p
      rw [← z, he] at ho
      cases ho
      exact absurd hcl (by simp)
    have nia : a ≠ it := fun z => by
      obtain ⟨o, ho, hcl, _⟩ := p
      obtain ⟨o2, ho2, hcl2, _⟩ := hit
      rw [z, ho2] at ho
      cases ho
      rw [hcl2] at hcl
      exact absurd hcl (by simp)
    have D := Draws.tuple (prog := X.prog) (w := X.w) (A := X.A.in1) (by show X.A.handled = none; exact I.ok.hd hc) it a nia its.toArray
    have hlt : i < its.toArray.size := by
      have := (List.getElem?_eq_some_iff.mp hu).1
      simpa using this
    refine wpAny_pyNext_enum_itemC D he ⟨hit, p⟩ hlt hne (by simp [nea, hne]) fun y h' tk hP ho hst hT hsz hk => ?_
    have hy : y = u := by
      have e1 : its.toArray[i]? = some u := by simpa using hu
      rw [e1] at hP
      exact (Option.some.inj hP).symm
    subst hy
    refine ⟨_, rfl, wpAny_letOwnedTupleGo_enum (s := { s with heap := h', toks := tk + 1 }) ho fun h'' he' sb => ?_⟩
    have hT2 : h''.get? s.heap.objs.size = some { cls := .type "tuple", data := .seq #[.int ((i : Nat) : Int) tk, y] } := (sb.2 _ (Nat.ne_of_gt le1)).trans hT
    have ob : ObjOk X.prog X.w (upd H s.heap.objs.size (.tup [.int (i : Nat), x])) h'' s.heap.objs.size (.tup [.int (i : Nat), x]) :=
      ⟨by show 2 ≤ sizeLine; decide, [.int (i : Nat) tk, y], .cons ⟨_, rfl⟩ (.cons ru .nil), ⟨_, hT2, rfl, _, rfl⟩⟩
    have I1 : Inv X pins σ (upd H s.heap.objs.size (.tup [.int (i : Nat), x])) { s with heap := h'', toks := tk + 1 } :=
      I.turnedNew (ch := [e, it]) (fun b ob hb q => (sb.2 b (fun z => hb (by simp [z]))).trans (hk b ob (fun z => hb (by simp [z])) (fun z => hb (by simp [z])) q)) hf (Nat.le_refl _) ob
    refine ⟨.ref s.heap.objs.size, _, I1, rfl, ⟨_, x, rfl, I.hok.fresh (Nat.le_refl _), rfl, fun ys hy => by rw [tup_inj I hy hq]; exact hx⟩, ⟨⟨y, ?_⟩, hst.1.at fun o q => (sb.2 it (Ne.symm hne)).trans q, hne⟩, fun b hb => ?_⟩
    · have e1 : ((i + 1 : Nat) : Int) = (i : Int) + 1 := by omega
      rw [e1]; exact he'
    · have hb' : b < s.heap.objs.size := by
        rcases List.mem_cons.mp hb with rfl | hb
        · exact le1
        · rw [List.mem_singleton.mp hb]; exact le2
      rw [upd_ne (Nat.ne_of_lt hb')]
      exact (hf b hb).1
  · intro X hP hw hK hc i pins s σ H E I hf st hg
    subst hP hw hK
    obtain ⟨⟨old, he⟩, hit, hne⟩ := st
    obtain ⟨xs, hq, hx⟩ := hg
    obtain ⟨its, rv, p, hz⟩ := I.tuple hq
    obtain ⟨f0, f1, f2, f3, f4, f5⟩ := hf it (by simp)
    have hl := rv.length
    have nia : a ≠ it := fun z => by
      obtain ⟨o, ho, hcl, _⟩ := p
      obtain ⟨o2, ho2, hcl2, _⟩ := hit
      rw [z, ho2] at ho
      cases ho
      rw [hcl2] at hcl
      exact absurd hcl (by simp)
    have hh : X.A.in1.handled = none := by show X.A.handled = none; exact I.ok.hd hc
    -- an iterator behind the end ends
    have D : Draws X.prog X.w X.A.in1 it [it, a] i (fun j v => False) (fun j h => h.IsTupleIter it a i ∧ h.IsTuple a its.toArray ∧ j = i) := by
      refine ⟨fun _ _ st => let ⟨o, ho, _⟩ := st.1; ⟨o, ho⟩, fun _ _ _ st hk => ⟨st.1.at fun o e => hk it (by simp) o e, st.2.1.at fun o e => hk a (by simp) o e, st.2.2⟩, fun j s Q E hj st _ => absurd st.2.2 (Nat.ne_of_lt hj), fun s Q E st hE => ?_⟩
      exact wpAny_nextOf_tuple_end hh st.1 st.2.1 (by simp; omega) hE
    exact wpAny_pyNext_enum_endD D he ⟨hit, p, rfl⟩ fun h' eb => ⟨rfl, I.turned (t' := s.toks) (fun b o hb q => eb b o hb q) f0 f1 f3 f4 f5⟩
  · obtain ⟨⟨_, he⟩, _⟩ := st
    exact wpAny_pyIter_enum he h
def iEnumT (K : PySem.W.Frag) (ta : TA) : TI := fun σ H R => ta σ H fun vs H1 => ∃ a xs, vs = [.ref a] ∧ SqT K H1 a xs ∧ R (IteT K a) H1
theorem pi_enumT {X : Cx} {e : Expr} {ta : TA} {p pos tpos : Pos} {elts : List Expr} {kk : Nat} (hg : Gl X "enumerate") (hm : X.mg "enumerate" = none) (ha : PA X [e] ta) (hs : starEach [e] X.env = [(false, eval e X.env)] := by rfl) :
    PI X (.Tuple elts kk tpos) (.Call (.Name "enumerate" p) [e] [] pos) (iEnumT X.K ta) := by
  refine ⟨fun pins s σ H R I h => ?_⟩
  refine PyProof.Rows.Call_ (ld_blt I hg hm PyProof.Rows.boot_enumerate (PyProof.Rows.callWith_type1 (thn (ha.run pos pins s σ H _ I h) fun us s1 ⟨vs, H1, I1, r1, q1⟩ => ?_) hs rfl))
  obtain ⟨a, xs, rfl, hq, q⟩ := q1
  rw [Vals.ref1 r1]
  obtain ⟨its, rv, p', hz⟩ := I1.tuple hq
  refine enum_call (begins_tuple a its.toArray) p' fun h' he ho hk => wpAny_pyIter_enum he ?_
  have I2 : Inv X pins σ H1 { s1 with heap := h' } := I1.kept (t' := s1.toks) hk
  refine ⟨s1.heap.objs.size + 1, [s1.heap.objs.size + 1, s1.heap.objs.size], _, _, H1, rfl, I2, turn_enumT a (s1.heap.objs.size + 1) s1.heap.objs.size, ⟨⟨.none, he⟩, ⟨_, ho, rfl, rfl⟩, Nat.succ_ne_self _⟩, fun b hb => ?_, q⟩
  have hle : s1.heap.objs.size ≤ b := by
    rcases List.mem_cons.mp hb with rfl | hb
    · exact Nat.le_add_right _ _
    · rw [List.mem_singleton.mp hb]; exact Nat.le_refl _
  exact I1.fpOk hle (I1.hok.fresh hle)
end DL
namespace DL
open PySem PySem.Spec L2 StX
def enumD : Nat → List PyData → List PyData
  | _, [] => []
  | k, d :: ds => .tuple [.int (k : Nat), d] :: enumD (k + 1) ds
theorem enumD_get : ∀ {k : Nat} {ds : List PyData} {i : Nat}, (enumD k ds)[i]? = ds[i]?.map fun d => .tuple [.int ((k + i : Nat) : Int), d]
  | _, [], _ => by simp [enumD]
  | k, d :: ds, 0 => by simp [enumD]
  | k, d :: ds, i + 1 => by
    simp only [enumD, List.getElem?_cons_succ]
    rw [enumD_get]
    have : k + 1 + i = k + (i + 1) := by omega
    rw [this]
theorem enumD_len : ∀ {k : Nat} {ds : List PyData}, (enumD k ds).length = ds.length
  | _, [] => rfl
  | k, d :: ds => by simp [enumD, enumD_len]
section
variable {X : Cx} {W : WC} {u : Nat} {e e2 : Expr} {mas : MA} {elts : List Expr} {kk : Nat} {tpos p pos : Pos}
theorem pair_new {G : Gm} {F H : Hp} {A : Env} {A' : L2.St} {T : Addr} {v w : V} {d c : PyData} (g : Good G F A A' H) (hT : H T = none) (h1 : At G.K F v d) (h2 : At G.K F w c) : ∃ F', Good G F' (A ++ [some (.d (.tuple [d, c]))]) (A' ++ [some (.ref T)]) (upd H T (.tup [v, w])) :=
  ⟨_, g.newT hT (.cons h1 (.cons h2 .nil))⟩
def mIEnumT (mas : MA) : MI := fun ex δ R => mas ex δ fun xs => match xs with
  | [.d (.tuple ds)] => R ⟨[.d (.tuple ds)], enumD 0 ds⟩
  | _ => False
theorem di_enumT (hg : Gl X "enumerate") (hm : X.mg "enumerate" = none) (ha : DA X W [e] mas u) (hs : starEach [e] X.env = [(false, eval e X.env)] := by rfl) : DI X W (.Tuple elts kk tpos) (.Call (.Name "enumerate" p) [e] [] pos) (mIEnumT mas) u :=
  ⟨PI.imp (pi_enumT hg hm ha.pa hs) fun σ H Q q => by
    obtain ⟨ex, G, F, δ, τ, ts, τ1, ts1, R, n, m, k⟩ := q
    refine ⟨ex, G, F, δ, τ, ts, τ1, ts1, _, n, m, fun xs hxs vs F1 H1 hl g1 => ?_⟩
    match xs, hxs, hl, g1 with
    | [.d (.tuple ds)], hxs, hl, g1 =>
      obtain ⟨v, rfl, hv, g⟩ := one_of hl g1
      obtain ⟨l, vs, rfl, hs, ha⟩ := tup_of hv g1.fh
      rw [show (G.up u).K = X.K from n.k] at hs
      refine ⟨l, vs, rfl, hs, k _ hxs [.ref l] F1 H1 _ rfl g1 fun b i F2 A B A' B' H2 hA hB g2 => ?_⟩
      have ht := sub1 (g2.cut hB)
      obtain ⟨l', vs', e1, hs0, ha'⟩ := tup_of ht g2.fh
      cases e1
      have hs' : SqT X.K H2 l vs' := by rw [← n.k]; exact hs0
      refine ⟨fun hi => ⟨vs', hs', by rw [ha'.length]; rw [enumD_len] at hi; exact hi⟩, fun d hd => ?_⟩
      rw [enumD_get] at hd
      cases hd0 : ds[i]? with
      | none => rw [hd0] at hd; cases hd
      | some d0 =>
        rw [hd0] at hd
        cases hd
        obtain ⟨w, ew, hw⟩ := ha'.get hd0
        refine ⟨⟨vs', w, hs', ew⟩, fun y H3 hy => ?_⟩
        obtain ⟨T, w', rfl, hT, rfl, hy⟩ := hy
        have := hy vs' hs'
        rw [ew] at this
        cases this
        have hi0 : ((0 + i : Nat) : Int) = (i : Nat) := by omega
        rw [hi0]
        exact pair_new g2 hT (.int _) hw⟩
end
end DL
namespace DL
open PySem PySem.Spec L2 PyProof.Rows
section
variable {u u1 u2 u3 u4 : Nat} {X : Cx} {W : WC} {a b c d : Expr} {pos : Pos} {ma mb mc md : ME}
end
end DL
namespace DL
open PySem PySem.Spec L2
theorem Falls.by {l : SRow} (I : Inc l) {rt : Bool} {s lo hi j : Nat} (h : Falls l rt s lo hi) (h1 : lo ≤ j) (h2 : j ≤ hi) : j = s ∨ ∃ k, lo ≤ k ∧ k ≤ hi ∧ Hit l rt k j := by
  have hb := h.bd
  unfold Falls at h
  cases rt with
  | true =>
    obtain ⟨rfl, h⟩ := h
    rcases Nat.eq_or_lt_of_le h1 with q | q
    · exact .inl q.symm
    · obtain ⟨k, a, b, c⟩ := h.ch j q h2
      exact .inr ⟨k, a, by omega, I.inc _ _ b (by omega), c⟩
  | false =>
    obtain ⟨rfl, h⟩ := h
    rcases Nat.eq_or_lt_of_le h2 with q | q
    · exact .inl q
    · obtain ⟨k, a, b, c⟩ := h.ch j h1 q
      exact .inr ⟨k, by omega, b, c, I.inc _ _ a (by omega)⟩
theorem eqv_lr : PyData.eqv (.str "left") (.str "right") = false := by decide +kernel
theorem eqv_rl : PyData.eqv (.str "right") (.str "left") = false := by decide +kernel
theorem eqv_ll : PyData.eqv (.str "left") (.str "left") = true := by decide +kernel
theorem eqv_rr : PyData.eqv (.str "right") (.str "right") = true := by decide +kernel
mutual
theorem eqv_rfl : ∀ d : PyData, d.canLay0 = true → PyData.eqv d d = true
  | .none, _ => by simp [PyData.eqv]
  | .bool b, _ => by cases b <;> simp [PyData.eqv]
  | .int i, _ => by simp [PyData.eqv]
  | .str x, _ => by simp [PyData.eqv]
  | .list xs, h => by
    simp only [PyData.eqv]
    exact eqvAll_rfl xs (by simpa [PyData.canLay0] using h)
  | .tuple xs, h => by
    simp only [PyData.eqv]
    exact eqvAll_rfl xs (by simpa [PyData.canLay0] using h)
  | .dict _, h => by simp [PyData.canLay0] at h
theorem eqvAll_rfl : ∀ xs : List PyData, PyData.canLayAll0 xs = true → PyData.eqvAll xs xs = true
  | [], _ => by simp [PyData.eqvAll]
  | x :: xs, h => by
    simp only [PyData.canLayAll0, Bool.and_eq_true] at h
    simp only [PyData.eqvAll, eqv_rfl x h.1, eqvAll_rfl xs h.2, Bool.and_self]
end
theorem row_mem {l : SRow} {p : Int × Int} (hp : p ∈ l) : ∃ i, i < l.length ∧ pl l i = p.1 ∧ ht l i = p.2 := by
  obtain ⟨i, hi, e⟩ := List.mem_iff_getElem.mp hp
  refine ⟨i, hi, ?_, ?_⟩
  · unfold pl
    rw [List.getD_eq_getElem?_getD, List.getElem?_eq_getElem hi, e]
    rfl
  · unfold ht
    rw [List.getD_eq_getElem?_getD, List.getElem?_eq_getElem hi, e]
    rfl
end DL
namespace PySem
open PySem.AutoSeq1 (wpAny_loadPart')
end PySem
namespace DL
open PySem PySem.Spec L2
end DL
namespace DL
open PySem PySem.Spec L2
section
variable {X : Cx} {W : WC} {u1 u2 : Nat} {c e : Expr} {es : List Expr} {pos : Pos} {mt : MT} {m : MS} {mas : MA}
variable {x : Str} {p1 ap cp : Pos}
end
end DL
namespace DL
open PySem PySem.Spec L2
theorem key_reads {h : Heap} {k : Key} {u : Value} (e : keyIs k u = true) : Reads h u (keyD k) [] := by
  rcases keyIs_shape e with ⟨i, t, rfl, rfl⟩ | ⟨x, t, rfl, rfl⟩
  · exact Reads.int i t
  · exact Reads.str x t
section
open PySem.P3
variable {P : Program} {w : World} {h : Heap}
def Sh (P : Program) (w : World) (h : Heap) (u : Value) (d : PyData) : Prop := ∃ as bs, Reads h u d as ∧ ReadAtMost h d.depth bs ∧ ReprK P w bs h d.depth u d.shown
def ShA (P : Program) (w : World) (h : Heap) (us : List Value) (ds : List PyData) : Prop := ∃ as bs, ReadsAll h us ds as ∧ ReadAtMost h (PyData.depthAll ds) bs ∧ ReprAllK P w bs h (PyData.depthAll ds) us (PyData.shownAll ds)
theorem rk_key {k : Key} {u : Value} (e : keyIs k u = true) (hs : (keyD k).showable = true) (hz : (keyD k).shown.length ≤ sizeLine) : Sh P w h u (keyD k) := by
  refine ⟨[], [], key_reads e, fun _ z => (nomatch z), ?_⟩
  rcases keyIs_shape e with ⟨i, t, rfl, rfl⟩ | ⟨x, t, rfl, rfl⟩
  · have q : ReprK P w [] h 0 (.int i t) (PyData.shown (.int i)) := by
      simp only [PyData.shown]
      exact .of_is (ReprIs.int t (by simpa [keyD, PyData.showable] using hs)) _ _ _
    exact q
  · have q : ReprK P w [] h 0 (.str x t) (PyData.shown (.str x)) := by
      simp only [PyData.shown]
      exact .of_is (ReprIs.str x t (by simpa only [keyD, PyData.shown] using hz)) _ _ _
    exact q
theorem sha_cons {u : Value} {us : List Value} {d : PyData} {ds : List PyData} (h1 : Sh P w h u d) (h2 : ShA P w h us ds) : ShA P w h (u :: us) (d :: ds) := by
  obtain ⟨as, bs, r1, m1, k1⟩ := h1
  obtain ⟨cs, es, r2, m2, k2⟩ := h2
  refine ⟨_, bs ++ es, ReadsAll.cons r1 r2, ?_, ?_⟩
  · rw [PyData.depthAll]
    exact (m1.mono (Nat.le_max_left _ _)).append (m2.mono (Nat.le_max_right _ _))
  · rw [PyData.depthAll, PyData.shownAll]
    have q1 := (k1.more fun b hb => (List.mem_append_left es hb : b ∈ bs ++ es)).level_le (Nat.le_max_left d.depth (PyData.depthAll ds))
    have q2 := k2.more_le (fun b hb => (List.mem_append_right bs hb : b ∈ bs ++ es)) (Nat.le_max_right d.depth (PyData.depthAll ds))
    exact ReprAllK.cons q1 q2
theorem sha_nil : ShA P w h [] [] := ⟨[], [], ReadsAll.nil, fun _ z => (nomatch z), by rw [PyData.shownAll]; exact ReprAllK.nil⟩
theorem sh_list {a : Addr} {o : Obj} {n : Nat} {us : List Value} {ds : List PyData} (ho : h.get? a = some o) (hc : o.cls = .type "list") (hd : o.data = .seq us.toArray n) (q : ShA P w h us ds) : Sh P w h (.ref a) (.list ds) := by
  obtain ⟨as, bs, r, m, k⟩ := q
  have rr : Reads h (.ref a) (.list ds) _ := Reads.list ho hc hd r
  have dp : (PyData.list ds).depth = PyData.depthAll ds + 1 := by simp only [PyData.depth]
  have na : a ∉ bs := not_mem_of_deeper rr (by omega) m
  refine ⟨_, a :: bs, rr, ReadAtMost.cons rr (Nat.le_refl _) (m.mono (by omega)), ?_⟩
  rw [dp]
  simp only [PyData.shown]
  cases us with
  | nil =>
    cases r
    simp only [PyData.shownAll, listText_nil]
    exact ReprK.listEmpty ho hc hd
  | cons x l => exact ReprK.list ho hc hd na (by simpa using k.length_eq) fun i y e => k.item i y (by simpa using e)
theorem sh_tuple {a : Addr} {o : Obj} {n : Nat} {us : List Value} {ds : List PyData} (ho : h.get? a = some o) (hc : o.cls = .type "tuple") (hd : o.data = .seq us.toArray n) (q : ShA P w h us ds) : Sh P w h (.ref a) (.tuple ds) := by
  obtain ⟨as, bs, r, m, k⟩ := q
  have rr : Reads h (.ref a) (.tuple ds) _ := Reads.tuple ho hc hd r
  have dp : (PyData.tuple ds).depth = PyData.depthAll ds + 1 := by simp only [PyData.depth]
  have na : a ∉ bs := not_mem_of_deeper rr (by omega) m
  refine ⟨_, a :: bs, rr, ReadAtMost.cons rr (Nat.le_refl _) (m.mono (by omega)), ?_⟩
  rw [dp]
  simp only [PyData.shown]
  exact ReprK.tuple ho hc hd na k
theorem sh_dict {a : Addr} {o : Obj} {n : Nat} {es : Array DictEntry} {ds : List (PyData × PyData)} (ho : h.get? a = some o) (hc : o.cls = .type "dict") (hd : o.data = .dict es n) (hsm : (a == sysModules) = false)
    (q1 : ShA P w h (es.toList.map (·.key)) (ds.map (·.1))) (q2 : ShA P w h (es.toList.map (·.val)) (ds.map (·.2))) : Sh P w h (.ref a) (.dict ds) := by
  obtain ⟨as, b1, r1, m1, k1⟩ := q1
  obtain ⟨cs, b2, r2, m2, k2⟩ := q2
  have rr : Reads h (.ref a) (.dict ds) _ := Reads.dict ho hc hd r1 r2
  have dp : (PyData.dict ds).depth = PyData.depthKv ds + 1 := by simp only [PyData.depth]
  have m : ReadAtMost h (PyData.depthKv ds) (b1 ++ b2) := (m1.mono (PyData.depthAll_keys_le ds)).append (m2.mono (PyData.depthAll_vals_le ds))
  have na : a ∉ b1 ++ b2 := not_mem_of_deeper rr (by omega) m
  refine ⟨_, a :: (b1 ++ b2), rr, ReadAtMost.cons rr (Nat.le_refl _) (m.mono (by omega)), ?_⟩
  rw [dp]
  simp only [PyData.shown, PyData.shownKv_eq]
  have z1 := k1.more_le (fun b hb => (List.mem_append_left b2 hb : b ∈ b1 ++ b2)) (PyData.depthAll_keys_le ds)
  have z2 := k2.more_le (fun b hb => (List.mem_append_right b1 hb : b ∈ b1 ++ b2)) (PyData.depthAll_vals_le ds)
  exact ReprK.dict ho hc hd hsm na (ReprEntriesK.of_two es.toList _ _ z1 z2)
variable {A : Around} {E : Value → Shared → Prop} {s : Shared} {Q : Value → Shared → Prop}
theorem top_list {a : Addr} {o : Obj} {n : Nat} {us : List Value} {ds : List PyData} (ho : s.heap.get? a = some o) (hc : o.cls = .type "list") (hd : o.data = .seq us.toArray n) (q : ShA P w s.heap us ds) (hg : A.guards = some []) (hu : A.units + ((PyData.list ds).depth + 1) < cLine)
    (hz : (PyData.list ds).shown.length ≤ sizeLine) (hQ : ∀ h' u tk, (∀ b o, s.heap.get? b = some o → h'.get? b = some o) → Q (.str (PyData.list ds).shown u) { s with heap := h', toks := tk }) : wpAny (model P w) A (call (.builtin "repr") [.ref a]) Q E s := by
  obtain ⟨as, bs, r, m, k⟩ := q
  have rr : Reads s.heap (.ref a) (.list ds) _ := Reads.list ho hc hd r
  have dp : (PyData.list ds).depth = PyData.depthAll ds + 1 := by simp only [PyData.depth]
  have na : a ∉ bs := not_mem_of_deeper rr (by omega) m
  have un : A.in1.units + (PyData.depthAll ds + 1) < cLine := by
    show A.units + 1 + (PyData.depthAll ds + 1) < cLine
    omega
  simp only [PyData.shown] at hQ hz
  refine call_repr_slot (by omega) ⟨o, ho, hc⟩ F.slot_list_repr.toG ?_
  cases us with
  | nil =>
    cases r
    simp only [PyData.shownAll, listText_nil] at hQ
    exact call_list_repr_empty ⟨o, ho, hc⟩ ho hd ⟨_, _, rfl, hQ s.heap _ _ fun _ _ e => e⟩
  | cons x l =>
    exact call_list_reprK ho hc hd na (by simpa using k.length_eq) (fun i y e => k.item i y (by simpa using e)) hg (fun b _ => Clear.nil b) un (fun _ _ e => e) (fun h' u tk hk => ⟨_, _, rfl, hQ h' u tk hk⟩) hz
theorem top_tuple {a : Addr} {o : Obj} {n : Nat} {us : List Value} {ds : List PyData} (ho : s.heap.get? a = some o) (hc : o.cls = .type "tuple") (hd : o.data = .seq us.toArray n) (q : ShA P w s.heap us ds) (hg : A.guards = some []) (hu : A.units + ((PyData.tuple ds).depth + 1) < cLine)
    (hz : (PyData.tuple ds).shown.length ≤ sizeLine) (hQ : ∀ h' u tk, (∀ b o, s.heap.get? b = some o → h'.get? b = some o) → Q (.str (PyData.tuple ds).shown u) { s with heap := h', toks := tk }) : wpAny (model P w) A (call (.builtin "repr") [.ref a]) Q E s := by
  obtain ⟨as, bs, r, m, k⟩ := q
  have rr : Reads s.heap (.ref a) (.tuple ds) _ := Reads.tuple ho hc hd r
  have dp : (PyData.tuple ds).depth = PyData.depthAll ds + 1 := by simp only [PyData.depth]
  have na : a ∉ bs := not_mem_of_deeper rr (by omega) m
  have un : A.in1.units + (PyData.depthAll ds + 1) < cLine := by
    show A.units + 1 + (PyData.depthAll ds + 1) < cLine
    omega
  simp only [PyData.shown] at hQ hz
  refine call_repr_slot (by omega) ⟨o, ho, hc⟩ F.slot_tuple_repr ?_
  exact call_tuple_reprK ho hc hd na k hg (fun b _ => Clear.nil b) un (fun _ _ e => e) (fun h' u tk hk => ⟨_, _, rfl, hQ h' u tk hk⟩) hz
theorem top_dict {a : Addr} {o : Obj} {n : Nat} {es : Array DictEntry} {ds : List (PyData × PyData)} (ho : s.heap.get? a = some o) (hc : o.cls = .type "dict") (hd : o.data = .dict es n) (hsm : (a == sysModules) = false)
    (q1 : ShA P w s.heap (es.toList.map (·.key)) (ds.map (·.1))) (q2 : ShA P w s.heap (es.toList.map (·.val)) (ds.map (·.2))) (hg : A.guards = some []) (hu : A.units + ((PyData.dict ds).depth + 1) < cLine)
    (hz : (PyData.dict ds).shown.length ≤ sizeLine) (hQ : ∀ h' u tk, (∀ b o, s.heap.get? b = some o → h'.get? b = some o) → Q (.str (PyData.dict ds).shown u) { s with heap := h', toks := tk }) : wpAny (model P w) A (call (.builtin "repr") [.ref a]) Q E s := by
  obtain ⟨as, b1, r1, m1, k1⟩ := q1
  obtain ⟨cs, b2, r2, m2, k2⟩ := q2
  have rr : Reads s.heap (.ref a) (.dict ds) _ := Reads.dict ho hc hd r1 r2
  have dp : (PyData.dict ds).depth = PyData.depthKv ds + 1 := by simp only [PyData.depth]
  have m : ReadAtMost s.heap (PyData.depthKv ds) (b1 ++ b2) := (m1.mono (PyData.depthAll_keys_le ds)).append (m2.mono (PyData.depthAll_vals_le ds))
  have na : a ∉ b1 ++ b2 := not_mem_of_deeper rr (by omega) m
  have un : A.in1.units + (PyData.depthKv ds + 1) < cLine := by
    show A.units + 1 + (PyData.depthKv ds + 1) < cLine
    omega
  simp only [PyData.shown, PyData.shownKv_eq] at hQ
  simp only [PyData.shown] at hz
  have z1 := k1.more_le (fun b hb => (List.mem_append_left b2 hb : b ∈ b1 ++ b2)) (PyData.depthAll_keys_le ds)
  have z2 := k2.more_le (fun b hb => (List.mem_append_right b1 hb : b ∈ b1 ++ b2)) (PyData.depthAll_vals_le ds)
  refine call_repr_slot (by omega) ⟨o, ho, hc⟩ F.slot_dict_repr ?_
  exact call_dict_reprK ho hc hd hsm na (ReprEntriesK.of_two es.toList _ _ z1 z2) hg (fun b _ => Clear.nil b) un (fun _ _ e => e) (fun h' u tk hk => ⟨_, _, rfl, hQ h' u tk hk⟩) (by rw [← PyData.shownKv_eq]; exact hz)
end
theorem obj_hid {x : PyData} {ks : List (PyData × PyData)} : PyData.showable (.dict ((objK, x) :: ks)) = false := by
  have h : decide (bigI.natAbs.log2 < 1920) = false := by decide +kernel
  simp only [PyData.showable, PyData.showableKv, PyData.showableAll, h, Bool.false_and]
mutual
theorem At.sh {X : Cx} {pins : List (Addr × Obj)} {σ : L2.St} {H F : Hp} {s : Shared} (I : Inv X pins σ H s) (hf : Same F H) : ∀ (d : PyData) (v : V) (u : Value), At X.K F v d → RelV v u → d.showable = true → d.shown.length ≤ sizeLine → Sh X.prog X.w s.heap u d
  | .none, _, _, h, r, _, _ => by
    cases h; cases r
    exact ⟨[], [], Reads.none, fun _ z => (nomatch z), by simp only [PyData.shown]; exact .of_is ReprIs.none _ _ _⟩
  | .bool b, _, _, h, r, _, _ => by
    cases h; cases r
    exact ⟨[], [], Reads.bool b, fun _ z => (nomatch z), by simp only [PyData.shown]; exact .of_is (ReprIs.bool b) _ _ _⟩
  | .int i, _, _, h, r, hs, hz => by
    cases h
    obtain ⟨t, rfl⟩ := r
    exact rk_key (k := .inl i) (show keyIs (.inl i) (.int i t) = true by simp [keyIs, Value.isInt]) hs hz
  | .str x, _, _, h, r, hs, hz => by
    cases h
    obtain ⟨t, rfl⟩ := r
    exact rk_key (k := .inr x) (show keyIs (.inr x) (.str x t) = true by simp [keyIs, Value.isStr, Value.isStrOf]) hs hz
  | .list ds, _, _, h, r, hs, hz => by
    cases h with
    | lst hl ha =>
      cases r
      obtain ⟨its, rv, ⟨o, n, ho, hc, _, hdat⟩, _⟩ := I.list (SqL.of (hf _ _ hl))
      simp only [PyData.showable] at hs
      simp only [PyData.shown] at hz
      exact sh_list ho hc hdat (AtL.sh I hf ds _ its ha rv hs fun t ht => Nat.le_trans (listText_mem_le ht) hz)
  | .tuple ds, _, _, h, r, hs, hz => by
    cases h with
    | tup hl ha =>
      cases r
      obtain ⟨its, rv, ⟨o, ho, hc, n, hdat⟩, _⟩ := I.tuple (SqT.of (hf _ _ hl))
      simp only [PyData.showable] at hs
      simp only [PyData.shown] at hz
      exact sh_tuple ho hc hdat (AtL.sh I hf ds _ its ha rv hs fun t ht => Nat.le_trans (tupleText_mem_le ht) hz)
  | .dict ds, _, _, h, r, hs, hz => by
    cases h with
    | obj _ _ _ _ => exact absurd hs (by rw [obj_hid]; decide)
    | dct hl ha =>
      cases r
      obtain ⟨_, hd, vs, rel, o, es, ep, eo, exd, hdat, _, hp, _⟩ := dk_rd I.hok (rd_mono hf hl)
      simp only [PyData.showable] at hs
      simp only [PyData.shown] at hz
      obtain ⟨s1, s2⟩ := PyData.showableKv_split ds hs
      obtain ⟨q1, q2⟩ := AtKv.sh I hf ds _ vs es.toList ha rel hp s1 s2 (fun t ht => by
        obtain ⟨p, hp, hl⟩ := PyData.shownKv_key_le ds t ht
        exact Nat.le_trans hl (Nat.le_trans (dictText_mem_le hp) hz)) fun t ht => by
        obtain ⟨p, hp, hl⟩ := PyData.shownKv_val_le ds t ht
        exact Nat.le_trans hl (Nat.le_trans (dictText_mem_le hp) hz)
      exact sh_dict eo exd.1 hdat hd q1 q2
theorem AtL.sh {X : Cx} {pins : List (Addr × Obj)} {σ : L2.St} {H F : Hp} {s : Shared} (I : Inv X pins σ H s) (hf : Same F H) : ∀ (ds : List PyData) (vs : List V) (us : List Value), AtL X.K F vs ds → Vals vs us → PyData.showableAll ds = true → (∀ t ∈ PyData.shownAll ds, t.length ≤ sizeLine) → ShA X.prog X.w s.heap us ds
  | [], _, _, h, r, _, _ => by cases h; cases r; exact sha_nil
  | d :: ds, _, _, h, r, hs, hz => by
    cases h with
    | cons h1 h2 =>
      cases r with
      | cons r1 r2 =>
        simp only [PyData.showableAll, Bool.and_eq_true] at hs
        rw [PyData.shownAll] at hz
        exact sha_cons (At.sh I hf d _ _ h1 r1 hs.1 (hz _ (List.mem_cons_self ..))) (AtL.sh I hf ds _ _ h2 r2 hs.2 fun t ht => hz t (List.mem_cons_of_mem _ ht))
theorem AtKv.sh {X : Cx} {pins : List (Addr × Obj)} {σ : L2.St} {H F : Hp} {s : Shared} (I : Inv X pins σ H s) (hf : Same F H) : ∀ (ds : List (PyData × PyData)) (kvs : List (Key × V)) (vs : List (Key × Value)) (es : List DictEntry), AtKv X.K F kvs ds → KV kvs vs → Pairs (mixKind X.prog X.w) es vs →
    PyData.showableAll (ds.map (·.1)) = true → PyData.showableAll (ds.map (·.2)) = true → (∀ t ∈ PyData.shownAll (ds.map (·.1)), t.length ≤ sizeLine) → (∀ t ∈ PyData.shownAll (ds.map (·.2)), t.length ≤ sizeLine) →
    ShA X.prog X.w s.heap (es.map (·.key)) (ds.map (·.1)) ∧ ShA X.prog X.w s.heap (es.map (·.val)) (ds.map (·.2))
  | [], _, _, _, h, r, p, _, _, _, _ => by cases h; cases r; cases p; exact ⟨sha_nil, sha_nil⟩
  | (_, d) :: ds, _, _, _, h, r, p, s1, s2, z1, z2 => by
    cases h with
    | cons h1 h2 =>
      cases r with
      | cons r1 r2 =>
        cases p with
        | cons p1 p2 p3 =>
          obtain ⟨e1, e2⟩ := r1
          dsimp only at e1 e2
          rw [← e1] at p1
          rw [← p2] at e2
          simp only [List.map_cons, PyData.showableAll, Bool.and_eq_true] at s1 s2
          rw [List.map_cons, PyData.shownAll] at z1 z2
          obtain ⟨q1, q2⟩ := AtKv.sh I hf ds _ _ _ h2 r2 p3 s1.2 s2.2 (fun t ht => z1 t (List.mem_cons_of_mem _ ht)) fun t ht => z2 t (List.mem_cons_of_mem _ ht)
          exact ⟨sha_cons (rk_key p1 s1.1 (z1 _ (List.mem_cons_self ..))) q1, sha_cons (At.sh I hf d _ _ h1 e2 s2.1 (z2 _ (List.mem_cons_self ..))) q2⟩
end
def ShowsD (d : PyData) : Prop := d.showable = true ∧ d.shown.length ≤ sizeLine ∧ d.depth ≤ 30
theorem Shows.d {d : PyData} (h : Shows d) : ShowsD d := h.2
def rReprD (K : PySem.W.Frag) : List V → Hp → VK → Prop := fun xs H Q => ∃ x d, xs = [x] ∧ Da K H x d ∧ ShowsD d ∧ Q (.str d.shown) H
section
variable {X : Cx} {W : WC} {u : Nat} {e : Expr} {mas : MA} {pos p : Pos}
theorem cr_reprD (hg : X.A.guards = some []) (hu : X.A.units + 64 < cLine) : CallR X (.builtin "repr") (rReprD X.K) := by
  intro pins s σ H xs us Q I r ⟨x, d, e, ⟨F, hF, hd⟩, ⟨hs, hz, hdp⟩, q⟩
  subst e
  obtain ⟨u, rfl, ru⟩ := vals1 r
  have fin : ∀ h' v tk, (∀ b o, s.heap.get? b = some o → h'.get? b = some o) → EP X pins σ Q (.str d.shown v) { s with heap := h', toks := tk } := fun h' v tk hk => ⟨.str _, H, I.kept hk, ⟨_, rfl⟩, q⟩
  match d, hd, hs, hz, q, hdp, fin with
  | .none, hd, hs, hz, q, _, _ =>
    cases hd; cases ru
    simp only [PyData.shown] at q
    exact PySem.P.repr_of_none ⟨.str "None", H, I.tok _, ⟨_, rfl⟩, q⟩
  | .bool b, hd, hs, hz, q, _, _ =>
    cases hd; cases ru
    simp only [PyData.shown] at q
    exact PySem.P.repr_of_bool ⟨.str _, H, I.tok _, ⟨_, rfl⟩, q⟩
  | .int i, hd, hs, hz, q, _, _ =>
    cases hd
    obtain ⟨t, rfl⟩ := ru
    simp only [PyData.shown] at q
    exact PySem.P.repr_of_int (by simpa [PyData.showable] using hs) ⟨.str _, H, I.tok _, ⟨_, rfl⟩, q⟩
  | .str z, hd, hs, hz, q, _, _ =>
    cases hd
    obtain ⟨t, rfl⟩ := ru
    simp only [PyData.shown] at q hz
    exact PySem.P.repr_of_str ⟨.str _, H, I.tok _, ⟨_, rfl⟩, q⟩ hz
  | .list ds, hd, hs, hz, q, hdp, fin =>
    cases hd with
    | lst hl ha =>
      cases ru
      obtain ⟨its, rv, ⟨o, n, ho, hc, _, hdat⟩, _⟩ := I.list (SqL.of (hF _ _ hl))
      refine top_list ho hc hdat (AtL.sh I hF ds _ its ha rv (by simpa only [PyData.showable] using hs) fun t ht => Nat.le_trans (listText_mem_le ht) (by simpa only [PyData.shown] using hz)) hg (by omega) hz fin
  | .tuple ds, hd, hs, hz, q, hdp, fin =>
    cases hd with
    | tup hl ha =>
      cases ru
      obtain ⟨its, rv, ⟨o, ho, hc, n, hdat⟩, _⟩ := I.tuple (SqT.of (hF _ _ hl))
      refine top_tuple ho hc hdat (AtL.sh I hF ds _ its ha rv (by simpa only [PyData.showable] using hs) fun t ht => Nat.le_trans (tupleText_mem_le ht) (by simpa only [PyData.shown] using hz)) hg (by omega) hz fin
  | .dict ds, hd, hs, hz, q, hdp, fin =>
    cases hd with
    | obj _ _ _ _ => exact absurd hs (by rw [obj_hid]; decide)
    | dct hl ha =>
      cases ru
      obtain ⟨_, hsm, vs, rel, o, es, ep, eo, exd, hdat, _, hp, _⟩ := dk_rd I.hok (rd_mono hF hl)
      have hz' : (dictText (PyData.shownKv ds)).length ≤ sizeLine := by simpa only [PyData.shown] using hz
      obtain ⟨s1, s2⟩ := PyData.showableKv_split ds (by simpa only [PyData.showable] using hs)
      obtain ⟨q1, q2⟩ := AtKv.sh I hF ds _ vs es.toList ha rel hp s1 s2 (fun t ht => by
        obtain ⟨p, hp, hl⟩ := PyData.shownKv_key_le ds t ht
        exact Nat.le_trans hl (Nat.le_trans (dictText_mem_le hp) hz')) fun t ht => by
        obtain ⟨p, hp, hl⟩ := PyData.shownKv_val_le ds t ht
        exact Nat.le_trans hl (Nat.le_trans (dictText_mem_le hp) hz')
      refine top_dict eo exd.1 hdat hsm q1 q2 hg (by omega) hz fin
def oReprD : D1 := fun x R => match x.pd with
  | some d => ShowsD d ∧ R (.d (.str d.shown))
  | none => False
theorem on_reprD : OpN X (rReprD X.K) (o1 oReprD) := on_1 fun G F δ σ H v x R Q hK g hx h k => by
  unfold oReprD at h
  split at h
  · rename_i d e
    have hd := pd_da hx g.fh e
    rw [hK] at hd
    exact ⟨v, d, rfl, hd, h.1, k _ h.2 _ F H (g.pushD (.str _))⟩
  · exact h.elim
theorem de_reprD (cx : CtxU X) (hg : Gl X "repr") (hm : X.mg "repr" = none) (ha : DA X W [e] mas u) (he : starEach [e] X.env = (false, eval e X.env) :: starEach [] X.env := by rfl) (hpl : (backTo pos (starEach [] X.env)).any (·.1) = false := by rfl) :
    DE X W (.Call (.Name "repr" p) [e] [] pos) (mCB (o1 oReprD) mas) u := de_callB (cr_reprD cx.gd cx.u64) on_reprD hg hm (by decide +kernel) ha (by decide) (by decide) he hpl
end
section
variable {X : Cx} {W : WC} {u1 u2 : Nat} {e : Expr} {es : List Expr} {mas : MA} {me : ME} {pos p ap cp : Pos}
end
structure SzD (d : PyData) (dp wd : Nat) : Prop where
  sh : d.showable = true
  de : d.depth ≤ dp
  ln : d.shown.length ≤ wd
theorem Sz.d {d : PyData} {dp wd : Nat} (h : Sz d dp wd) : SzD d dp wd := ⟨h.sh, h.de, Nat.le_trans (shown_le d h.nd h.sh) h.wi⟩
theorem SzD.mono {d : PyData} {a b a' b' : Nat} (h : SzD d a b) (ha : a ≤ a') (hb : b ≤ b') : SzD d a' b' := ⟨h.sh, Nat.le_trans h.de ha, Nat.le_trans h.ln hb⟩
theorem SzD.shows {d : PyData} {dp wd : Nat} (h : SzD d dp wd) (h1 : dp ≤ 30) (h2 : wd ≤ sizeLine) : ShowsD d := ⟨h.sh, Nat.le_trans h.ln h2, Nat.le_trans h.de h1⟩
theorem szDA {dp wd : Nat} : ∀ {xs : List PyData}, (∀ x ∈ xs, SzD x dp wd) → PyData.showableAll xs = true ∧ PyData.depthAll xs ≤ dp ∧ piled (PyData.shownAll xs) ≤ xs.length * (wd + 2)
  | [], _ => ⟨rfl, Nat.zero_le _, by simp [PyData.shownAll, piled_nil]⟩
  | x :: xs, h => by
    have a := h x (by simp)
    obtain ⟨b1, b2, b3⟩ := szDA (xs := xs) fun y hy => h y (by simp [hy])
    refine ⟨by simp [PyData.showableAll, a.sh, b1], ?_, ?_⟩
    · simp only [PyData.depthAll]
      have := a.de
      omega
    · have := a.ln
      simp only [PyData.shownAll, piled_cons, List.length_cons, Nat.succ_mul]
      omega
theorem SzD.lst {xs : List PyData} {dp wd n : Nat} (h : ∀ x ∈ xs, SzD x dp wd) (hn : xs.length ≤ n) : SzD (.list xs) (dp + 1) (4 + n * (wd + 2)) := by
  obtain ⟨b1, b2, b3⟩ := szDA h
  have hm : xs.length * (wd + 2) ≤ n * (wd + 2) := Nat.mul_le_mul_right _ hn
  refine ⟨by simp [PyData.showable, b1], by simp only [PyData.depth]; omega, ?_⟩
  have := listText_le (PyData.shownAll xs)
  simp only [PyData.shown]
  omega
theorem SzD.tup {xs : List PyData} {dp wd n : Nat} (h : ∀ x ∈ xs, SzD x dp wd) (hn : xs.length ≤ n) : SzD (.tuple xs) (dp + 1) (4 + n * (wd + 2)) := by
  obtain ⟨b1, b2, b3⟩ := szDA h
  have hm : xs.length * (wd + 2) ≤ n * (wd + 2) := Nat.mul_le_mul_right _ hn
  refine ⟨by simp [PyData.showable, b1], by simp only [PyData.depth]; omega, ?_⟩
  have := tupleText_le (PyData.shownAll xs)
  simp only [PyData.shown]
  omega
theorem SzD.two {x y : PyData} {dp wd : Nat} (hx : SzD x dp wd) (hy : SzD y dp wd) : SzD (.list [x, y]) (dp + 1) (4 + 2 * (wd + 2)) := SzD.lst (fun z hz => by
  rcases List.mem_cons.mp hz with rfl | hz
  · exact hx
  · cases List.mem_singleton.mp hz
    exact hy) (by simp)
theorem val_odk (xs : List (PyData × PyData)) : (DV.odk xs).val = some (.dict xs) := rfl
end DL
namespace DL
open PySem PySem.Spec L2
section
variable {X : Cx} {W : WC} {u : Nat} {e : Expr} {es : List Expr} {m m' : ME} {pos : Pos}
end
end DL
namespace L2
open PySem PySem.Spec PyProof.Rows
section
variable {P : Program} {w : World} {A : Around} {E : Value → Shared → Prop} {s : Shared}
abbrev newSet (w : World) : Obj := { cls := .type "set", dict := none, data := .set #[] 0 (.fresh 0 0 (!w.params.followText "set-order")) }
theorem set_by_init (x : Value) {T : Value → Shared → Prop}
    (h : wpAny (model P w) ((A.in1).in1) (Builtin.«set.__init__» ⟨[.ref s.heap.objs.size, x], []⟩)
      (fun fin s' => match fin with
        | .done f => wants (fun r s₂ => r = .none ∧ T (.ref s.heap.objs.size) s₂) E (.ok f) s'
        | .again c' => c'.quiet = true ∧ codeAny (model P w) (A.in1) c' (wants (fun r s₂ => r = .none ∧ T (.ref s.heap.objs.size) s₂) E) s')
      (fun e s' => wants (fun r s₂ => r = .none ∧ T (.ref s.heap.objs.size) s₂) E (.error e) s') { s with heap := s.heap.push (newSet w) }) :
    wpAny (model P w) A (call (.type "set") [x]) T E s := by
  have mr := F.called_set.mro; obtain ⟨c, tl, hmro⟩ := mr
  have g1 := F.called_set.made; have g2 := F.called_set.sub; have g3 := F.called_set.notType; have g4 := F.called_set.canCreate; have g5 := F.typeCall_set_1 x
  refine wpAny_call (codeAny_of_tree (by
    show wpAny _ _ (callAny (.type "set") _) _ _ _
    refine wpAny_pure ⟨Code.quiet_builtin _ (by decide +kernel), codeAny_builtin F.entry_type_call (by
      rw [Around.under_plain (weight_type_call_type "set" [x] []) rfl]
      repeat (any_goals (first | assumption | wp_step))
      refine codeAny_mono (code_set_led1 x (E := E) (Q₁ := fun o s₁ => o = .ref s.heap.objs.size ∧ s₁ = { s with heap := s.heap.push (newSet w) }) ⟨rfl, rfl⟩) fun r s₁ hr => ?_
      match r, hr with
      | .error e, hr => exact hr
      | .ok (.ret o), hr =>
        obtain ⟨e1, e2⟩ := hr
        subst e1; subst e2
        have live : (s.heap.push (newSet w)).get? s.heap.objs.size = some (newSet w) := Heap.get?_push_size _ rfl
        have ty : Shared.TypeIs { s with heap := s.heap.push (newSet w) } (.ref s.heap.objs.size) "set" := ⟨_, live, rfl⟩
        have g6 := F.called_set.init.lookup; have g7 := F.called_set.init.bind (.ref s.heap.objs.size)
        repeat (any_goals (first | assumption | wp_step))
        refine codeAny_mono (codeAny_call_builtin (R := wants (fun r s₂ => r = .none ∧ T (.ref s.heap.objs.size) s₂) E) F.called_set.init.plain F.entry_set_init (check_set_init_1 ty h)) fun r₂ s₂ hr₂ => ?_
        match r₂, hr₂ with
        | .error e, hr₂ => exact hr₂
        | .ok (.ret r), hr₂ =>
          obtain ⟨e1, hq⟩ := hr₂
          subst e1
          repeat (any_goals (first | assumption | wp_step))
        | .ok (.next), hr₂ => exact hr₂.elim
        | .ok (.brk), hr₂ => exact hr₂.elim
        | .ok (.cont), hr₂ => exact hr₂.elim
      | .ok (.next), hr => exact hr.elim
      | .ok (.brk), hr => exact hr.elim
      | .ok (.cont), hr => exact hr.elim)⟩))
theorem nodup_sub {α : Type} [DecidableEq α] : ∀ {xs L : List α}, xs.Nodup → (∀ x ∈ xs, x ∈ L) → xs.length ≤ L.length
  | [], L, _, _ => Nat.zero_le _
  | x :: xs, L, hn, hs => by
    have h1 := List.nodup_cons.mp hn
    have hx := hs x (by simp)
    have := nodup_sub (L := L.erase x) h1.2 fun y hy => (List.mem_erase_of_ne (fun e : y = x => h1.1 (e ▸ hy))).mpr (hs y (by simp [hy]))
    rw [List.length_erase_of_mem hx] at this
    have := List.length_pos_of_mem hx
    simp only [List.length_cons]
    omega
end
end L2
namespace DL
open PySem PySem.Spec L2
section
variable {X : Cx} {W : WC} {u1 : Nat} {e : Expr} {pos : Pos} {mas : MA}
end
end DL
namespace DL
open PySem PySem.Spec L2
theorem six_pos {n d : Nat} {j : Int} (h : 0 ≤ j) : HT.sIx n d (some j) = min j.toNat n := by
  show (if j < 0 then _ else _) = _
  rw [if_neg (by omega)]
theorem six_none {n d : Nat} : HT.sIx n d none = d := rfl
theorem cut_pre {xs : List PyData} {j : Int} (h : 0 ≤ j) : cutD xs none (some j) = xs.take j.toNat := by
  unfold cutD
  rw [six_none, six_pos h, List.drop_zero, Nat.sub_zero]
  rcases Nat.le_total j.toNat xs.length with q | q
  · rw [Nat.min_eq_left q]
  · rw [Nat.min_eq_right q, List.take_of_length_le (Nat.le_refl _), List.take_of_length_le q]
end DL
namespace DL
open PySem PySem.Spec L2
section
variable {X : Cx} {W : WC} {u1 u2 : Nat} {a b : Expr} {pos : Pos} {ma mb : ME}
end
section
variable {xs : List PyData} {neg : Bool} {R : DV → Prop}
end
end DL
namespace DL
open PySem PySem.Spec L2
theorem at3 {a b c d : PyData} {l : List PyData} : atI (a :: b :: c :: d :: l) 3 = some d := atI_nat (j := 3) rfl
theorem at4 {a b c d e : PyData} {l : List PyData} : atI (a :: b :: c :: d :: e :: l) 4 = some e := atI_nat (j := 4) rfl
theorem at5 {a b c d e f : PyData} {l : List PyData} : atI (a :: b :: c :: d :: e :: f :: l) 5 = some f := atI_nat (j := 5) rfl
theorem eqv_same (a : Str) : PyData.eqv (.str a) (.str a) = true := by simp [PyData.eqv]
theorem natD_ints (ks : List Nat) : ks.map natD = (ks.map fun k : Nat => (k : Int)).map PyData.int := by rw [List.map_map]; rfl
theorem inD {ks : List Nat} {k : Nat} : ((ks.map natD).any fun z => PyData.eqv z (.int (k : Nat))) = decide (k ∈ ks) := by
  rw [natD_ints, any_ints]
  have e2 : ((k : Nat) : Int) ∈ (ks.map fun k : Nat => (k : Int)) ↔ k ∈ ks := by
    rw [List.mem_map]
    constructor
    · rintro ⟨a, ha, hk⟩
      have : a = k := by omega
      exact this ▸ ha
    · exact fun h => ⟨k, h, rfl⟩
  exact decide_eq_decide.mpr e2
theorem seq_gen {m1 m2 : MS} {ex : XD} {E : DEnds} {δ : Env} (I : Env → Prop) (h2 : ∀ δ', I δ' → m2 ex E δ') (h1 : ∀ K : Env → Prop, (∀ δ', I δ' → K δ') → m1 ex { E with nx := K } δ) : mSeq m1 m2 ex E δ := h1 _ h2
def AllP (P : PyData → Prop) (xs : List PyData) : Prop := ∀ x ∈ xs, P x
section
variable {P : PyData → Prop} {xs ys : List PyData} {x : PyData}
theorem AllP.nil : AllP P [] := fun x h => by cases h
theorem AllP.one (h : P x) : AllP P [x] := fun y hy => by cases List.mem_singleton.mp hy; exact h
theorem AllP.cons (h : P x) (t : AllP P xs) : AllP P (x :: xs) := fun y hy => by
  rcases List.mem_cons.mp hy with rfl | q
  · exact h
  · exact t y q
theorem AllP.take (h : AllP P xs) (n : Nat) : AllP P (xs.take n) := fun y hy => h y (List.mem_of_mem_take hy)
theorem AllP.drop (h : AllP P xs) (n : Nat) : AllP P (xs.drop n) := fun y hy => h y (List.mem_of_mem_drop hy)
theorem AllP.imp {Q : PyData → Prop} (h : AllP P xs) (f : ∀ x, P x → Q x) : AllP Q xs := fun y hy => f y (h y hy)
end
theorem lc_rel {g : MG} {tt : MT} {te : ME} {δ : Env} {R : DV → Prop} (P : Nat → PyData → PyData → Prop) : ∀ (ds acc : List PyData) (n : Nat),
    (∀ i d, ds[i]? = some d → ∀ (K1 : PyData → Prop) (K0 : Prop), (∀ z, P (n + i) d z → K1 z) → g (.d d) δ fun δ' => tt ex0 δ' fun c => (c = true → te ex0 δ' fun y => match y.val with
      | some z => K1 z
      | none => False) ∧ (c = false → K0)) → acc.length + ds.length ≤ sizeLine → (∀ zs : List PyData, zs.length = ds.length → (∀ i d z, ds[i]? = some d → zs[i]? = some z → P (n + i) d z) → R (.own (acc ++ zs))) → lcRun g tt te δ R ds acc
  | [], acc, n, _, _, h => by
    unfold lcRun
    have := h [] rfl fun i d z e => by simp at e
    simpa using this
  | d :: ds, acc, n, hs, hz, h => by
    unfold lcRun
    rw [List.length_cons] at hz
    refine hs 0 d (by simp) (fun z => acc.length < sizeLine ∧ lcRun g tt te δ R ds (acc ++ [z])) (lcRun g tt te δ R ds acc) (fun z hP => ⟨by omega, ?_⟩)
    refine lc_rel P ds _ (n + 1) (fun i d' hd => by
      have := hs (i + 1) d' (by simpa using hd)
      rwa [show n + (i + 1) = n + 1 + i by omega] at this) (by simp; omega) fun zs h1 h2 => ?_
    have := h (z :: zs) (by simp [h1]) fun i d' z' e1 e2 => by
      cases i with
      | zero => simp at e1 e2; subst e1; subst e2; exact hP
      | succ i =>
        have := h2 i d' z' (by simpa using e1) (by simpa using e2)
        rwa [show n + 1 + i = n + (i + 1) by omega] at this
    simpa using this
end DL
namespace DL
open PySem PySem.Spec L2 StX
structure BindSK (K : PySem.W.Frag) (fd : FuncData) (pk pv : Str) (D : Addr) : Prop where
  without : ∀ (du : Value) (rest : List Value), PySem.W.nsIn K D pk = some (some du) → ∃ (β γ : Type) (k1 : Option Value → Sem β) (k2 : β → Sem γ) (k3 : γ → Sem (List (Str × Value))) (a : β), bindArgs fd ⟨rest, []⟩ = ((nsGet D pk >>= k1) >>= k2) >>= k3 ∧ k1 (some du) = pure a ∧ (k2 a >>= k3) = (newTuple rest >>= fun t => pure [(pk, du), (pv, t)])
  with_ : ∀ (u : Value) (rest : List Value), bindArgs fd ⟨rest, [(pk, u)]⟩ = (newTuple rest >>= fun t => pure [(pk, u), (pv, t)])
structure FunSK (K : PySem.W.Frag) (x qual : Str) (st : Stmt) (f : Addr) (pk pv : Str) (dv : V) : Prop where
  ex : ∃ (oc : Value) (od : Option Addr) (D : Addr) (doc pm : Value) (an : Option Addr) (cdv ct du : Value) (osl : Array (Option Value)),
    K.lookup f = some ⟨oc, od, .func (PySem.W.fnOf x qual (L2.defArgs st) (L2.defBody st) (L2.defScope st) .none (.ref D) doc pm an cdv ct), osl⟩ ∧ PySem.W.codeIn K cdv qual = true ∧ PySem.W.nsIn K D pk = some (some du) ∧ RelV dv du ∧
    BindSK K (PySem.W.fnOf x qual (L2.defArgs st) (L2.defBody st) (L2.defScope st) .none (.ref D) doc pm an cdv ct) pk pv D
  kp : PySem.W.keepIn K (.ref f) = true
structure FnSK (P : Program) (w : World) (K : PySem.W.Frag) (mg : Str → Option Value) (base : Heap) (k : Nat) (f : Addr) (pk : Str) (dv : V) (sp : Sp) : Prop where
  run : ∀ (A : Around) (outer : List PySem.Env) (s : Shared) (H : Hp) (us : List Value) (vs : List V) (kw : List (Str × Value)) (gv : V) (Q : VK) (E : XK), A.guards = some [] → Room k A → Env0 P w K mg base A outer s H → Vals vs us → ((kw = [] ∧ gv = dv) ∨ ∃ u, kw = [(pk, u)] ∧ RelV gv u) → sp (gv :: vs) H Q E →
    codeAny (model P w) A (.call (.ref f) ⟨us, kw⟩) (CR (L2.CX P w) outer P w H s Q E) s
section
variable {P : Program} {w : World} {K : PySem.W.Frag} {mg : Str → Option Value} {base : Heap}
structure DFnSK (P : Program) (w : World) (K : PySem.W.Frag) (mg : Str → Option Value) (base : Heap) (CK : CKT) (x pk : Str) (dd : PyData) (k u : Nat) (mf : MF) : Prop where
  ex : ∃ f dv, mg x = some (.ref f) ∧ PySem.W.keepIn K (.ref f) = true ∧ (∀ F, At K F dv dd) ∧ FnSK P w K mg base k f pk dv (spS K mg CK u mf)
theorem DFnSK.le {x pk : Str} {dd : PyData} {k u u' : Nat} {mf : MF} {CK : CKT} (h : DFnSK P w K mg base CK x pk dd k u mf) (hu : u ≤ u') : DFnSK P w K mg base CK x pk dd k u' mf := by
  obtain ⟨f, dv, h1, h2, h3, h5⟩ := h
  refine ⟨f, dv, h1, h2, h3, ⟨fun A outer s H us vs kw gv Q E hg hr e0 r hk q => h5.run A outer s H us vs kw gv Q E hg hr e0 r hk ?_⟩⟩
  obtain ⟨G, F, as, R, ex, q2, q3, q4, q5, q6, q7, q8, q9⟩ := q
  exact ⟨G, F, as, R, ex, q2, ⟨q3.1, Nat.le_trans (Nat.add_le_add_left hu _) q3.2⟩, q4, q5, q6, q7, fun r hr ha v F' H' g => q8 r hr ha v F' H' (g.mono hu), fun e he b cls d F' H' hb g => q9 e he b cls d F' H' (Nat.le_trans hb hu) g⟩
end
section
variable {X : Cx} {W : WC} {e e0 : Expr} {es : List Expr} {pos p kp : Pos} {mas : MA} {me : ME} {x pk : Str} {dd : PyData} {k j u1 u2 u3 : Nat} {mf : MF}
theorem liftE_mono {Q Q' : VK} {σ : L2.St} {H : Hp} (h : liftE X.K X.mg W u3 me σ H Q) (i : ∀ v H', Q v H' → Q' v H') : liftE X.K X.mg W u3 me σ H Q' := by
  obtain ⟨ex, G, F, δ, τ, ts, τ1, ts1, R, nw, m, k⟩ := h
  exact ⟨ex, G, F, δ, τ, ts, τ1, ts1, R, nw, m, fun r hr v F' H' g => i _ _ (k r hr v F' H' g)⟩
end
end DL
namespace DL
open PySem PySem.Spec L2 PySem.W
section
variable {X : Cx} {W : WC} {u1 u2 k : Nat} {pos : Pos} {K' : Frag} {mg' : Str → Option Value} {L : List Str} {sub : Str → Str → Bool}
end
end DL
namespace DL
open PySem PySem.Spec L2
theorem IsStart.uniq {l : SRow} {s m k : Nat} (h1 : IsStart l s m) (h2 : IsStart l s k) : m = k := by
  rcases Nat.lt_trichotomy m k with h | h | h
  · obtain ⟨j, a, b, c⟩ := h1.ch (k - 1) (by omega) (by have := h2.le; omega)
    have := h2.st (by omega) j (by omega) b
    omega
  · exact h
  · obtain ⟨j, a, b, c⟩ := h2.ch (m - 1) (by omega) (by have := h1.le; omega)
    have := h1.st (by omega) j (by omega) b
    omega
def behL (b : Int) (l m : SRow) : SRow := l ++ m.map fun p => (p.1 + b, p.2)
structure Beh (b : Int) (l m : SRow) : Prop where
  il : Inc l
  im : Inc m
  n : l.length + m.length ≤ 1000
  lt : pl l (l.length - 1) < pl m 0 + b
section
variable {b : Int} {l m : SRow}
theorem beh_len : (behL b l m).length = l.length + m.length := by unfold behL; simp
theorem beh_l {i : Nat} (h : i < l.length) : pl (behL b l m) i = pl l i ∧ ht (behL b l m) i = ht l i := by
  unfold pl ht behL
  simp only [List.getD_eq_getElem?_getD, List.getElem?_append_left h]
  exact ⟨trivial, trivial⟩
theorem beh_r {i : Nat} (h : i < m.length) : pl (behL b l m) (l.length + i) = pl m i + b ∧ ht (behL b l m) (l.length + i) = ht m i := by
  unfold pl ht behL
  simp only [List.getD_eq_getElem?_getD, List.getElem?_append_right (Nat.le_add_right _ _), Nat.add_sub_cancel_left, List.getElem?_map, List.getElem?_eq_getElem h]
  exact ⟨rfl, rfl⟩
theorem Inc.le_end {l : SRow} (I : Inc l) {i : Nat} (h : i < l.length) : pl l i ≤ pl l (l.length - 1) := by
  rcases Nat.lt_or_ge i (l.length - 1) with q | q
  · have := I.inc i (l.length - 1) q (by omega); omega
  · have : i = l.length - 1 := by omega
    rw [this]; omega
theorem Inc.ge0 {l : SRow} (I : Inc l) {i : Nat} (h : i < l.length) : pl l 0 ≤ pl l i := by
  rcases Nat.eq_zero_or_pos i with rfl | q
  · omega
  · have := I.inc 0 i q h; omega
theorem Beh.inc (B : Beh b l m) : Inc (behL b l m) := by
  have hl := B.il.n0
  have hm := B.im.n0
  refine ⟨by rw [beh_len]; omega, by rw [beh_len]; exact B.n, fun i j hij hj => ?_, fun i hi => ?_⟩
  · rw [beh_len] at hj
    rcases Nat.lt_or_ge j l.length with q | q
    · rw [(beh_l (show i < l.length by omega)).1, (beh_l q).1]
      exact B.il.inc i j hij q
    · obtain ⟨j', rfl⟩ : ∃ j', j = l.length + j' := ⟨j - l.length, by omega⟩
      rw [(beh_r (show j' < m.length by omega)).1]
      have h0 := B.im.ge0 (show j' < m.length by omega)
      rcases Nat.lt_or_ge i l.length with q2 | q2
      · rw [(beh_l q2).1]
        have := B.il.le_end q2
        have := B.lt
        omega
      · obtain ⟨i', rfl⟩ : ∃ i', i = l.length + i' := ⟨i - l.length, by omega⟩
        rw [(beh_r (show i' < m.length by omega)).1]
        have := B.im.inc i' j' (by omega) (by omega)
        omega
  · rw [beh_len] at hi
    rcases Nat.lt_or_ge i l.length with q | q
    · rw [(beh_l q).2]; exact B.il.hp i q
    · obtain ⟨i', rfl⟩ : ∃ i', i = l.length + i' := ⟨i - l.length, by omega⟩
      rw [(beh_r (show i' < m.length by omega)).2]
      exact B.im.hp i' (by omega)
end
structure Shp (d : PyData) (n : Nat) : Prop where
  ly : d.canLay0 = true
  de : d.depth ≤ n
theorem Shp.shaped {d : PyData} {n : Nat} (h : Shp d n) (hn : n ≤ 64 := by decide) : SeqAt.shaped d = true := by
  unfold SeqAt.shaped
  rw [h.ly, Bool.true_and]
  exact decide_eq_true (Nat.le_trans h.de hn)
end DL
namespace DL
open PySem PySem.Spec L2
end DL
namespace DL
open PySem PySem.Spec L2 PySem.W
theorem Inv.xe {X : Cx} {pins : List (Addr × Obj)} {σ : L2.St} {H : Hp} {s : Shared} {e e' : Value → Shared → Prop} (I : Inv { X with xe := e } pins σ H s) : Inv { X with xe := e' } pins σ H s := by
  obtain ⟨k, i2, i3, i4, i5, i6, i7, i8, i9, i10, i11⟩ := I
  obtain ⟨j1, j2, j3, j4, j5, j6, j7, j8, j9, j10, j11, j12, j13, j14, j15, j16, j17, j18⟩ := k
  exact ⟨⟨j1, j2, j3, j4, j5, j6, j7, j8, j9, j10, j11, j12, j13, j14, j15, j16, j17, j18⟩, i2, i3, i4, i5, i6, i7, i8, i9, i10, i11⟩
section
variable {P : Program} {w : World} {K : PySem.W.Frag} {mg : Str → Option Value} {base : Heap}
structure DFnE (P : Program) (w : World) (K : PySem.W.Frag) (mg : Str → Option Value) (base : Heap) (L : List Str) (x : Str) (mf : DExc → (DV → Prop) → Prop) : Prop where
  ex : ∃ f, mg x = some (.ref f) ∧ PySem.W.keepIn K (.ref f) = true ∧ ∀ (A : Around) (outer : List PySem.Env) (s : Shared) (H F : Hp) (Q : VK) (a C : Addr) (d : Option Addr) (oe : Obj) (er : DExc) (G : Gm) (R : DV → Prop), A.guards = some [] → L2H.RoomH 1 A → A.handled = some (.ref a) → L2H.PinOk outer H s (a, oe) → Env0 P w K mg base A outer s H →
    Zc (.ref C) d oe → (∃ vs, oe.data = .fields vs) → C = clsA mg er.cls → er.cls ∈ L → G.K = K → G.n ≤ G.lim → Good G F [some (.exc a C d er)] [some (.ref a)] H → mf er R → (∀ r, R r → r.arg = true → ∀ v F' H', Good G F' [some r] [some v] H' → Q v H') →
    codeAny (model P w) A (.call (.ref f) ⟨[.ref a], []⟩) (CR L2.CX0 outer P w H s Q L2.E0) s
end
section
variable {u : Nat} {X : Cx} {W : WC} {a C : Addr} {oe : Obj} {d : Option Addr} {pn : List (Addr × Obj)} {e : Expr} {me : ME} {pos p : Pos} {k : Nat} {L : List Str} {x : Str} {mf : DExc → (DV → Prop) → Prop} {mg' : Str → Option Value}
end
end DL
namespace DL
open PySem PySem.Spec L2
section
variable {u : Nat} {X : Cx} {W : WC} {e : Expr} {pos p : Pos} {mas : MA}
end
end DL
namespace DL
open PySem PySem.Spec L2 PySem.W
abbrev veB : List Value := [.type "ValueError", .type "Exception", .type "BaseException", .type "object"]
structure XMk0 (K : Frag) (mg : Str → Option Value) (x : Str) : Prop where
  ex : ∃ C, mg x = some (.ref C) ∧ excIn K C veB "ValueError.__new__" = true ∧ keepIn K (.ref C) = true ∧ subIn K (.ref C) (.type "BaseException") = some true ∧ typeIn K (.ref C) = some (.type "type")
section
variable {X : Cx} {W : WC} {x : Str} {p p2 pos : Pos} {k : Nat}
end
end DL
namespace DL
open PySem PySem.Spec L2 PySem.W
def pairOf : PyData → Option (Int × Int)
  | .tuple [.int a, .int b] => some (a, b)
  | _ => none
section
variable {u : Nat} {X : Cx} {W : WC} {e : Expr} {pos p : Pos} {mas : MA}
end
end DL
namespace DL
open PySem PySem.Spec L2 PySem.W
theorem vals_nth : ∀ {xs : List V} {us : List Value} {i : Nat} {u : Value}, Vals xs us → us[i]? = some u → ∃ x, xs[i]? = some x ∧ RelV x u
  | _, _, i, u, .nil, e => by simp at e
  | _, _, 0, u, .cons r _, e => by
    simp at e
    subst e
    exact ⟨_, rfl, r⟩
  | _, _, i + 1, u, .cons _ t, e => by
    obtain ⟨x, h1, h2⟩ := vals_nth (i := i) t (by simpa using e)
    exact ⟨x, by simpa using h1, h2⟩
section
variable {u : Nat} {X : Cx} {W : WC} {e : Expr} {pos p : Pos} {mas : MA}
end
section
variable {ps : List (Int × Int)} {xs : List PyData} {R : DV → Prop}
end
end DL
namespace DL
open PySem PySem.Spec L2 PySem.W
section
variable {G : Gm} {F F' H H' : Hp} {δ : Env} {σ : L2.St} {v : V} {dv : DV} {p : Addr} {o : HO}
theorem Good.outer (g : Good G F δ σ H) (hk : ∀ q, ¬ G.C q → ∀ o, H q = some o → H' q = some o) (hj : G.J G.n H') : Good G F δ σ H' := by
  refine ⟨g.g, g.len, g.f0, fun b u e => hk b (fun c => by rw [g.cf b c] at e; cases e) _ (g.fh _ _ e), g.fr, fun b u c e => hk b c _ (g.bh _ _ c e), g.cf, hj, fun i z e => ?_, g.di⟩
  obtain ⟨w, e1, h⟩ := g.sl i z e
  refine ⟨w, e1, h.keep (Same.refl F) (fun l u ho hv hl => hk l ?_ _ hl) fun _ _ _ q => q⟩
  obtain ⟨l', _, r1, _, r3⟩ := bor_at h ho
  rw [hv] at r1
  cases r1
  exact own_nc g r3
def dropO (δ : Env) : Env := δ.map fun x => match x with
  | some (.d y) => some (.d y)
  | some .cask => some .cask
  | some (.raw v) => some (.raw v)
  | some (.scr xs) => some (.scr xs)
  | some (.fvs t xs) => some (.fvs t xs)
  | _ => none
theorem drop_get {i : Nat} {x : DV} (h : (dropO δ)[i]? = some (some x)) : δ[i]? = some (some x) ∧ x.arg = true := by
  unfold dropO at h
  rw [List.getElem?_map] at h
  cases q : δ[i]? with
  | none => rw [q] at h; cases h
  | some y =>
    rw [q] at h
    cases y with
    | none => cases h
    | some z =>
      cases z with
      | d _ => cases h; exact ⟨rfl, rfl⟩
      | cask => cases h; exact ⟨rfl, rfl⟩
      | raw _ => cases h; exact ⟨rfl, rfl⟩
      | scr _ => cases h; exact ⟨rfl, rfl⟩
      | fvs _ _ => cases h; exact ⟨rfl, rfl⟩
      | _ => cases h
theorem drop_len : (dropO δ).length = δ.length := by unfold dropO; simp
theorem Good.drop (hl : δ.length = σ.length) {A : Env} {A' : L2.St} (g : Good G F (δ ++ A) (σ ++ A') H) : Good (G.into F H) F (dropO δ) σ H := by
  refine ⟨⟨g.g.js, g.g.jm, g.g.jn, fun q c => g.g.jn _ H g.jh q c, g.g.jt⟩, by rw [drop_len]; exact hl, Same.refl F, g.fh, fun q a b => absurd b a, fun q u _ e => e, g.cf, g.jh, fun i z e => ?_, fun i j a b l ha _ e1 _ _ _ => ?_⟩
  · obtain ⟨e1, e2⟩ := drop_get e
    have hi : i < δ.length := (List.getElem?_eq_some_iff.mp e1).1
    obtain ⟨w, e3, h⟩ := g.sl i z (by rw [List.getElem?_append_left hi]; exact e1)
    rw [List.getElem?_append_left (by omega)] at e3
    refine ⟨w, e3, ?_⟩
    cases z with
    | d _ => exact h
    | cask => exact h
    | raw _ => exact h
    | scr _ => exact h
    | fvs _ _ => exact h
    | _ => cases e2
  · obtain ⟨_, e2⟩ := drop_get e1
    cases a with
    | own _ => cases e2
    | odk _ => cases e2
    | olk _ _ => cases e2
    | odt _ _ => cases e2
    | ins _ _ _ => cases e2
    | _ => cases ha
end
open LamX
section
variable {X : Cx} {pinsO : List (Addr × Obj)} {σo : L2.St} {Ho : Hp} {so : Shared}
def GivesD (Pr : Program) (wo : World) (K : Frag) (mg : Str → Option Value) (base : Heap) (A : Around) (stack : List PySem.Env) (Ng : List Str) (x : Str) (sg : Scope) (g : Addr) (cdg : Value) (bg : List Stmt) (a q : Str) (TT : (XK → Hp → VK → Prop) → Hp → VK → Prop) : Prop :=
  ∀ (f c' : Addr) (s : Shared) (H : Hp) (Q : VK) (tl : XK → Hp → VK → Prop),
    (∀ (W : WX) (pn : List (Addr × Obj)) (xe : Value → Shared → Prop) (p1 p2 : Pos), Takes ((cxOf C8.CX0 Pr wo K mg base Ng x sg g cdg A stack s H C8.E0).tr pn xe) W →
      PE ((cxOf C8.CX0 Pr wo K mg base Ng x sg g cdg A stack s H C8.E0).tr pn xe) (.Call (.Name a p1) [] [] p2) (fun σz Hz R => σz[0]? = some (some (.ref f)) ∧ Hz c' = some (CodeO c' q) ∧ tl (WE W σz) Hz R)) →
    H c' = some (CodeO c' q) → TT tl H Q →
    ∃ t, PSs (cxOf C8.CX0 Pr wo K mg base Ng x sg g cdg A stack s H C8.E0).nox bg t ∧ t { nx := fun _ H' => Q .non H', rt := Q } (L2.start Ng [.ref f]) H
end
def E1 (K : Frag) (mg : Str → Option Value) (L : List Str) (tE : DExc → (DV → Prop) → Prop) (p : Addr) (Q : VK) : XK := fun cls d H' => ∃ (G : Gm) (F : Hp) (er : DExc) (R : DV → Prop), ExcAt K mg F H' er cls d ∧ er.cls ∈ L ∧ G.K = K ∧ G.n ≤ G.lim ∧ Good G F [some (.own [])] [some (.ref p)] H' ∧ tE er R ∧
  ∀ r, R r → r.arg = true → ∀ v F' H', Good G F' [some r] [some v] H' → Q v H'
def TTd (K : Frag) (mg : Str → Option Value) (L : List Str) (tE : DExc → (DV → Prop) → Prop) : (XK → Hp → VK → Prop) → Hp → VK → Prop := fun tl H Q => ∀ p, H p = none → ∀ (E' : XK) (Q' : VK), (∀ cls d H', E1 K mg L tE p Q cls d H' → E' cls d H') →
  (∀ v H3, (∀ p2, H3 p2 = none → Q (.ref p2) (upd H3 p2 (.tup [.str "result", v]))) → Q' v H3) → tl E' (upd H p (.lst [])) Q'
section
variable {K : Frag} {mg : Str → Option Value} {L : List Str} {sub : Str → Str → Bool} {xn : Str} {tE : DExc → (DV → Prop) → Prop} {ms : Addr → Addr → Option Addr → MS} {ml : MS}
end
open LamX
structure DTold (P : Program) (w : World) (K : Frag) (mg : Str → Option Value) (base : Heap) (L : List Str) (x : Str) (tE : DExc → (DV → Prop) → Prop) : Prop where
  ex : ∃ (g : Addr) (oc : Value) (od an : Option Addr) (pg : Arguments) (bg : List Stmt) (sg : Scope) (dV kV doc pm cdv ct : Value) (osl : Array (Option Value)) (Ng : List Str) (a : Str),
    mg x = some (.ref g) ∧ keepIn K (.ref g) = true ∧ K.lookup g = some ⟨oc, od, .func (fnOf x x pg bg sg dV kV doc pm an cdv ct), osl⟩ ∧ codeIn K cdv x = true ∧ L2.Binds K (fnOf x x pg bg sg dV kV doc pm an cdv ct) [a] [] ∧
    FnScope Ng [a] sg ∧ Ng[0]? = some a ∧ Vis sg a ∧ (a == ("__debug__" : Str)) = false ∧ (a == ("__classdict__" : Str)) = false ∧
    ∀ (A : Around) (stack : List PySem.Env) (q : Str), A.guards = some [] → Room 2 A → GivesD P w K mg base A stack Ng x sg g cdv bg a q (TTd K mg L tE)
structure CkTab (ck : CKT) (P : Addr) (T : List (Addr × Str)) : Prop where
  tabs : ∀ C cv J lim n H, ck C cv J lim → J n H → Tabs T H
  mv : ∀ C cv J lim n H H1, ck C cv J lim → J n H → (∀ b o, H b = some o → b ≠ P → H1 b = some o) → Tabs T H1 → J n H1
  inC : ∀ C cv J lim, ck C cv J lim → C P
section
variable {X : Cx} {W : WC} {L : List Str} {x : Str} {tE : DExc → (DV → Prop) → Prop} {P c : Addr} {T : List (Addr × Str)} {params : Arguments} {body : Expr} {scope : Scope} {p lpos pos : Pos} {me : ME} {j k u : Nat}
end
section
variable {δ : Env} {x : PyData} {xs : List PyData} {v : V}
theorem dr_nil : dropO [] = [] := rfl
theorem dr_n : dropO (none :: δ) = none :: dropO δ := rfl
theorem dr_d : dropO (some (.d x) :: δ) = some (.d x) :: dropO δ := rfl
theorem dr_c : dropO (some .cask :: δ) = some .cask :: dropO δ := rfl
theorem dr_o : dropO (some (.own xs) :: δ) = none :: dropO δ := rfl
theorem dr_b : dropO (some (.bor xs) :: δ) = none :: dropO δ := rfl
theorem dr_r : dropO (some (.raw v) :: δ) = some (.raw v) :: dropO δ := rfl
end
end DL
namespace DL
open PySem PySem.Spec L2 PySem.W LamX
section
variable {P : Program} {w : World} {K : Frag} {mg : Str → Option Value} {base : Heap}
end
section
variable {P : Program} {w : World} {K : Frag} {mg mb : Str → Option Value} {k : Nat} {fa a c T : Addr} {fd : FuncData} {x : Str} {sp : Sp} {s₁ : Shared} {vs : List Value} {ns : List Int}
end
end DL
namespace DL
open PySem PySem.Spec L2 PySem.W
section
open AutoSeq1 (wpAny_loadPart')
open MeetsSeq SeqAt
variable {A : Around} {s : Shared}
end
section
variable {X : Cx} {W : WC} {u1 u2 : Nat} {a b : Expr} {ma mb : ME} {pos : Pos}
end
theorem dr_s {δ : Env} {x : Option DV} {n : Nat} : (dropO (x :: δ))[n + 1]? = (dropO δ)[n]? := rfl
end DL
namespace DL
open PySem PySem.Spec L2
structure Tr (F F' : Hp) : Prop where
  o : ∀ b u, F b = some u → (∀ kvs, ¬ Rd F b (.dK kvs)) → F' b = some u
  d : ∀ b kvs, Rd F b (.dK kvs) → Rd F' b (.dK kvs)
section
variable {K : PySem.W.Frag} {F F' : Hp}
theorem Tr.lst (e : Tr F F') {a : Addr} {vs : List V} (h : F a = some (.lst vs)) : F' a = some (.lst vs) := e.o _ _ h fun kvs q => by
  rcases q with q | ⟨o, q⟩ <;> (rw [h] at q; cases q)
theorem Tr.ne (e : Tr F F') {a : Addr} {u : HO} (h : F a = some u) (h1 : ∀ kvs, u ≠ .dK kvs) (h2 : ∀ o kvs, u ≠ .frz o (.dK kvs)) : F' a = some u := e.o _ _ h fun kvs q => by
  rcases q with q | ⟨o, q⟩
  · rw [h] at q; cases q; exact h1 _ rfl
  · rw [h] at q; cases q; exact h2 _ _ rfl
mutual
theorem At.tr (e : Tr F F') : ∀ (d : PyData) (v : V), At K F v d → At K F' v d
  | .none, _, h => by cases h; exact .non
  | .bool b, _, h => by cases h; exact .bl b
  | .int i, _, h => by cases h; exact .int i
  | .str x, _, h => by cases h; exact .str x
  | .list ds, _, h => by
    cases h with
    | lst hs ha => exact .lst (e.lst hs) (AtL.tr e ds _ ha)
  | .tuple ds, _, h => by
    cases h with
    | tup hs ha => exact .tup (e.ne hs (fun _ z => by cases z) (fun _ _ z => by cases z)) (AtL.tr e ds _ ha)
  | .dict ds, _, h => by
    cases h with
    | dct hs ha => exact .dct (e.d _ _ hs) (AtKv.tr e ds _ ha)
    | obj hs ho hn ha => exact .obj (e.ne hs (fun _ z => by cases z) (fun _ _ z => by cases z)) ho hn (AtKv.tr e _ _ ha)
theorem AtL.tr (e : Tr F F') : ∀ (ds : List PyData) (vs : List V), AtL K F vs ds → AtL K F' vs ds
  | [], _, h => by cases h; exact .nil
  | d :: ds, _, h => by
    cases h with
    | cons h1 h2 => exact .cons (At.tr e d _ h1) (AtL.tr e ds _ h2)
theorem AtKv.tr (e : Tr F F') : ∀ (ds : List (PyData × PyData)) (kvs : List (Key × V)), AtKv K F kvs ds → AtKv K F' kvs ds
  | [], _, h => by cases h; exact .nil
  | (k, d) :: ds, _, h => by
    cases h with
    | cons h1 h2 => exact .cons (At.tr e d _ h1) (AtKv.tr e ds _ h2)
end
end
theorem AtF.tr {K : PySem.W.Frag} {F F' : Hp} (e : Tr F F') {v : V} {x : FV} (h : AtF K F v x) : AtF K F' v x := by
  cases h with
  | d h => exact .d (At.tr e _ _ h)
  | r a => exact .r a
theorem AtFs.tr {K : PySem.W.Frag} {F F' : Hp} (e : Tr F F') : ∀ {vs : List (Str × V)} {fs : List (Str × FV)}, AtFs K F vs fs → AtFs K F' vs fs
  | _, _, .nil => .nil
  | _, _, .cons h r => .cons (h.tr e) (AtFs.tr e r)
theorem AtFl.tr {K : PySem.W.Frag} {F F' : Hp} (e : Tr F F') : ∀ {vs : List V} {fs : List FV}, AtFl K F vs fs → AtFl K F' vs fs
  | _, _, .nil => .nil
  | _, _, .cons h r => .cons (h.tr e) (AtFl.tr e r)
theorem Tr.sqO {F F' : Hp} (e : Tr F F') {a : Addr} {tup : Bool} {vs : List V} (h : F a = some (DL.sqO tup vs)) : F' a = some (DL.sqO tup vs) := by
  cases tup with
  | true => exact e.ne h (fun _ z => by cases z) (fun _ _ z => by cases z)
  | false => exact e.ne h (fun _ z => by cases z) (fun _ _ z => by cases z)
theorem AtKt.tr {K : PySem.W.Frag} {F F' : Hp} (e : Tr F F') : ∀ (ds : List (List Key × PyData)) (kvs : List (List Key × V)), AtKt K F kvs ds → AtKt K F' kvs ds
  | [], _, h => by cases h; exact .nil
  | (k, d) :: ds, _, h => by
    cases h with
    | cons h1 h2 => exact .cons (At.tr e d _ h1) (AtKt.tr e ds _ h2)
section
variable {G : Gm} {F F2 H H2 : Hp} {δ : Env} {σ : L2.St} {i : Nat} {x y : DV} {v : V} {l : Addr} {kvs : List (Key × V)} {ks : List (PyData × PyData)} {o : Obj}
def lkH (M : Hp) (l : Addr) (x : HO) : Hp := fun p => if p = l then (M l).map fun _ => x else M p
@[reducible] def Gm.lk (G : Gm) (l : Addr) (x : HO) : Gm := { G with F0 := lkH G.F0 l x, B := lkH G.B l x }
end
end DL
namespace DL
open PySem PySem.Spec L2
def keyQ : Key → PyData → Bool
  | .inl i, .int j => decide (j = i)
  | .inr x, .str y => decide (y = x)
  | _, _ => false
def lkD : List (PyData × PyData) → Key → Option PyData
  | [], _ => none
  | (k', d) :: r, k => if keyQ k k' = true then some d else lkD r k
def putD (ks : List (PyData × PyData)) (k : Key) (d : PyData) : List (PyData × PyData) :=
  if (lkD ks k).isSome = true then ks.map (fun p => if keyQ k p.1 = true then (p.1, d) else p) else ks ++ [(keyD k, d)]
theorem keyQ_d (k k' : Key) : keyQ k (keyD k') = decide (k' = k) := by
  cases k <;> cases k' <;> simp [keyQ, keyD]
section
variable {K : PySem.W.Frag} {F : Hp}
theorem AtKv.lk : ∀ {kvs : List (Key × V)} {ks : List (PyData × PyData)} (k : Key), AtKv K F kvs ks → (lkD ks k = none ∧ valV kvs k = none) ∨ ∃ v d, lkD ks k = some d ∧ valV kvs k = some v ∧ At K F v d
  | _, _, k, .nil => .inl ⟨rfl, rfl⟩
  | _, _, k, .cons (k := k') (v := v) (d := d) h t => by
    unfold lkD
    by_cases e : k' = k
    · rw [keyQ_d, if_pos (decide_eq_true e), valV_pos (p := (k', v)) e]
      exact .inr ⟨v, d, rfl, rfl, h⟩
    · rw [keyQ_d, if_neg (by simp [e]), valV_neg (p := (k', v)) e]
      exact AtKv.lk k t
theorem AtKv.length : ∀ {kvs : List (Key × V)} {ks : List (PyData × PyData)}, AtKv K F kvs ks → kvs.length = ks.length
  | _, _, .nil => rfl
  | _, _, .cons _ t => by rw [List.length_cons, List.length_cons, AtKv.length t]
theorem AtKv.repl {v : V} {d : PyData} (h : At K F v d) (k : Key) : ∀ {kvs : List (Key × V)} {ks : List (PyData × PyData)}, AtKv K F kvs ks → AtKv K F (kvs.map fun kv => if kv.1 = k then (kv.1, v) else kv) (ks.map fun p => if keyQ k p.1 = true then (p.1, d) else p)
  | _, _, .nil => .nil
  | _, _, .cons (k := k') (v := v') (d := d') h' t => by
    rw [List.map_cons, List.map_cons]
    by_cases e : k' = k
    · rw [if_pos e, if_pos (by rw [keyQ_d]; exact decide_eq_true e)]
      exact .cons h (AtKv.repl h k t)
    · rw [if_neg e, if_neg (by rw [keyQ_d]; simp [e])]
      exact .cons h' (AtKv.repl h k t)
theorem AtKv.snoc {v : V} {d : PyData} (h : At K F v d) (k : Key) : ∀ {kvs : List (Key × V)} {ks : List (PyData × PyData)}, AtKv K F kvs ks → AtKv K F (kvs ++ [(k, v)]) (ks ++ [(keyD k, d)])
  | _, _, .nil => .cons h .nil
  | _, _, .cons h' t => .cons h' (AtKv.snoc h k t)
theorem AtKv.put {v : V} {d : PyData} (h : At K F v d) (k : Key) {kvs : List (Key × V)} {ks : List (PyData × PyData)} (a : AtKv K F kvs ks) : AtKv K F (putK kvs k v) (putD ks k d) := by
  unfold putK putD
  rw [valV_any]
  rcases AtKv.lk k a with ⟨e1, e2⟩ | ⟨v', d', e1, e2, _⟩
  · rw [e1, e2, if_neg (by simp), if_neg (by simp)]
    exact AtKv.snoc h k a
  · rw [e1, e2, if_pos (by simp), if_pos (by simp)]
    exact AtKv.repl h k a
theorem AtKv.get : ∀ {kvs : List (Key × V)} {ks : List (PyData × PyData)} {i : Nat} {p : PyData × PyData}, AtKv K F kvs ks → ks[i]? = some p → ∃ k v, kvs[i]? = some (k, v) ∧ p.1 = keyD k ∧ At K F v p.2
  | _, _, i, p, .nil, e => by simp at e
  | _, _, 0, p, .cons h _, e => by
    simp at e
    subst e
    exact ⟨_, _, rfl, rfl, h⟩
  | _, _, i + 1, p, .cons _ t, e => by
    obtain ⟨k, v, h1, h2⟩ := AtKv.get (i := i) t (by simpa using e)
    exact ⟨k, v, by simpa using h1, h2⟩
end
def DV.key : DV → Option Key
  | .d (.int i) => some (.inl i)
  | .d (.str x) => some (.inr x)
  | _ => none
section
variable {u u1 u2 u3 : Nat} {X : Cx} {W : WC} {a b c e : Expr} {es : List Expr} {pos p1 p2 : Pos} {ma mb me mi : ME} {mas : MA} {m : MS} {x : Str}
theorem PE.or {X : Cx} {e : Expr} {t t' : TE} (h : PE X e t) (h' : PE X e t') : PE X e fun σ H Q => t σ H Q ∨ t' σ H Q := ⟨fun pins s σ H Q I q => by
  rcases q with q | q
  · exact h.run pins s σ H Q I q
  · exact h'.run pins s σ H Q I q⟩
theorem PS.or {X : Cx} {e : Stmt} {t t' : TS} (h : PS X e t) (h' : PS X e t') : PS X e fun D σ H => t D σ H ∨ t' D σ H := ⟨fun pins s σ H D I q => by
  rcases q with q | q
  · exact h.run pins s σ H D I q
  · exact h'.run pins s σ H D I q⟩
variable {tg iter elt : Expr} {ifs : List Expr} {scope : Scope} {own : List (Str × Nat)} {tt : MT} {te : ME} {ut ue : Nat} {dom : List Nat} {mi : MI}
end
section
variable {ks : List (PyData × PyData)} {p : Unit → LkP} {i : Int} {x : Str}
theorem seen_k : DV.seen (.odk ks) = .bdk ks := rfl
theorem seen_bk : DV.seen (.bdk ks) = .bdk ks := rfl
theorem seen_lk : DV.seen (.olk p ks) = .blk p ks := rfl
theorem seen_bl : DV.seen (.blk p ks) = .blk p ks := rfl
theorem seen_ld : DV.seen (.ldk p ks) = .ldk p ks := rfl
theorem fix_k : DV.fix (.odk ks) = .d (.dict ks) := rfl
theorem fix_bk : DV.fix (.bdk ks) = .d (.dict ks) := rfl
theorem isBor_k : DV.isBor (.odk ks) = false := rfl
theorem isBor_bk : DV.isBor (.bdk ks) = true := rfl
theorem isBor_ld : DV.isBor (.ldk p ks) = false := rfl
theorem isObj_0 : isObj [] = false := rfl
theorem isObj_s : isObj ((.str x, y) :: ks) = false := rfl
theorem isObj_i {x : Int} : isObj ((.int x, y) :: ks) = false := rfl
theorem key_i : DV.key (.d (.int i)) = some (.inl i) := rfl
theorem key_s : DV.key (.d (.str x)) = some (.inr x) := rfl
end
end DL
namespace DL
open PySem PySem.Spec L2
theorem DFn.void {P : Program} {w : World} {K : PySem.W.Frag} {mg : Str → Option Value} {base : Heap} {x qual : Str} {st : Stmt} {f : Addr} {fd : FuncData} {ps : List Str} {k u : Nat} {mf : MF} {CK : CKT} (hm : mg x = some (.ref f)) (T : L2.Fun K x qual st f fd) (hb : Binds K fd ps [])
    (z : ∀ as R ex, ¬ mf as R ex) : DFn P w K mg base CK x k u ps.length mf := by
  refine ⟨f, fd, ps, hm, T.kp, hb, rfl, ⟨fun vs H Q E q => q.1, fun A outer s H args us vs Q E hg hr he hb' hv q => ?_⟩⟩
  obtain ⟨_, _, _, _, _, _, _, _, _, _, _, h, _⟩ := q
  exact absurd h (z _ _ _)
end DL
namespace DL
open PySem PySem.Spec L2 PySem.W
section
variable {u : Nat} {X : Cx} {W : WC} {e : Expr} {pos p : Pos} {mas : MA}
end
end DL
namespace DL
open PySem PySem.Spec L2 PySem.W
abbrev HP := Int × Int × Str
def hpD (p : HP) : PyData := .tuple [.int p.1, .tuple [.int p.2.1, .str p.2.2]]
def rMaxH (K : Frag) : List V → Hp → VK → Prop := fun vs H Q => ∃ (a : Addr) (xs : List V) (p : HP) (ps : List HP) (F : Hp), vs = [.ref a] ∧ SqL K H a xs ∧ Same F H ∧ AtL K F xs ((p :: ps).map hpD) ∧ ∀ v, At K F v (maxD (hpD p) (ps.map hpD)) → Q v H
theorem reads_hs {K : Frag} {F : Hp} {h : Heap} : ∀ {xs : List V} {us : List Value} {ps : List HP}, Vals xs us → AtL K F xs (ps.map hpD) → (∀ (x : V) (u : Value) (p : HP), RelV x u → At K F x (hpD p) → ∃ as, Reads h u (hpD p) as) → ∃ as, ReadsAll h us (ps.map hpD) as
  | [], _, ps, r, q, _ => by
    cases r
    cases ps with
    | nil => exact ⟨_, .nil⟩
    | cons _ _ => cases q
  | x :: xs, _, ps, r, q, f => by
    cases r with
    | cons r1 r2 =>
      cases ps with
      | nil => cases q
      | cons p ps =>
        cases q with
        | cons h1 h2 =>
          obtain ⟨as, a1⟩ := f _ _ p r1 h1
          obtain ⟨bs, a2⟩ := reads_hs r2 h2 f
          exact ⟨_, .cons a1 a2⟩
theorem depth_hs : ∀ ps : List HP, PyData.depthAll (ps.map hpD) ≤ 2
  | [] => by simp [PyData.depthAll]
  | p :: ps => by
    have := depth_hs ps
    simp only [List.map_cons, PyData.depthAll]
    have hd : (hpD p).depth ≤ 2 := by simp [hpD, PyData.depth, PyData.depthAll]
    omega
theorem cr_maxH {X : Cx} (hc : X.calm = true) (hu : X.A.units + 64 < cLine) : CallR X (.builtin "max") (rMaxH X.K) := by
  intro pins s σ H vs us Q I r h
  obtain ⟨a, xs, p, ps, F, rfl, hs, hF, hat, q⟩ := h
  obtain ⟨its, rv, hl, hz⟩ := I.list hs
  rw [Vals.ref1 r]
  have er : ∀ (x : V) (u : Value) (p : HP), RelV x u → At X.K F x (hpD p) → ∃ as, Reads s.heap u (hpD p) as := fun x u p r1 h1 => At.reads I hF (hpD p) x u (by simp [hpD, PyData.hasDict, PyData.hasDictAll]) h1 r1
  obtain ⟨as, hr⟩ := reads_hs rv hat er
  have hd := depth_hs (p :: ps)
  simp only [List.map_cons] at hd
  refine max_list_data (I.ok.hd hc) hl.isList hr ⟨fun x hx y hy => ?_, fun x hx => ?_⟩ (by omega) fun i v h' tk bs hv rd hk => ?_
  · obtain ⟨b, _, rfl⟩ := List.mem_map.mp (show x ∈ (p :: ps).map hpD from hx)
    obtain ⟨c, _, rfl⟩ := List.mem_map.mp (show y ∈ (p :: ps).map hpD from hy)
    simp [hpD, alike, alikeAll]
  · obtain ⟨b, _, rfl⟩ := List.mem_map.mp (show x ∈ (p :: ps).map hpD from hx)
    intro z; cases z
  · obtain ⟨x, hx, rx⟩ := vals_nth rv (by simpa using hv)
    obtain ⟨d, hdd, hA⟩ := hat.get' hx
    rw [List.getElem?_map] at hdd
    obtain ⟨b, hb, rfl⟩ : ∃ b, (p :: ps)[i]? = some b ∧ hpD b = d := by
      cases e : (p :: ps)[i]? with
      | none => rw [e] at hdd; cases hdd
      | some b => rw [e] at hdd; exact ⟨b, rfl, Option.some.inj hdd⟩
    obtain ⟨cs, hR⟩ := er x v b rx hA
    have e := (PyProof.Rows.reads_det (fun b o e _ => hk b o e) hR rd).1
    refine ⟨x, H, I.kept hk, rx, q x ?_⟩
    rw [e]
    exact hA
theorem lt_hp (p q : HP) : (dataLt (hpD p) (hpD q) = true → p.1 ≤ q.1) ∧ (dataLt (hpD p) (hpD q) = false → q.1 ≤ p.1) := by
  unfold hpD
  rw [dataLt_pair (by simp [alike]) (by simp [alike, alikeAll]), dataLt_int]
  by_cases c : PyData.eqv (.int p.1) (.int q.1) = true
  · have e : p.1 = q.1 := by
      have c : (p.1 == q.1) = true := c
      simpa using c
    rw [e]
    exact ⟨fun _ => Int.le_refl _, fun _ => Int.le_refl _⟩
  · rw [if_neg c]
    simp only [decide_eq_true_eq, decide_eq_false_iff_not]
    omega
theorem maxD_hs : ∀ (ps : List HP) (p : HP), ∃ m, m ∈ p :: ps ∧ (∀ q ∈ p :: ps, q.1 ≤ m.1) ∧ maxD (hpD p) (ps.map hpD) = hpD m
  | [], p => ⟨p, by simp, fun q hq => by
    rw [List.mem_singleton.mp hq]
    exact Int.le_refl _, rfl⟩
  | b :: ps, p => by
    have e : maxD (hpD p) ((b :: ps).map hpD) = maxD (if dataLt (hpD p) (hpD b) then hpD b else hpD p) (ps.map hpD) := rfl
    rw [e]
    have hlt := lt_hp p b
    by_cases c : dataLt (hpD p) (hpD b) = true
    · rw [if_pos c]
      have := hlt.1 c
      obtain ⟨m, h1, h2, h3⟩ := maxD_hs ps b
      refine ⟨m, List.mem_cons_of_mem _ h1, fun q hq => ?_, h3⟩
      rcases List.mem_cons.mp hq with rfl | hq
      · have := h2 b (by simp)
        omega
      · exact h2 q hq
    · rw [if_neg c]
      have := hlt.2 (by simpa using c)
      obtain ⟨m, h1, h2, h3⟩ := maxD_hs ps p
      refine ⟨m, (List.mem_cons.mp h1).elim (fun z => by rw [z]; exact List.mem_cons_self) fun z => List.mem_cons_of_mem _ (List.mem_cons_of_mem _ z), fun q hq => ?_, h3⟩
      rcases List.mem_cons.mp hq with rfl | hq
      · exact h2 q (by simp)
      · rcases List.mem_cons.mp hq with rfl | hq
        · have := h2 p (by simp)
          omega
        · exact h2 q (by simp [hq])
def hpOf : PyData → Option HP
  | .tuple [.int a, .tuple [.int b, .str c]] => some (a, b, c)
  | _ => none
def hpsL : List PyData → Option (List HP)
  | [] => some []
  | d :: ds => match hpOf d, hpsL ds with
    | some p, some ps => some (p :: ps)
    | _, _ => none
theorem hpOf_eq {d : PyData} {p : HP} (h : hpOf d = some p) : d = hpD p := by
  unfold hpOf at h
  split at h
  · cases h; rfl
  · cases h
theorem hpsL_eq : ∀ {ds : List PyData} {ps : List HP}, hpsL ds = some ps → ds = ps.map hpD
  | [], _, h => by cases h; rfl
  | d :: ds, ps, h => by
    unfold hpsL at h
    split at h
    · rename_i p ps' h1 h2
      cases h
      rw [hpOf_eq h1, hpsL_eq h2]
      rfl
    · cases h
theorem hpsL_map : ∀ ps : List HP, hpsL (ps.map hpD) = some ps
  | [] => rfl
  | p :: ps => by
    show (match hpOf (hpD p), hpsL (ps.map hpD) with
      | some p, some ps => some (p :: ps)
      | _, _ => none) = _
    rw [hpsL_map ps]
    rfl
section
variable {u : Nat} {X : Cx} {W : WC} {e : Expr} {pos p : Pos} {mas : MA}
end
section
variable {xs : List PyData} {R : DV → Prop}
end
end DL
namespace DL
open PySem PySem.Spec L2
section
variable {u1 : Nat} {X : Cx} {W : WC} {a b c d : Expr} {pos : Pos} {mas : MA} {x y z w : Str}
end
end DL
namespace DL
open PySem PySem.Spec L2 PySem.W
section
variable {u : Nat} {X : Cx} {W : WC} {e : Expr} {pos p : Pos} {mas : MA}
end
end DL
namespace DL
open PySem PySem.Spec L2
theorem Good.fill {G : Gm} {F0 F : Hp} {D : Env} {S : L2.St} {H0 H : Hp} {p : Addr} {ks : List (PyData × PyData)} {kvs : List (Key × V)} (n : Good G F0 D S H0) (hp : H0 p = none) (g : Good G F (D ++ [some (.odk [])]) (S ++ [some (.ref p)]) H) (h : AtKv G.K F kvs ks) :
    Good G F (D ++ [some (.odk ks)]) (S ++ [some (.ref p)]) (upd H p (.dK kvs)) := by
  have hl : D.length = S.length := n.len
  have g5 := g.writeG (n := D.length) (x := .odk []) (y := .odk ks) (l := p) (o := .dK kvs) rfl rfl (fun j w e b => ?_) (by simp) (by rw [hl]; simp) (fun H' h1 h2 h3 => ⟨p, _, rfl, h1, h, h2, h3⟩)
  · rw [show (D ++ [some (DV.odk [])]).set D.length (some (.odk ks)) = D ++ [some (.odk ks)] by rw [List.set_append_right _ _ (Nat.le_refl _), Nat.sub_self]; rfl] at g5
    exact g5
  · intro ew
    have hj : j < D.length ∨ j = D.length := by
      have := (List.getElem?_eq_some_iff.mp e).1
      simp at this ⊢; omega
    rcases hj with hj | hj
    · have e0 : D[j]? = some (some w) := by rw [List.getElem?_append_left hj] at e; exact e
      obtain ⟨w3, ew3, hw3⟩ := n.sl j w e0
      rw [List.getElem?_append_left (by omega), ew3] at ew
      cases ew
      obtain ⟨l3, o3, e3, h3, _⟩ := bor_at hw3 (by rw [b]; simp)
      cases e3
      rw [hp] at h3; cases h3
    · subst hj
      simp at e
      subst e
      cases b
def DV.num : DV → Option Int
  | .d (.int i) => some i
  | _ => none
theorem num_i {i : Int} : DV.num (.d (.int i)) = some i := rfl
section
variable {X : Cx} {W : WC} {u1 u2 u3 : Nat} {e1 e2 e3 : Expr} {m1 m2 m3 : ME} {x1 x2 x3 : Str} {j1 j2 j3 : Nat} {p1 p2 p3 pos : Pos}
end
end DL
namespace DL
open PySem PySem.Spec L2
def mIsi2 (T1 T2 : String) (me : ME) : ME := fun ex δ R => me ex δ fun x => match x.pd with
  | some d => R (.d (.bool (isTy d T1 || isTy d T2)))
  | none => False
section
variable {X : Cx} {W : WC} {u : Nat} {e : Expr} {me : ME} {p pos tpos p1 p2 : Pos} {kx : Nat} {T1 T2 : String} {x1 x2 : Str}
theorem de_isi2 (h1 : T1 ∈ tys) (h2 : T2 ∈ tys) (hg : Gl X "isinstance") (hm : X.mg "isinstance" = none) (he : DE X W e me u) (g1 : Gl X x1) (m1 : X.mg x1 = none) (b1 : bootBuiltins x1 = some (.type T1)) (g2 : Gl X x2) (m2 : X.mg x2 = none) (b2 : bootBuiltins x2 = some (.type T2))
    (n1 : x1 ≠ "__name__" := by decide) (d1 : (x1 == ("__debug__" : Str)) = false := by decide) (n2 : x2 ≠ "__name__" := by decide) (d2 : (x2 == ("__debug__" : Str)) = false := by decide)
    (hs : starEach [e, .Tuple [.Name x1 p1, .Name x2 p2] kx tpos] X.env = (false, eval e X.env) :: starEach [.Tuple [.Name x1 p1, .Name x2 p2] kx tpos] X.env := by rfl) (hpl : (backTo pos (starEach [.Tuple [.Name x1 p1, .Name x2 p2] kx tpos] X.env)).any (·.1) = false := by rfl)
    (hs2 : starEach [.Tuple [.Name x1 p1, .Name x2 p2] kx tpos] X.env = (false, eval (.Tuple [.Name x1 p1, .Name x2 p2] kx tpos) X.env) :: starEach [] X.env := by rfl) :
    DE X W (.Call (.Name "isinstance" p) [e, .Tuple [.Name x1 p1, .Name x2 p2] kx tpos] [] pos) (mIsi2 T1 T2 me) u := by
  refine ⟨PE.imp (pe_callB call_isiT hg hm (by decide +kernel) (pa_cons he.pe (pa_cons (pe_tup (pa_cons (pe_bltn (v := .ty T1) g1 m1 b1 rfl n1 d1) (pa_cons (pe_bltn (v := .ty T2) g2 m2 b2 rfl n2 d2) pa_nil))) pa_nil hs2) hs) (by decide) (by decide) hs hpl) ?_⟩
  rintro σ H Q ⟨ex, G, F, δ, τ, ts, τ1, ts1, R, n, m, kk⟩
  refine ⟨ex, G, F, δ, τ, ts, τ1, ts1, _, n, m, fun x hx v F1 H1 g1 => ?_⟩
  have hx : (match x.pd with | some d => R (.d (.bool (isTy d T1 || isTy d T2))) | none => False) := hx
  split at hx
  · rename_i d ed
    refine ⟨by show 2 ≤ sizeLine; decide, fun tp htp => ?_⟩
    have g2 := g1.grow (o := .tup [V.ty T1, V.ty T2]) htp
    have hd := pd_da g2.top g2.fh ed
    rw [show (G.up u).K = X.K from n.k] at hd
    obtain ⟨t, ht, hk⟩ := kit_at hd
    refine ⟨v, tp, _, _, _, isTy d T1 || isTy d T2, rfl, upd_same, .cons (.ty T1) (.cons (.ty T2) .nil), ht, ?_, kk _ hx _ _ _ (g2.pop.pushD (.bl _))⟩
    refine kitAny_cons (hk T1 h1) (fun e1 => kitAny_cons (hk T2 h2) (fun e2 => ?_) (fun e2 => ?_)) (fun e1 => ?_)
    · rw [e1, e2]; exact kitAny_nil
    · rw [e1, e2]; rfl
    · rw [e1]; rfl
  · exact hx.elim
variable {a b : Expr} {ma mb : ME} {u1 u2 : Nat}
end
end DL
namespace DL
open PySem PySem.Spec L2 PySem.W
section
variable {u : Nat} {X : Cx} {W : WC} {e : Expr} {pos p : Pos} {mas : MA}
end
end DL
namespace DL
open PySem PySem.Spec L2
variable {X : Cx} {dom : List Nat} {pos : Pos}
end DL
namespace DL
open PySem PySem.Spec L2
section
variable {X : Cx} {W : WC} {u1 u2 : Nat} {a b : Expr} {pos : Pos} {ma mb : ME}
def rEqK (K : PySem.W.Frag) : R2 := fun x y H Q => (∃ a b, x = .ref a ∧ y = .ref b ∧ Rd H a (.dK []) ∧ Rd H b (.dK []) ∧ Q (.bl true) H) ∨ rEqB K false x y H Q
theorem op_eqK (hu : X.A.units + 64 < cLine) : OpR X (compareOp .Eq) (rEqK X.K) := by
  intro pins s σ H x y v u Q I rx ry h
  rcases h with ⟨a, b, rfl, rfl, ea, eb, q⟩ | h
  · obtain rfl : v = Value.ref a := rx
    obtain rfl : u = Value.ref b := ry
    obtain ⟨_, ya, va, ra, da⟩ := dk_rd I.hok ea
    obtain ⟨_, yb, vb, rb, db⟩ := dk_rd I.hok eb
    have hl : va.length = vb.length := ra.length.symm.trans rb.length
    exact PySem.W.keq_eq (knd := mixKind X.prog X.w) (r := true) ya yb da db (by omega) (fun _ => hits_all rb ra fun p hp => absurd hp List.not_mem_nil) (fin_bl I q (by simp [hl]))
  · exact op_eqB hu pins s σ H x y v u Q I rx ry h
def oEqK : D2 := fun x y R => (x = .d (.dict []) ∧ y = .d (.dict []) ∧ R (.d (.bool true))) ∨ oEq false x y R
theorem o2_eqK : Op2 X (rEqK X.K) oEqK := by
  intro G F δ σ H v u x y R Q hK g hx hy h k
  rcases h with ⟨rfl, rfl, h⟩ | h
  · have hx' : At G.K F v (.dict []) := hx
    have hy' : At G.K F u (.dict []) := hy
    cases hx' with
    | dct h1 h2 =>
      cases h2
      cases hy' with
      | dct h3 h4 =>
        cases h4
        exact .inl ⟨_, _, rfl, rfl, rd_mono g.fh h1, rd_mono g.fh h3, k _ h (.bl _) F H (g.pushD (.bl _))⟩
  · exact .inr (o2_eq G F δ σ H v u x y R Q hK g hx hy h k)
theorem de_eqK (cx : CtxU X) (ha : DE X W a ma u1) (hb : DE X W b mb u2) : DE X W (.Compare a [.Eq] [b] pos) (mBin oEqK ma mb) (u1 + u2) := de_cmp (op_eqK cx.u64) o2_eqK ha hb (nomark _)
end
end DL
namespace DL
open PySem PySem.Spec
section
variable {prog : Program} {w : World} {A : Around} {E : Value → Shared → Prop} {z TI TO T i1 i2 : Addr} {fp1 fp2 : List Addr} {n1 n2 i : Nat} {P1 P2 : Nat → Value → Prop} {St1 St2 : Nat → Heap → Prop} {hp : Heap} {s : Shared}
theorem zipH_item {f : Bool} {oT : Obj} {Q : Value → Shared → Prop} (S : ZipSep2 z TI TO i1 i2 fp1 fp2) (D1 : Draws prog w A i1 fp1 n1 P1 St1) (D2 : Draws prog w A i2 fp2 n2 P2 St2)
    (hz : IsZipHeld s.heap z TI TO T f) (hT : s.heap.get? T = some oT) (hTI : IsTupOf2 s.heap TI (.ref i1) (.ref i2)) (st1 : St1 i s.heap) (st2 : St2 i s.heap) (hlt1 : i < n1) (hlt2 : i < n2)
    (hQ : ∀ x y h' tk, P1 i x → P2 i y → IsZipHeld h' z TI TO T true → St1 (i + 1) h' → St2 (i + 1) h' → IsTupOf2 h' s.heap.objs.size x y → h'.objs.size = s.heap.objs.size + 1 →
      (∀ c o, c ≠ z → c ≠ i1 → c ≠ i2 → s.heap.get? c = some o → h'.get? c = some o) → Q (.ref s.heap.objs.size) { s with heap := h', toks := tk }) :
    wpAny (model prog w) A (Builtin.«zip.__next__» ⟨[.ref z], []⟩) (fun fin s' => ∃ v, fin = .done (.ret v) ∧ Q v s') E s := by
  obtain ⟨h0, g, d, tk0, os⟩ := s
  show wpAny _ _ (field (.ref z) 2 >>= _) _ _ _
  refine wpAny_bind (wpAny_field hz rfl (x := .bool false) rfl ?_)
  show wpAny _ _ (field (.ref z) 3 >>= _) _ _ _
  refine wpAny_bind (wpAny_field hz rfl (x := .ref TI) rfl (wpAny_bind (wpAny_seqItems hTI rfl ?_)))
  show wpAny _ _ (Builtin.SmallTypes.ownedTupleIsFree (.ref z) >>= _) _ _ _
  refine wpAny_bind (wpAny_tupleHeld_zip hz hT fun g0 hz0 hs0 => ?_)
  replace hs0 : Heap.SameBut z h0 g0 := hs0
  simp only [Bool.false_eq_true, if_false]
  refine wpAny_bind ?_
  rw [← Array.forIn_toList]
  simp only [List.forIn_cons, List.forIn_nil]
  refine wpAny_bind (wpAny_bind (wpAny_holding ?_))
  show wpAny _ _ (Builtin.SmallTypes.nextOf (.ref i1) >>= _) _ _ ⟨g0, g, d, tk0, os⟩
  refine wpAny_bind (D1.item i _ _ _ hlt1 (D1.over st1 hs0 S.zf1) fun x p1 tk1 hx sn1 hp1 => wpAny_pure (wpAny_pure ?_))
  replace hp1 : Heap.SameBut i1 g0 p1 := hp1
  refine wpAny_bind (wpAny_bind (wpAny_holding ?_))
  show wpAny _ _ (Builtin.SmallTypes.nextOf (.ref i2) >>= _) _ _ ⟨p1, g, d, tk1, os⟩
  refine wpAny_bind (D2.item i _ _ _ hlt2 (D2.over (D2.over st2 hs0 S.zf2) hp1 S.sep1_2) fun y p2 tk2 hy sn2 hp2 => wpAny_pure (wpAny_pure (wpAny_pure ?_)))
  replace hp2 : Heap.SameBut i2 p1 p2 := hp2
  have hsz : p2.objs.size = h0.objs.size := by rw [hp2.1, hp1.1, hs0.1]
  have hzz : IsZipHeld p2 z TI TO T true := hp2.extBut _ _ S.zi2 (hp1.extBut _ _ S.zi1 hz0)
  have sn1' : St1 (i + 1) p2 := D1.over sn1 hp2 S.sep2_1
  have up : ∀ c o, p2.get? c = some o → (p2.push { cls := .type "tuple", data := .seq #[x, y] }).get? c = some o := fun c o e => Heap.get?_push_of_some _ e
  show wpAny _ _ (newTuple [x, y] >>= _) _ _ ⟨p2, g, d, tk2, os⟩
  refine wpAny_bind (wpAny_newTuple (wpAny_pure ⟨_, rfl, ?_⟩))
  have ht : IsTupOf2 (p2.push { cls := .type "tuple", data := .seq #[x, y] }) p2.objs.size x y := Heap.get?_push_size _ rfl
  have hs3 : (p2.push { cls := .type "tuple", data := .seq #[x, y] }).objs.size = p2.objs.size + 1 := Heap.size_push ..
  show Q (.ref p2.objs.size) ⟨_, g, d, tk2, os⟩
  rw [hsz] at ht hs3 ⊢
  exact hQ x y _ tk2 hx hy (up _ _ hzz) (D1.frame _ _ _ sn1' fun b _ o e => up b o e) (D2.frame _ _ _ sn2 fun b _ o e => up b o e) ht hs3 fun c o cz c1 c2 e => up _ _ (hp2.extBut _ _ c2 (hp1.extBut _ _ c1 (hs0.extBut _ _ cz e)))
theorem zipH_end {f : Bool} {oT : Obj} {Q : Fin → Shared → Prop} (S : ZipSep2 z TI TO i1 i2 fp1 fp2) (D1 : Draws prog w A i1 fp1 n1 P1 St1) (D2 : Draws prog w A i2 fp2 n2 P2 St2)
    (hz : IsZipHeld s.heap z TI TO T f) (hT : s.heap.get? T = some oT) (hTI : IsTupOf2 s.heap TI (.ref i1) (.ref i2)) (st1 : St1 i s.heap) (st2 : St2 i s.heap) (hle1 : i ≤ n1) (hle2 : i ≤ n2) (hend : i = n1 ∨ i = n2)
    (hE : ∀ h' tk e, (∀ c o, c ≠ z → c ≠ i1 → c ≠ i2 → s.heap.get? c = some o → h'.get? c = some o) → (∃ o, h'.get? e = some o ∧ o.cls = .type "StopIteration") → E (.ref e) { s with heap := h', toks := tk }) :
    wpAny (model prog w) A (Builtin.«zip.__next__» ⟨[.ref z], []⟩) Q E s := by
  obtain ⟨h0, g, d, tk0, os⟩ := s
  show wpAny _ _ (field (.ref z) 2 >>= _) _ _ _
  refine wpAny_bind (wpAny_field hz rfl (x := .bool false) rfl ?_)
  show wpAny _ _ (field (.ref z) 3 >>= _) _ _ _
  refine wpAny_bind (wpAny_field hz rfl (x := .ref TI) rfl (wpAny_bind (wpAny_seqItems hTI rfl ?_)))
  show wpAny _ _ (Builtin.SmallTypes.ownedTupleIsFree (.ref z) >>= _) _ _ _
  refine wpAny_bind (wpAny_tupleHeld_zip hz hT fun g0 hz0 hs0 => ?_)
  replace hs0 : Heap.SameBut z h0 g0 := hs0
  simp only [Bool.false_eq_true, if_false]
  refine wpAny_bind ?_
  rw [← Array.forIn_toList]
  simp only [List.forIn_cons, List.forIn_nil]
  refine wpAny_bind (wpAny_bind (wpAny_holding ?_))
  show wpAny _ _ (Builtin.SmallTypes.nextOf (.ref i1) >>= _) _ _ ⟨g0, g, d, tk0, os⟩
  by_cases c : i < n1
  · refine wpAny_bind (D1.item i _ _ _ c (D1.over st1 hs0 S.zf1) fun x p1 tk1 hx sn1 hp1 => wpAny_pure (wpAny_pure ?_))
    replace hp1 : Heap.SameBut i1 g0 p1 := hp1
    have e2 : n2 = i := by omega
    refine wpAny_bind (wpAny_bind (wpAny_holding ?_))
    show wpAny _ _ (Builtin.SmallTypes.nextOf (.ref i2) >>= _) _ _ ⟨p1, g, d, tk1, os⟩
    refine wpAny_bind (D2.done ⟨p1, g, d, tk1, os⟩ _ _ (by rw [e2]; exact D2.over (D2.over st2 hs0 S.zf2) hp1 S.sep1_2) fun q e hq he => ?_)
    exact hE q tk1 e (fun c o cz c1 c2 x => hq _ _ c2 (hp1.extBut _ _ c1 (hs0.extBut _ _ cz x))) he
  · have e1 : n1 = i := by omega
    refine wpAny_bind (D1.done ⟨g0, g, d, tk0, os⟩ _ _ (by rw [e1]; exact D1.over st1 hs0 S.zf1) fun q e hq he => ?_)
    exact hE q tk0 e (fun c o cz c1 c2 x => hq _ _ c1 (hs0.extBut _ _ cz x)) he
theorem nextH_item {f : Bool} {oT : Obj} {Q : Option Value → Shared → Prop} (S : ZipSep2 z TI TO i1 i2 fp1 fp2) (D1 : Draws prog w A.in1 i1 fp1 n1 P1 St1) (D2 : Draws prog w A.in1 i2 fp2 n2 P2 St2)
    (hz : IsZipHeld s.heap z TI TO T f) (hT : s.heap.get? T = some oT) (hTI : IsTupOf2 s.heap TI (.ref i1) (.ref i2)) (st1 : St1 i s.heap) (st2 : St2 i s.heap) (hlt1 : i < n1) (hlt2 : i < n2)
    (hQ : ∀ x y h' tk, P1 i x → P2 i y → IsZipHeld h' z TI TO T true → St1 (i + 1) h' → St2 (i + 1) h' → IsTupOf2 h' s.heap.objs.size x y → h'.objs.size = s.heap.objs.size + 1 →
      (∀ c o, c ≠ z → c ≠ i1 → c ≠ i2 → s.heap.get? c = some o → h'.get? c = some o) → Q (some (.ref s.heap.objs.size)) { s with heap := h', toks := tk }) :
    wpAny (model prog w) A (pyNext (.ref z)) Q E s := by
  have ty : s.TypeIs (.ref z) "zip" := ⟨_, hz, rfl⟩
  unfold pyNext
  exact wpAny_bind (wpAny_attempt (wpAny_callSpecial?_slot (name := Str.ofString "__next__") ty F.slot_zip_next
    (wpAny_call_entry F.slot_zip_next ty F.entry_zip_next (zipH_item S D1 D2 hz hT hTI st1 st2 hlt1 hlt2 fun x y h' tk a b c d e f2 g k => wpAny_pure (hQ x y h' tk a b c d e f2 g k)) (F.args_zip_next_1 _))))
theorem nextH_end {f : Bool} {oT : Obj} {Q : Option Value → Shared → Prop} (S : ZipSep2 z TI TO i1 i2 fp1 fp2) (D1 : Draws prog w A.in1 i1 fp1 n1 P1 St1) (D2 : Draws prog w A.in1 i2 fp2 n2 P2 St2)
    (hz : IsZipHeld s.heap z TI TO T f) (hT : s.heap.get? T = some oT) (hTI : IsTupOf2 s.heap TI (.ref i1) (.ref i2)) (st1 : St1 i s.heap) (st2 : St2 i s.heap) (hle1 : i ≤ n1) (hle2 : i ≤ n2) (hend : i = n1 ∨ i = n2)
    (hQ : ∀ h' tk, (∀ c o, c ≠ z → c ≠ i1 → c ≠ i2 → s.heap.get? c = some o → h'.get? c = some o) → Q none { s with heap := h', toks := tk }) : wpAny (model prog w) A (pyNext (.ref z)) Q E s := by
  have ty : s.TypeIs (.ref z) "zip" := ⟨_, hz, rfl⟩
  unfold pyNext
  refine wpAny_bind (wpAny_attempt (wpAny_callSpecial?_slot (name := Str.ofString "__next__") ty F.slot_zip_next
    (wpAny_call_entry F.slot_zip_next ty F.entry_zip_next (zipH_end S D1 D2 hz hT hTI st1 st2 hle1 hle2 hend fun h' tk e hk he => ?_) (F.args_zip_next_1 _))))
  obtain ⟨o, ho, hc⟩ := he
  exact wpAny_bind (wpAny_isInstance (T := "StopIteration") (b := true) ⟨o, ho, hc⟩ isSubtype_stop (wpAny_pure (hQ _ _ hk)))
structure ZSt (S0 z TI TO i1 i2 : Addr) (St1 St2 : Nat → Heap → Prop) (i : Nat) (h : Heap) : Prop where
  ti : IsTupOf2 h TI (.ref i1) (.ref i2)
  s1 : St1 i h
  s2 : St2 i h
  at_ : (IsZip h z TI TO .none ∧ ∃ a b, IsTupOf2 h TO a b) ∨ ∃ T f oT, IsZipHeld h z TI TO T f ∧ h.get? T = some oT ∧ T ≠ z ∧ T ≠ i1 ∧ T ≠ i2 ∧ T ≠ S0
theorem ZSt.item {S0 : Addr} {Q : Option Value → Shared → Prop} (S : ZipSep2 z TI TO i1 i2 fp1 fp2) (D1 : Draws prog w A.in1 i1 fp1 n1 P1 St1) (D2 : Draws prog w A.in1 i2 fp2 n2 P2 St2) (hS : S0 < s.heap.objs.size)
    (st : ZSt S0 z TI TO i1 i2 St1 St2 i s.heap) (hlt1 : i < n1) (hlt2 : i < n2)
    (hQ : ∀ x y h' tk, P1 i x → P2 i y → ZSt S0 z TI TO i1 i2 St1 St2 (i + 1) h' → IsTupOf2 h' s.heap.objs.size x y → h'.objs.size = s.heap.objs.size + 1 →
      (∀ c o, c ≠ z → c ≠ TO → c ≠ i1 → c ≠ i2 → s.heap.get? c = some o → h'.get? c = some o) → Q (some (.ref s.heap.objs.size)) { s with heap := h', toks := tk }) :
    wpAny (model prog w) A (pyNext (.ref z)) Q E s := by
  obtain ⟨hTI, st1, st2, hz⟩ := st
  obtain ⟨o1, ho1⟩ := D1.live _ _ st1
  obtain ⟨o2, ho2⟩ := D2.live _ _ st2
  have m1 : s.heap.objs.size ≠ i1 := Nat.ne_of_gt (Heap.lt_size ho1)
  have m2 : s.heap.objs.size ≠ i2 := Nat.ne_of_gt (Heap.lt_size ho2)
  have mS : s.heap.objs.size ≠ S0 := Nat.ne_of_gt hS
  rcases hz with ⟨hz, a, b, hTO⟩ | ⟨T, f, oT, hz, hT, r1, r2, r3, r4⟩
  · refine wpAny_pyNext_zipD2_item S D1 D2 hz hTI hTO st1 st2 hlt1 hlt2 fun x y h' tk p1 p2 b1 b2 d1 d2 t k kk => hQ x y h' tk p1 p2 ⟨kk _ _ S.TIz S.TITO S.TIi1 S.TIi2 hTI, d1, d2, .inr ⟨s.heap.objs.size, false, _, b1, t, Nat.ne_of_gt (Heap.lt_size hz), m1, m2, mS⟩⟩ t k kk
  · refine nextH_item S D1 D2 hz hT hTI st1 st2 hlt1 hlt2 fun x y h' tk p1 p2 b1 d1 d2 t k kk => hQ x y h' tk p1 p2 ⟨kk _ _ S.TIz S.TIi1 S.TIi2 hTI, d1, d2, .inr ⟨T, true, oT, b1, kk _ _ r1 r2 r3 hT, r1, r2, r3, r4⟩⟩ t k fun c o cz _ c1 c2 e => kk c o cz c1 c2 e
theorem ZSt.done {S0 : Addr} {Q : Option Value → Shared → Prop} (S : ZipSep2 z TI TO i1 i2 fp1 fp2) (D1 : Draws prog w A.in1 i1 fp1 n1 P1 St1) (D2 : Draws prog w A.in1 i2 fp2 n2 P2 St2)
    (st : ZSt S0 z TI TO i1 i2 St1 St2 i s.heap) (hle1 : i ≤ n1) (hle2 : i ≤ n2) (hend : i = n1 ∨ i = n2)
    (hQ : ∀ h' tk, (∀ c o, c ≠ z → c ≠ TO → c ≠ i1 → c ≠ i2 → s.heap.get? c = some o → h'.get? c = some o) → Q none { s with heap := h', toks := tk }) : wpAny (model prog w) A (pyNext (.ref z)) Q E s := by
  obtain ⟨hTI, st1, st2, hz⟩ := st
  rcases hz with ⟨hz, a, b, hTO⟩ | ⟨T, f, oT, hz, hT, r1, r2, r3, r4⟩
  · exact wpAny_pyNext_zipD2_end S D1 D2 hz hTI hTO st1 st2 hle1 hle2 hend hQ
  · exact nextH_end S D1 D2 hz hT hTI st1 st2 hle1 hle2 hend fun h' tk kk => hQ h' tk fun c o cz _ c1 c2 e => kk c o cz c1 c2 e
structure ZMade (lo : Addr) (P1 P2 : Nat → Value → Prop) (h : Heap) (as : List Addr) : Prop where
  rise : as.Pairwise (· < ·)
  above : ∀ a ∈ as, lo < a
  pairs : ∀ (j : Nat) (a : Addr), as[j]? = some a → ∃ x y, P1 j x ∧ P2 j y ∧ IsTupOf2 h a x y
theorem ZMade.there {lo : Addr} {h : Heap} {as : List Addr} (g : ZMade lo P1 P2 h as) {a : Addr} (ha : a ∈ as) : a < h.objs.size := by
  obtain ⟨j, hj⟩ := List.mem_iff_getElem?.mp ha
  obtain ⟨_, _, _, _, e⟩ := g.pairs j a hj
  exact Heap.lt_size e
end
end DL
namespace DL
open PySem PySem.Spec PyProof.Rows L2
section
variable {X : Cx} {W : WC} {u1 : Nat} {e e2 : Expr} {pos p p2 q : Pos} {mas : MA}
end
end DL
namespace DL
open PySem PySem.Spec
section
variable {prog : Program} {w : World} {A : Around} {E : Value → Shared → Prop} {z TI TO T i1 i2 : Addr} {fp1 fp2 : List Addr} {n1 n2 i : Nat} {P1 P2 : Nat → Value → Prop} {St1 St2 : Nat → Heap → Prop} {s : Shared}
abbrev ZAny (h : Heap) (z TI TO : Addr) (v : Value) (f : Bool) : Prop := h.get? z = some { cls := .type "zip", dict := none, data := .fields #[v, .bool f, .bool false, .ref TI, .ref TO], slots := #[] }
theorem gone_is {a : Addr} {Q : Option Obj → Shared → Prop} (gone : s.heap.get? a = none) (q : Q none s) : wpAny (model prog w) A (loadIfAlive a) Q E s := by
  rw [← gone] at q
  exact fun _ _ _ => q
theorem dead_free {f : Bool} {Q : Bool → Shared → Prop} (hz : ZAny s.heap z TI TO (rawInt T) f) (hT : s.heap.get? T = none) (h : Q true s) : wpAny (model prog w) A (Builtin.SmallTypes.ownedTupleIsFree (.ref z)) Q E s := by
  unfold Builtin.SmallTypes.ownedTupleIsFree
  refine wpAny_bind (wpAny_field hz rfl (x := rawInt T) rfl ?_)
  show wpAny _ _ (loadIfAlive ((T : Int).toNat) >>= _) _ _ _
  rw [Int.toNat_natCast]
  exact wpAny_bind (gone_is hT (wpAny_pure h))
theorem zipX_item {f : Bool} {a1 a2 : Value} {Q : Value → Shared → Prop} (S : ZipSep2 z TI TO i1 i2 fp1 fp2) (D1 : Draws prog w A i1 fp1 n1 P1 St1) (D2 : Draws prog w A i2 fp2 n2 P2 St2)
    (hz : ZAny s.heap z TI TO (rawInt T) f) (hT : s.heap.get? T = none) (hTI : IsTupOf2 s.heap TI (.ref i1) (.ref i2)) (hTO : IsTupOf2 s.heap TO a1 a2) (st1 : St1 i s.heap) (st2 : St2 i s.heap) (hlt1 : i < n1) (hlt2 : i < n2)
    (hQ : ∀ x y h' tk, P1 i x → P2 i y → ZAny h' z TI TO (rawInt s.heap.objs.size) false → IsTupOf2 h' TO x y → St1 (i + 1) h' → St2 (i + 1) h' → IsTupOf2 h' s.heap.objs.size x y → h'.objs.size = s.heap.objs.size + 1 →
      (∀ c o, c ≠ z → c ≠ TO → c ≠ i1 → c ≠ i2 → s.heap.get? c = some o → h'.get? c = some o) → Q (.ref s.heap.objs.size) { s with heap := h', toks := tk }) :
    wpAny (model prog w) A (Builtin.«zip.__next__» ⟨[.ref z], []⟩) (fun fin s' => ∃ v, fin = .done (.ret v) ∧ Q v s') E s := by
  obtain ⟨H, g, d, tk0, os⟩ := s
  show wpAny _ _ (field (.ref z) 2 >>= _) _ _ _
  refine wpAny_bind (wpAny_field hz rfl (x := .bool false) rfl ?_)
  show wpAny _ _ (field (.ref z) 3 >>= _) _ _ _
  refine wpAny_bind (wpAny_field hz rfl (x := .ref TI) rfl (wpAny_bind (wpAny_seqItems hTI rfl ?_)))
  show wpAny _ _ (Builtin.SmallTypes.ownedTupleIsFree (.ref z) >>= _) _ _ _
  refine wpAny_bind (dead_free hz hT ?_)
  simp only [if_true]
  refine wpAny_bind (wpAny_rule (wpAny_bind (wpAny_field hz rfl (x := .ref TO) rfl (wpAny_bind (wpAny_setField_rec hz (by simp) fun g0 (hz0 : ZAny g0 z TI TO .ellipsis f) (hs0 : Heap.SameBut z H g0) => wpAny_bind ?_)))))
  simp only [List.zipIdx_cons, List.zipIdx_nil, List.forIn_cons, List.forIn_nil]
  refine wpAny_bind (wpAny_bind (wpAny_onRaise ?_))
  show wpAny _ _ (Builtin.SmallTypes.nextOf (.ref i1) >>= _) _ _ ⟨g0, g, d, tk0, os⟩
  refine wpAny_bind (D1.item i _ _ _ hlt1 (D1.over st1 hs0 S.zf1) fun x p1 tk1 hx sn1 (hp1 : Heap.SameBut i1 g0 p1) => wpAny_pure ?_)
  have u1 : IsTupOf2 p1 TO a1 a2 := hp1.extBut _ _ S.Ti1 (hs0.extBut _ _ S.TOz hTO)
  refine wpAny_bind (wpAny_seqItems (s := ⟨p1, g, d, tk1, os⟩) u1 rfl (wpAny_bind (updateSeq_IsTupOf2 (s := ⟨p1, g, d, tk1, os⟩) u1 fun g1 (v1 : IsTupOf2 g1 TO x a2) (hs1 : Heap.SameBut TO p1 g1) => wpAny_bind (wpAny_letGo (wpAny_pure (wpAny_bind (wpAny_bind (wpAny_onRaise ?_))))))))
  show wpAny _ _ (Builtin.SmallTypes.nextOf (.ref i2) >>= _) _ _ ⟨g1, g, d, tk1, os⟩
  refine wpAny_bind (D2.item i _ _ _ hlt2 (D2.over (D2.over (D2.over st2 hs0 S.zf2) hp1 S.sep1_2) hs1 S.Tf2) fun y p2 tk2 hy sn2 (hp2 : Heap.SameBut i2 g1 p2) => wpAny_pure ?_)
  have u2 : IsTupOf2 p2 TO x a2 := hp2.extBut _ _ S.Ti2 v1
  refine wpAny_bind (wpAny_seqItems (s := ⟨p2, g, d, tk2, os⟩) u2 rfl (wpAny_bind (updateSeq_IsTupOf2 (s := ⟨p2, g, d, tk2, os⟩) u2 fun g2 (v2 : IsTupOf2 g2 TO x y) (hs2 : Heap.SameBut TO p2 g2) => wpAny_bind (wpAny_letGo (wpAny_pure (wpAny_pure (wpAny_bind (wpAny_seqItems (s := ⟨g2, g, d, tk2, os⟩) v2 rfl (wpAny_bind (wpAny_newTuple ?_))))))))))
  have sz : g2.objs.size = H.objs.size := by rw [hs2.1, hp2.1, hs1.1, hp1.1, hs0.1]
  have zz : ZAny g2 z TI TO .ellipsis f := hs2.extBut _ _ S.TOz.symm (hp2.extBut _ _ S.zi2 (hs1.extBut _ _ S.TOz.symm (hp1.extBut _ _ S.zi1 hz0)))
  have kk : ∀ c o, c ≠ z → c ≠ TO → c ≠ i1 → c ≠ i2 → H.get? c = some o → g2.get? c = some o := fun c o cz cT c1 c2 e => hs2.extBut _ _ cT (hp2.extBut _ _ c2 (hs1.extBut _ _ cT (hp1.extBut _ _ c1 (hs0.extBut _ _ cz e))))
  have j1 : St1 (i + 1) g2 := D1.over (D1.over (D1.over sn1 hs1 S.Tf1) hp2 S.sep2_1) hs2 S.Tf1
  have j2 : St2 (i + 1) g2 := D2.over sn2 hs2 S.Tf2
  have zl : z < g2.objs.size := Heap.lt_size zz
  show wpAny _ _ (Builtin.SmallTypes.ownedTupleHandOut (.ref z) (.ref g2.objs.size) >>= _) _ _ ⟨g2.push { cls := .type "tuple", data := .seq #[x, y] }, g, d, tk2, os⟩
  unfold Builtin.SmallTypes.ownedTupleHandOut
  have z6 : ZAny (g2.push { cls := .type "tuple", data := .seq #[x, y] }) z TI TO .ellipsis f := Heap.get?_push_of_some _ zz
  refine wpAny_bind (wpAny_bind (wpAny_setField_rec z6 (by simp) fun g3 (z7 : ZAny g3 z TI TO (rawInt g2.objs.size) f) (hs3 : Heap.SameBut z (g2.push { cls := .type "tuple", data := .seq #[x, y] }) g3) => wpAny_setField_rec z7 (by simp) fun g4 (z8 : ZAny g4 z TI TO (rawInt g2.objs.size) false) (hs4 : Heap.SameBut z g3 g4) => ?_))
  have up : ∀ c o, c ≠ z → g2.get? c = some o → g4.get? c = some o := fun c o c1 e => hs4.extBut _ _ c1 (hs3.extBut _ _ c1 (Heap.get?_push_of_some _ e))
  have t8 : IsTupOf2 g4 g2.objs.size x y := hs4.extBut _ _ (Nat.ne_of_gt zl) (hs3.extBut _ _ (Nat.ne_of_gt zl) (Heap.get?_push_size _ rfl))
  have s8 : g4.objs.size = g2.objs.size + 1 := by rw [hs4.1, hs3.1, Heap.size_push]
  refine wpAny_pure ⟨_, rfl, ?_⟩
  show Q (.ref g2.objs.size) ⟨g4, g, d, tk2, os⟩
  rw [sz] at z8 t8 s8 ⊢
  exact hQ x y g4 tk2 hx hy z8 (up _ _ S.TOz v2) (D1.frame _ _ _ j1 fun b hb o e => up b o (fun q => S.zf1 (q ▸ hb)) e) (D2.frame _ _ _ j2 fun b hb o e => up b o (fun q => S.zf2 (q ▸ hb)) e) t8 s8 fun c o cz cT c1 c2 e => up c o cz (kk c o cz cT c1 c2 e)
theorem zipX_end {f : Bool} {a1 a2 : Value} {Q : Fin → Shared → Prop} (S : ZipSep2 z TI TO i1 i2 fp1 fp2) (D1 : Draws prog w A i1 fp1 n1 P1 St1) (D2 : Draws prog w A i2 fp2 n2 P2 St2)
    (hz : ZAny s.heap z TI TO (rawInt T) f) (hT : s.heap.get? T = none) (hTI : IsTupOf2 s.heap TI (.ref i1) (.ref i2)) (hTO : IsTupOf2 s.heap TO a1 a2) (st1 : St1 i s.heap) (st2 : St2 i s.heap) (hle1 : i ≤ n1) (hle2 : i ≤ n2) (hend : i = n1 ∨ i = n2)
    (hE : ∀ h' tk e, (∀ c o, c ≠ z → c ≠ TO → c ≠ i1 → c ≠ i2 → s.heap.get? c = some o → h'.get? c = some o) → (∃ o, h'.get? e = some o ∧ o.cls = .type "StopIteration") → E (.ref e) { s with heap := h', toks := tk }) :
    wpAny (model prog w) A (Builtin.«zip.__next__» ⟨[.ref z], []⟩) Q E s := by
  obtain ⟨H, g, d, tk0, os⟩ := s
  show wpAny _ _ (field (.ref z) 2 >>= _) _ _ _
  refine wpAny_bind (wpAny_field hz rfl (x := .bool false) rfl ?_)
  show wpAny _ _ (field (.ref z) 3 >>= _) _ _ _
  refine wpAny_bind (wpAny_field hz rfl (x := .ref TI) rfl (wpAny_bind (wpAny_seqItems hTI rfl ?_)))
  show wpAny _ _ (Builtin.SmallTypes.ownedTupleIsFree (.ref z) >>= _) _ _ _
  refine wpAny_bind (dead_free hz hT ?_)
  simp only [if_true]
  refine wpAny_bind (wpAny_rule (wpAny_bind (wpAny_field hz rfl (x := .ref TO) rfl (wpAny_bind (wpAny_setField_rec hz (by simp) fun g0 (hz0 : ZAny g0 z TI TO .ellipsis f) (hs0 : Heap.SameBut z H g0) => wpAny_bind ?_)))))
  simp only [List.zipIdx_cons, List.zipIdx_nil, List.forIn_cons, List.forIn_nil]
  refine wpAny_bind (wpAny_bind (wpAny_onRaise ?_))
  show wpAny _ _ (Builtin.SmallTypes.nextOf (.ref i1) >>= _) _ _ ⟨g0, g, d, tk0, os⟩
  have fin : ∀ q tk e, Heap.ExtBut z q q → ZAny q z TI TO .ellipsis f → (∀ c o, c ≠ z → c ≠ TO → c ≠ i1 → c ≠ i2 → H.get? c = some o → q.get? c = some o) → (∃ o, q.get? e = some o ∧ o.cls = .type "StopIteration") → wpAny (model prog w) A (setField (.ref z) 0 .none) (fun _ s' => E (.ref e) s') E ⟨q, g, d, tk, os⟩ := fun q tk e _ hzq hk he => by
    obtain ⟨oe, hoe, hce⟩ := he
    have ez : e ≠ z := fun x => by subst x; rw [hzq] at hoe; cases hoe; simp at hce
    refine wpAny_setField_rec (s := ⟨q, g, d, tk, os⟩) hzq (by simp) fun q' _ (hq' : Heap.SameBut z q q') => ?_
    exact hE q' tk e (fun c o cz cT c1 c2 x => hq'.extBut _ _ cz (hk c o cz cT c1 c2 x)) ⟨oe, hq'.extBut _ _ ez hoe, hce⟩
  by_cases c : i < n1
  · refine wpAny_bind (D1.item i _ _ _ c (D1.over st1 hs0 S.zf1) fun x p1 tk1 hx sn1 (hp1 : Heap.SameBut i1 g0 p1) => wpAny_pure ?_)
    have u1 : IsTupOf2 p1 TO a1 a2 := hp1.extBut _ _ S.Ti1 (hs0.extBut _ _ S.TOz hTO)
    have e2 : n2 = i := by omega
    refine wpAny_bind (wpAny_seqItems (s := ⟨p1, g, d, tk1, os⟩) u1 rfl (wpAny_bind (updateSeq_IsTupOf2 (s := ⟨p1, g, d, tk1, os⟩) u1 fun g1 (v1 : IsTupOf2 g1 TO x a2) (hs1 : Heap.SameBut TO p1 g1) => wpAny_bind (wpAny_letGo (wpAny_pure (wpAny_bind (wpAny_bind (wpAny_onRaise ?_))))))))
    show wpAny _ _ (Builtin.SmallTypes.nextOf (.ref i2) >>= _) _ _ ⟨g1, g, d, tk1, os⟩
    refine wpAny_bind (D2.done ⟨g1, g, d, tk1, os⟩ _ _ (by rw [e2]; exact D2.over (D2.over (D2.over st2 hs0 S.zf2) hp1 S.sep1_2) hs1 S.Tf2) fun q e (hq : Heap.ExtBut i2 g1 q) he => ?_)
    exact fin q tk1 e (fun _ _ _ x => x) (hq _ _ S.zi2 (hs1.extBut _ _ S.TOz.symm (hp1.extBut _ _ S.zi1 hz0))) (fun c o cz cT c1 c2 x => hq _ _ c2 (hs1.extBut _ _ cT (hp1.extBut _ _ c1 (hs0.extBut _ _ cz x)))) he
  · have e1 : n1 = i := by omega
    refine wpAny_bind (D1.done ⟨g0, g, d, tk0, os⟩ _ _ (by rw [e1]; exact D1.over st1 hs0 S.zf1) fun q e (hq : Heap.ExtBut i1 g0 q) he => ?_)
    exact fin q tk0 e (fun _ _ _ x => x) (hq _ _ S.zi1 hz0) (fun c o cz _ c1 _ x => hq _ _ c1 (hs0.extBut _ _ cz x)) he
theorem nextX_item {f : Bool} {a1 a2 : Value} {Q : Option Value → Shared → Prop} (S : ZipSep2 z TI TO i1 i2 fp1 fp2) (D1 : Draws prog w A.in1 i1 fp1 n1 P1 St1) (D2 : Draws prog w A.in1 i2 fp2 n2 P2 St2)
    (hz : ZAny s.heap z TI TO (rawInt T) f) (hT : s.heap.get? T = none) (hTI : IsTupOf2 s.heap TI (.ref i1) (.ref i2)) (hTO : IsTupOf2 s.heap TO a1 a2) (st1 : St1 i s.heap) (st2 : St2 i s.heap) (hlt1 : i < n1) (hlt2 : i < n2)
    (hQ : ∀ x y h' tk, P1 i x → P2 i y → ZAny h' z TI TO (rawInt s.heap.objs.size) false → IsTupOf2 h' TO x y → St1 (i + 1) h' → St2 (i + 1) h' → IsTupOf2 h' s.heap.objs.size x y → h'.objs.size = s.heap.objs.size + 1 →
      (∀ c o, c ≠ z → c ≠ TO → c ≠ i1 → c ≠ i2 → s.heap.get? c = some o → h'.get? c = some o) → Q (some (.ref s.heap.objs.size)) { s with heap := h', toks := tk }) :
    wpAny (model prog w) A (pyNext (.ref z)) Q E s := by
  have ty : s.TypeIs (.ref z) "zip" := ⟨_, hz, rfl⟩
  unfold pyNext
  exact wpAny_bind (wpAny_attempt (wpAny_callSpecial?_slot (name := Str.ofString "__next__") ty F.slot_zip_next (wpAny_call_entry F.slot_zip_next ty F.entry_zip_next
    (zipX_item S D1 D2 hz hT hTI hTO st1 st2 hlt1 hlt2 fun x y h' tk a b c d e f2 g k l => wpAny_pure (hQ x y h' tk a b c d e f2 g k l)) (F.args_zip_next_1 _))))
theorem nextX_end {f : Bool} {a1 a2 : Value} {Q : Option Value → Shared → Prop} (S : ZipSep2 z TI TO i1 i2 fp1 fp2) (D1 : Draws prog w A.in1 i1 fp1 n1 P1 St1) (D2 : Draws prog w A.in1 i2 fp2 n2 P2 St2)
    (hz : ZAny s.heap z TI TO (rawInt T) f) (hT : s.heap.get? T = none) (hTI : IsTupOf2 s.heap TI (.ref i1) (.ref i2)) (hTO : IsTupOf2 s.heap TO a1 a2) (st1 : St1 i s.heap) (st2 : St2 i s.heap) (hle1 : i ≤ n1) (hle2 : i ≤ n2) (hend : i = n1 ∨ i = n2)
    (hQ : ∀ h' tk, (∀ c o, c ≠ z → c ≠ TO → c ≠ i1 → c ≠ i2 → s.heap.get? c = some o → h'.get? c = some o) → Q none { s with heap := h', toks := tk }) : wpAny (model prog w) A (pyNext (.ref z)) Q E s := by
  have ty : s.TypeIs (.ref z) "zip" := ⟨_, hz, rfl⟩
  unfold pyNext
  refine wpAny_bind (wpAny_attempt (wpAny_callSpecial?_slot (name := Str.ofString "__next__") ty F.slot_zip_next (wpAny_call_entry F.slot_zip_next ty F.entry_zip_next
    (zipX_end S D1 D2 hz hT hTI hTO st1 st2 hle1 hle2 hend fun h' tk e hk he => ?_) (F.args_zip_next_1 _))))
  obtain ⟨o, ho, hc⟩ := he
  exact wpAny_bind (wpAny_isInstance (T := "StopIteration") (b := true) ⟨o, ho, hc⟩ isSubtype_stop (wpAny_pure (hQ _ _ hk)))
def ZKept (h : Heap) (z TI TO : Addr) : Prop := ∃ v f, ZAny h z TI TO v f ∧ ((v = .none ∧ f = false) ∨ ∃ T : Addr, v = rawInt T)
theorem ZKept.item {a1 a2 : Value} {Q : Option Value → Shared → Prop} (S : ZipSep2 z TI TO i1 i2 fp1 fp2) (D1 : Draws prog w A.in1 i1 fp1 n1 P1 St1) (D2 : Draws prog w A.in1 i2 fp2 n2 P2 St2)
    (hz : ZKept s.heap z TI TO) (hTI : IsTupOf2 s.heap TI (.ref i1) (.ref i2)) (hTO : IsTupOf2 s.heap TO a1 a2) (st1 : St1 i s.heap) (st2 : St2 i s.heap) (hlt1 : i < n1) (hlt2 : i < n2)
    (hQ : ∀ x y h' tk, P1 i x → P2 i y → ZKept h' z TI TO → (∃ b1 b2, IsTupOf2 h' TO b1 b2) → St1 (i + 1) h' → St2 (i + 1) h' → IsTupOf2 h' s.heap.objs.size x y → h'.objs.size = s.heap.objs.size + 1 →
      (∀ c o, c ≠ z → c ≠ TO → c ≠ i1 → c ≠ i2 → s.heap.get? c = some o → h'.get? c = some o) → Q (some (.ref s.heap.objs.size)) { s with heap := h', toks := tk }) :
    wpAny (model prog w) A (pyNext (.ref z)) Q E s := by
  obtain ⟨v, f, hz, ⟨rfl, rfl⟩ | ⟨T, rfl⟩⟩ := hz
  · exact wpAny_pyNext_zipD2_item S D1 D2 hz hTI hTO st1 st2 hlt1 hlt2 fun x y h' tk p1 p2 b1 b2 d1 d2 t k kk => hQ x y h' tk p1 p2 ⟨_, _, b1, .inr ⟨_, rfl⟩⟩ ⟨_, _, b2⟩ d1 d2 t k kk
  · cases hT : s.heap.get? T with
    | none => exact nextX_item S D1 D2 hz hT hTI hTO st1 st2 hlt1 hlt2 fun x y h' tk p1 p2 b1 b2 d1 d2 t k kk => hQ x y h' tk p1 p2 ⟨_, _, b1, .inr ⟨_, rfl⟩⟩ ⟨_, _, b2⟩ d1 d2 t k kk
    | some oT => exact nextH_item S D1 D2 hz hT hTI st1 st2 hlt1 hlt2 fun x y h' tk p1 p2 b1 d1 d2 t k kk => hQ x y h' tk p1 p2 ⟨_, _, b1, .inr ⟨_, rfl⟩⟩ ⟨_, _, kk _ _ S.TOz S.Ti1 S.Ti2 hTO⟩ d1 d2 t k fun c o cz _ c1 c2 e => kk c o cz c1 c2 e
theorem ZKept.done {a1 a2 : Value} {Q : Option Value → Shared → Prop} (S : ZipSep2 z TI TO i1 i2 fp1 fp2) (D1 : Draws prog w A.in1 i1 fp1 n1 P1 St1) (D2 : Draws prog w A.in1 i2 fp2 n2 P2 St2)
    (hz : ZKept s.heap z TI TO) (hTI : IsTupOf2 s.heap TI (.ref i1) (.ref i2)) (hTO : IsTupOf2 s.heap TO a1 a2) (st1 : St1 i s.heap) (st2 : St2 i s.heap) (hle1 : i ≤ n1) (hle2 : i ≤ n2) (hend : i = n1 ∨ i = n2)
    (hQ : ∀ h' tk, (∀ c o, c ≠ z → c ≠ TO → c ≠ i1 → c ≠ i2 → s.heap.get? c = some o → h'.get? c = some o) → Q none { s with heap := h', toks := tk }) : wpAny (model prog w) A (pyNext (.ref z)) Q E s := by
  obtain ⟨v, f, hz, ⟨rfl, rfl⟩ | ⟨T, rfl⟩⟩ := hz
  · exact wpAny_pyNext_zipD2_end S D1 D2 hz hTI hTO st1 st2 hle1 hle2 hend hQ
  · cases hT : s.heap.get? T with
    | none => exact nextX_end S D1 D2 hz hT hTI hTO st1 st2 hle1 hle2 hend hQ
    | some oT => exact nextH_end S D1 D2 hz hT hTI st1 st2 hle1 hle2 hend fun h' tk kk => hQ h' tk fun c o cz _ c1 c2 e => kk c o cz c1 c2 e
end
open L2 PySem.Spec PyProof.Rows
structure ZTn (a b m n : Nat) (i : Nat) (h : Heap) : Prop where
  le : i ≤ m
  z : ZKept h (n + 4) (n + 2) (n + 3)
  ti : IsTupOf2 h (n + 2) (.ref n) (.ref (n + 1))
  to_ : ∃ x y, IsTupOf2 h (n + 3) x y
  l1 : h.IsListIter n a i
  l2 : h.IsListIter (n + 1) b i
section
variable {X : Cx} {W : WC} {u : Nat} {e e2 : Expr} {mas : MA} {x0 : Str} {tpos p pos : Pos}
end
end DL
namespace DL
open PySem PySem.Spec L2
def kvD (fs : List (Str × PyData)) : List (PyData × PyData) := fs.map fun p => (.str p.1, p.2)
def objD (nm : Str) (fs : List (Str × PyData)) : PyData := .dict ((objK, .str nm) :: kvD fs)
def getF (f : Str) : List (PyData × PyData) → Option PyData
  | [] => none
  | (.str g, d) :: r => if g = f then some d else getF f r
  | _ :: r => getF f r
theorem getF_cons {f g : Str} {d : PyData} {r : List (PyData × PyData)} : getF f ((.str g, d) :: r) = if g = f then some d else getF f r := rfl
theorem fKv_get {K : PySem.W.Frag} {F : Hp} {f : Str} : ∀ {fs : List (Str × V)} {ks : List (PyData × PyData)} {d : PyData}, AtKv K F (fKv fs) ks → getF f ks = some d → ∃ v, fs.lookup f = some v ∧ At K F v d ∧ ∃ p ∈ fs, p.1 = f
  | [], _, _, h, e => by
    cases h
    cases e
  | (g, v) :: fs, ks, d, h, e => by
    cases h with
    | @cons k v' r d' ds h1 h2 =>
      rw [show keyD (Sum.inr g) = .str g from rfl, getF_cons] at e
      by_cases q : g = f
      · rw [if_pos q] at e
        cases e
        subst q
        exact ⟨v, by simp [List.lookup], h1, _, List.mem_cons_self .., rfl⟩
      · rw [if_neg q] at e
        obtain ⟨u, e1, e2, p, hp, e3⟩ := fKv_get h2 e
        refine ⟨u, ?_, e2, p, List.mem_cons_of_mem _ hp, e3⟩
        rw [List.lookup_cons, show (f == g) = false from beq_eq_false_iff_ne.mpr (Ne.symm q)]
        exact e1
theorem fKv_miss {K : PySem.W.Frag} {F : Hp} {f : Str} : ∀ {fs : List (Str × V)} {ks : List (PyData × PyData)}, AtKv K F (fKv fs) ks → getF f ks = none → fs.lookup f = none
  | [], _, h, e => rfl
  | (g, v) :: fs, ks, h, e => by
    cases h with
    | @cons k v' r d' ds h1 h2 =>
      rw [show keyD (Sum.inr g) = .str g from rfl, getF_cons] at e
      by_cases q : g = f
      · rw [if_pos q] at e
        cases e
      · rw [if_neg q] at e
        rw [List.lookup_cons, show (f == g) = false from beq_eq_false_iff_ne.mpr (Ne.symm q)]
        exact fKv_miss h2 e
def oFld (f : Str) : D1 := fun x R => match x with
  | .d (.dict ((.tuple [.int _], .str _) :: ks)) => match getF f ks with
    | some d => R (.d d)
    | none => False
  | _ => False
def mFld (f : Str) (m : ME) : ME := fun ex δ R => m ex δ fun x => oFld f x R
theorem fld_at {G : Gm} {F H : Hp} {v : V} {x : DV} {f : Str} {R : DV → Prop} (hx : VOk G F H v x) (h : oFld f x R) : ∃ a C dx fs u d, v = .ref a ∧ F a = some (.ins C dx fs) ∧ Cls G.K C ∧ NoAttr G.K C f ∧ fs.lookup f = some u ∧ At G.K F u d ∧ R (.d d) := by
  unfold oFld at h
  split at h
  · rename_i i nm ks
    split at h
    · rename_i d hd
      cases (show At G.K F v (.dict _) from hx) with
      | obj hs ho hn ha =>
        obtain ⟨u, e1, e2, p, hp, e3⟩ := fKv_get ha hd
        exact ⟨_, _, _, _, u, d, rfl, hs, ho.cls, e3 ▸ hn p hp, e1, e2, h⟩
      | dct hs ha =>
        have := isObj_kv ha
        cases this
    · exact h.elim
  · exact h.elim
section
variable {X : Cx} {W : WC} {e : Expr} {es : List Expr} {pos p apos : Pos} {m : ME} {mas : MA} {u u1 u2 : Nat} {x f : Str}
theorem de_fld (h : DE X W e m u) (hb : attributeBase e f X.env (eval e X.env) = eval e X.env := by rfl) : DE X W (.Attribute e f pos) (mFld f m) u :=
  ⟨PE.imp (pe_fld h.pe hb) fun σ H Q q => by
    obtain ⟨ex, G, F, δ, τ, ts, τ1, ts1, R, n, m, k⟩ := q
    refine ⟨ex, G, F, δ, τ, ts, τ1, ts1, _, n, m, fun r hr v F1 H1 g1 => ?_⟩
    obtain ⟨a, C, dx, fs, w, d, rfl, h1, h2, h3, h4, h5, h6⟩ := fld_at g1.top hr
    rw [show (G.up u).K = X.K from n.k] at h2 h3
    exact ⟨a, C, dx, fs, w, rfl, g1.fh _ _ h1, h2, h3, h4, k _ h6 w F1 H1 (g1.pop.pushD h5)⟩⟩
end
def spMk (K : PySem.W.Frag) (C : Addr) (n : Nat) (mk : List PyData → Option (List (Str × PyData))) : Sp := fun vs H Q _ => vs.length = n + 1 ∧ ∃ (F : Hp) (x dx : Addr) (us : List V) (ds : List PyData) (fs : List (Str × PyData)), vs = .ref x :: us ∧ Same F H ∧ F x = none ∧ H x = some (.ins C dx []) ∧ AtL K F us ds ∧ mk ds = some fs ∧
  ∀ gs : List (Str × V), AtKv K F (fKv gs) (kvD fs) → gs.map (·.1) = fs.map (·.1) → Q .non (upd H x (.ins C dx gs))
structure DMk (P : Program) (w : World) (K : PySem.W.Frag) (mg : Str → Option Value) (base : Heap) (nm : Str) (lv n : Nat) (mk : List PyData → Option (List (Str × PyData))) : Prop where
  ex : ∃ C fI fd ps, mg nm = some (.ref C) ∧ Mk K C fI ∧ ObjC K nm C ∧ FnOk P w K mg base L2.CX0 lv fI fd ps (spMk K C n mk) ∧ Binds K fd ps [] ∧ ps.length = n + 1 ∧ ∀ ds fs, mk ds = some fs → ∀ p ∈ fs, NoAttr K C p.1
section
variable {X : Cx} {W : WC} {e : Expr} {es : List Expr} {pos p apos : Pos} {mas : MA} {u : Nat} {nm : Str} {lv j n : Nat} {mk : List PyData → Option (List (Str × PyData))}
end
structure DMt (P : Program) (w : World) (K : PySem.W.Frag) (mg : Str → Option Value) (base : Heap) (CK : CKT) (nm m : Str) (lv u n : Nat) (mf : MF) : Prop where
  ex : ∃ C f fd ps, ObjC K nm C ∧ Meth K C m f ∧ Binds K fd ps [] ∧ ps.length = n ∧ FnG P w K mg base lv f fd ps (spD K mg CK u n mf)
def isMt (nm m : Str) (x : DV) : Prop := match x with
  | .d (.dict ((.tuple [.int _], .str c) :: ks)) => c = nm ∧ getF m ks = none
  | _ => False
def mMt (nm m : Str) (n : Nat) (mf : MF) (me : ME) (t : MA) : ME := fun ex δ R => me ex δ fun x => isMt nm m x ∧ t ex δ fun xs => match argsD xs with
  | some as => (x :: as).length = n ∧ mf (x :: as) R (fun e => ex e δ)
  | none => False
theorem ns_uniq {K : PySem.W.Frag} {nm : Str} {C D : Addr} (h : ObjC K nm C) (h' : ObjC K nm D) : C = D := by
  have := h.ns.symm.trans h'.ns
  injection this with e
  injection e with e
  injection e with e
theorem mt_at {G : Gm} {F H : Hp} {v : V} {x : DV} {nm m : Str} {C : Addr} (hO : ObjC G.K nm C) (hx : VOk G F H v x) (h : isMt nm m x) : x.arg = true ∧ ∃ a dx fs, v = .ref a ∧ F a = some (.ins C dx fs) ∧ fs.lookup m = none := by
  unfold isMt at h
  split at h
  · rename_i i c ks
    obtain ⟨rfl, h⟩ := h
    refine ⟨rfl, ?_⟩
    cases (show At G.K F v (.dict _) from hx) with
    | obj hs ho hn ha =>
      cases ns_uniq hO ho
      exact ⟨_, _, _, rfl, hs, fKv_miss ha h⟩
    | dct hs ha =>
      have := isObj_kv ha
      cases this
  · exact h.elim
section
variable {X : Cx} {W : WC} {o e : Expr} {es : List Expr} {pos p apos : Pos} {me : ME} {mas : MA} {u1 u2 u3 : Nat} {nm m : Str} {lv j n : Nat} {mf : MF}
theorem de_mt0 {pl : Sem Bool} (c : Ctx X W j) (M : DMt X.prog X.w X.K X.mg X.base W.ck nm m lv u2 n mf) (hk : lv ≤ j) (ho : DE X W o me u1)
    (ht : eval (.Call (.Attribute o m apos) [] [] pos) X.env = (do
      let ov ← eval o X.env
      standAt apos.atName
      let (f, first) ← holding [ov] (getMethod ov m pl)
      callWith pos f first (backTo pos (starEach [] X.env)) (backToKw pos (keywordEach [] X.env))) := by rfl) :
    DE X W (.Call (.Attribute o m apos) [] [] pos) (mMt nm m n mf me mNil) (u1 + u2) := by
  obtain ⟨C, f, fd, ps, hO, hM, hb, hn, hF⟩ := M.ex
  refine ⟨⟨fun pins s σ H Q I h => ?_⟩⟩
  obtain ⟨ex, G, F, δ, τ, ts, τ1, ts1, R, nw, m', kk⟩ := h
  have q : liftE X.K X.mg W u1 me σ H fun v H1 => ∃ a dx fs, v = .ref a ∧ H1 a = some (.ins C dx fs) ∧ fs.lookup m = none ∧ spD X.K X.mg W.ck u2 n mf [v] H1 Q (WE W.w σ) := by
    refine ⟨ex, G, F, δ, τ, ts, τ1, ts1, _, nw.fst, m', fun x hx v F1 H1 g1 => ?_⟩
    obtain ⟨h1, h2, h3⟩ := hx
    have hO' : ObjC (G.up u1).K nm C := by rw [show (G.up u1).K = X.K from nw.k]; exact hO
    obtain ⟨xa, a, dx, fs, rfl, e1, e2⟩ := mt_at hO' g1.top h1
    refine ⟨a, dx, fs, rfl, g1.fh _ _ e1, e2, h2.symm ▸ rfl, (G.up u1).into F1 H1, F1, [x], R, fun e => ex e δ, nw.k, ⟨nw.ck.1, by have := nw.ck.2; show G.n + u1 + u2 ≤ G.lim; omega⟩, rfl, by simpa using xa, ?_, h3, ?_, ?_⟩
    · exact g1.pop.into (as := [x]) (vs := [.ref a]) (by simpa using xa) rfl fun i y e => by
        cases i with
        | zero => cases e; exact ⟨_, rfl, g1.top⟩
        | succ i => cases e
    · exact fun r hr ha v F' H' g' => kk r hr v F' H' (by rw [← up_up]; exact g1.pop.ret (δ₁ := []) (σ₁ := []) ha g')
    · exact fun e he b cls d F' H' hb g' hx => nw.link (u1 + b) F' δ σ H' τ1 ts1 e cls d (by omega) nw.l1 (by rw [← up_up]; exact g1.pop.back g') hx he
  refine PySem.W.methodCall_KW (pl := pl) (thn (ho.pe.run pins s σ H _ I q) fun u s1 ⟨x, H1, I1, rx, a, dx, fs, ex, ea, l, q⟩ => ?_) ht
  subst ex
  obtain rfl : u = Value.ref a := rx
  refine getmeth_ok I1 ea hO.cls hM l ?_
  exact PySem.W.callWith_K0 (first := [.ref a]) I1.kIn hM.kp (call_run hF c.gd (c.hr.mono hk) hb c.tk (us := [.ref a]) (vs := [.ref a]) I1 (.cons rfl .nil) q)
end
section
variable {P : Program} {w : World} {K : PySem.W.Frag} {mg : Str → Option Value} {base : Heap}
theorem dmt_of {u k : Nat} {nm m qual : Str} {st : Stmt} {C f : Addr} {fd : FuncData} {N ps : List Str} {ms : MS} {mf : MF} {CK : CKT} (hO : ObjC K nm C) (hM : Meth K C m f) (T : L2.Fun K m qual st f fd) (hb : Binds K fd ps []) (S : FnScope N ps (L2.defScope st))
    (body : ∀ (cdv : Value) (A : Around) (outer : List PySem.Env) (s : Shared) (H : Hp) (E : XK), Ctx (cxOf (L2.CX P w) P w K mg base N qual (L2.defScope st) f cdv A outer s H E) ⟨fun cls d _ H => E cls d H, CK⟩ k →
      DSs (cxOf (L2.CX P w) P w K mg base N qual (L2.defScope st) f cdv A outer s H E) ⟨fun cls d _ H => E cls d H, CK⟩ (L2.defBody st) ms u)
    (post : ∀ as R ex, as.length = ps.length → mf as R ex → bodyD N.length ms as R ex) : DMt P w K mg base CK nm m (k + 1) u ps.length mf :=
  ⟨C, f, fd, ps, hO, hM, hb, rfl, fnD_of T S body post⟩
theorem kit_no {K : PySem.W.Frag} {C : Addr} {T : String} (m : PySem.W.kitMeta T = true) (h : PySem.W.subIn K (.ref C) (.type T) = some false) : PySem.W.kitOne K (.ref C) (.type T) = some false := by
  unfold PySem.W.kitOne
  rw [show ((Value.ref C) == (.type T)) = false from rfl, if_neg Bool.false_ne_true]
  show (if PySem.W.kitMeta T = true then PySem.W.subIn K (.ref C) (.type T) else none) = some false
  rw [if_pos m]
  exact h
theorem objC_mk {nm : Str} {C : Addr} (h1 : Cls K C) (h2 : PySem.W.nsIn K mainGlobals nm = some (some (.ref C))) (h3 : PySem.W.findIn K (.ref C) "__class__" = some (some (.builtin "object.__class__")))
    (h4 : PySem.W.specialIn K (.builtin "object.__class__") "__get__" = some (some (.builtin "getset_descriptor.__get__"))) (h5 : PySem.W.takesIn K (.builtin "object.__class__") = some true) (h6 : PySem.W.mroIn K C (.type "object") = some true)
    (i1 : PySem.W.subIn K (.ref C) (.type "int") = some false) (i2 : PySem.W.subIn K (.ref C) (.type "bool") = some false) (i3 : PySem.W.subIn K (.ref C) (.type "str") = some false) (i4 : PySem.W.subIn K (.ref C) (.type "tuple") = some false) (i5 : PySem.W.subIn K (.ref C) (.type "list") = some false) (i6 : PySem.W.subIn K (.ref C) (.type "dict") = some false) : ObjC K nm C :=
  ⟨h1, h2, h3, h4, h5, h6, fun T h => by
    simp only [List.mem_cons, List.not_mem_nil, or_false] at h
    rcases h with rfl | rfl | rfl | rfl | rfl | rfl
    · exact kit_no (by decide +kernel) i1
    · exact kit_no (by decide +kernel) i2
    · exact kit_no (by decide +kernel) i3
    · exact kit_no (by decide +kernel) i4
    · exact kit_no (by decide +kernel) i5
    · exact kit_no (by decide +kernel) i6⟩
end
end DL
namespace DL
open PySem PySem.Spec PyProof.Rows L2
structure Z3Tn (a b c m n : Nat) (i : Nat) (h : Heap) : Prop where
  le : i ≤ m
  z : IsZip h (n + 5) (n + 3) (n + 4) .none
  ti : IsTupOf3 h (n + 3) (.ref n) (.ref (n + 1)) (.ref (n + 2))
  to_ : ∃ x y z, IsTupOf3 h (n + 4) x y z
  l1 : h.IsTupleIter n a i
  l2 : h.IsTupleIter (n + 1) b i
  l3 : h.IsTupleIter (n + 2) c i
section
variable {X : Cx} {W : WC} {u : Nat} {e e2 e3 : Expr} {mas : MA} {elts : List Expr} {kk : Nat} {tpos p pos : Pos}
end
end DL
namespace DL
open PySem PySem.Spec L2
section
variable {X : Cx} {W : WC} {a b : Expr} {pos : Pos} {ma mb : ME} {u1 u2 : Nat}
end
end DL
namespace DL
open PySem PySem.Spec L2 PySem.W
section
open AutoSeq1 (wpAny_loadPart')
open MeetsSeq SeqAt
variable {A : Around} {s : Shared}
end
section
variable {X : Cx} {W : WC} {u1 u2 : Nat} {a b : Expr} {pos : Pos} {ma mb : ME}
end
end DL
namespace DL
open PySem PySem.Spec L2 PySem.W PyProof.Rows
section
variable {prog : Program} {w : World} {A : Around} {E : Value → Shared → Prop} {s : Shared} {a : Addr} {vs : List Value} {ns : List Int} {Q : Value → Shared → Prop}
end
section
variable {X : Cx} {W : WC} {e : Expr} {mas : MA} {u : Nat} {p pos : Pos}
end
section
variable {xs : List PyData} {R : DV → Prop}
end
end DL
namespace DL
open PySem PySem.Spec L2 PySem.W PyProof.Rows
section
variable {X : Cx} {W : WC} {u1 u2 : Nat} {a b : Expr} {pos : Pos} {ma mb : ME}
end
end DL
namespace DL
open PySem PySem.Spec L2 PySem.W
structure SrtOk (ds : List PyData) : Prop where
  t : ∀ d ∈ ds, ∃ x r, d = .tuple (x :: r)
  a : ∀ d ∈ ds, ∀ e ∈ ds, alike d e = true
  n : ∀ d ∈ ds, d.hasDict = false
  z : ∀ d ∈ ds, d.depth ≤ 20
def encX (d : PyData) : PyData := d
def sortX (ds : List PyData) : List PyData := ds.mergeSort (dataLe false encX)
theorem map_encX (ds : List PyData) : ds.map encX = ds := List.map_id _
def rSortedX (K : Frag) : List V → Hp → VK → Prop := fun vs H Q => ∃ (a : Addr) (xs : List V) (ds : List PyData) (F : Hp), vs = [.ref a] ∧ SqL K H a xs ∧ Same F H ∧ AtL K F xs ds ∧ SrtOk ds ∧
  ∀ ys l, AtL K F ys (sortX ds) → H l = none → Q (.ref l) (upd H l (.lst ys))
theorem each_inX {K : Frag} {F : Hp} : ∀ {xs : List V} {us : List Value} {ds : List PyData}, Vals xs us → AtL K F xs ds → EachIs (fun v b => (∃ x, RelV x v ∧ At K F x b) ∧ b ∈ ds) us ds
  | [], _, _, r, h => by
    cases r
    cases h
    exact .nil
  | x :: xs, _, _, r, h => by
    cases r with
    | cons r1 r2 =>
      cases h with
      | cons h1 h2 => exact .cons ⟨⟨x, r1, h1⟩, List.mem_cons_self⟩ ((each_inX r2 h2).mono fun v b q => ⟨q.1, List.mem_cons_of_mem _ q.2⟩)
theorem each_outX {K : Frag} {F : Hp} {P : PyData → Prop} : ∀ {us : List Value} {ds : List PyData}, EachIs (fun v b => (∃ x, RelV x v ∧ At K F x b) ∧ P b) us ds → ∃ ys, Vals ys us ∧ AtL K F ys ds
  | _, _, .nil => ⟨[], .nil, .nil⟩
  | _, _, .cons ⟨⟨x, r, h⟩, _⟩ t => by
    obtain ⟨ys, r2, h2⟩ := each_outX t
    exact ⟨x :: ys, .cons r r2, .cons h h2⟩
theorem cr_sortedX {X : Cx} (hu : X.A.units + 64 < cLine) : CallR X (.builtin "sorted") (rSortedX X.K) := by
  intro pins s σ H vs us Q I r h
  obtain ⟨a, xs, ds, F, rfl, hs, hF, hat, hk, q⟩ := h
  obtain ⟨its, rv, hl, hz⟩ := I.list hs
  rw [Vals.ref1 r]
  have e := each_inX rv hat
  have er : EachIs (fun v b => ∃ as, Reads s.heap v (encX b) as) its ds := e.mono fun v b ⟨⟨x, r1, h1⟩, hb⟩ => At.reads I hF b x v (hk.n b hb) h1 r1
  refine sorted_data (enc := encX) hl.isList e er (by rw [map_encX]; exact hk.a) (by rw [map_encX]; exact .inl hk.t) (by have h1 := hat.length; omega) (fun b hb => by have := hk.z b hb; show _ + 2 + b.depth < _; omega) fun out h1 eo => ?_
  obtain ⟨ys, k1, k2⟩ := each_outX eo
  obtain ⟨ep, he'⟩ := PyProof.Rows.sortedAll_at s.heap its out.toArray
  have hlen : ys.length ≤ sizeLine := by
    have h2 := k2.length
    have h3 := hat.length
    rw [List.length_mergeSort] at h2
    omega
  exact ⟨.ref _, upd H (s.heap.objs.size + 1) (.lst ys), I.laid (t' := s.toks) (fun _ _ => PyProof.Rows.sortedAll_old) (Nat.le_succ _) ⟨hlen, out, ep, k1, he'⟩, rfl, q _ _ k2 (I.hok.fresh (Nat.le_succ _))⟩
def oSortX : D1 := fun x R => match x.lst with
  | some ds => SrtOk ds ∧ R (.own (sortX ds))
  | none => False
section
variable {X : Cx} {W : WC} {e : Expr} {mas : MA} {u : Nat} {p pos : Pos}
theorem on_sortX : OpN X (rSortedX X.K) (o1 oSortX) := on_1 fun G F δ σ H v x R Q hK g hx h k => by
  unfold oSortX at h
  split at h
  · rename_i ds e
    obtain ⟨l, vs, rfl, h1, h2⟩ := lst_of hx g.fh e
    rw [hK] at h2
    refine ⟨l, vs, ds, F, rfl, SqL.of h1, g.fh, h2, h.1, fun ys q hy hp => k _ h.2 _ _ _ (g.newO hp (by rw [hK]; exact hy))⟩
  · exact h.elim
theorem de_sortedX (cx : CtxU X) (hg : Gl X "sorted") (hm : X.mg "sorted" = none) (ha : DA X W [e] mas u) (he : starEach [e] X.env = (false, eval e X.env) :: starEach [] X.env := by rfl) (hpl : (backTo pos (starEach [] X.env)).any (·.1) = false := by rfl) :
    DE X W (.Call (.Name "sorted" p) [e] [] pos) (mCB (o1 oSortX) mas) u := de_callB (cr_sortedX cx.u64) on_sortX hg hm (by decide +kernel) ha (by decide) (by decide) he hpl
end
theorem oSortX_o {xs : List PyData} {R : DV → Prop} : oSortX (.own xs) R = (SrtOk xs ∧ R (.own (sortX xs))) := rfl
theorem oSortX_l {xs : List PyData} {R : DV → Prop} : oSortX (.d (.list xs)) R = (SrtOk xs ∧ R (.own (sortX xs))) := rfl
end DL
namespace DL
open PySem PySem.Spec L2 PySem.W
section
variable {X : Cx} {W : WC} {u1 u2 : Nat} {es : List Expr} {e : Expr} {x1 : _} {tp ap cp : Pos} {mt mas : MA} {name : Str} {id : String} {r : V → List V → Hp → VK → Prop} {t ta : TA}
end
end DL
namespace DL
open PySem PySem.Spec PyProof.Rows L2
def lkT (ks : List (List Key × PyData)) (k : List Key) : Option PyData := match ks with
  | [] => none
  | (k', d) :: r => if k' = k then some d else lkT r k
def putT (ks : List (List Key × PyData)) (k : List Key) (d : PyData) : List (List Key × PyData) :=
  if (lkT ks k).isSome = true then ks.map (fun p => if p.1 = k then (p.1, d) else p) else ks ++ [(k, d)]
section
variable {K : PySem.W.Frag} {F : Hp}
theorem AtKt.lk : ∀ {kvs : List (List Key × V)} {ks : List (List Key × PyData)} (k : List Key), AtKt K F kvs ks → (lkT ks k = none ∧ valV kvs k = none) ∨ ∃ v d, lkT ks k = some d ∧ valV kvs k = some v ∧ At K F v d
  | _, _, k, .nil => .inl ⟨rfl, rfl⟩
  | _, _, k, .cons (k := k') (v := v) (d := d) h t => by
    unfold lkT
    by_cases e : k' = k
    · rw [if_pos e, valV_pos (p := (k', v)) e]
      exact .inr ⟨v, d, rfl, rfl, h⟩
    · rw [if_neg e, valV_neg (p := (k', v)) e]
      exact AtKt.lk k t
theorem AtKt.length : ∀ {kvs : List (List Key × V)} {ks : List (List Key × PyData)}, AtKt K F kvs ks → kvs.length = ks.length
  | _, _, .nil => rfl
  | _, _, .cons _ t => by rw [List.length_cons, List.length_cons, AtKt.length t]
theorem AtKt.repl {v : V} {d : PyData} (h : At K F v d) (k : List Key) : ∀ {kvs : List (List Key × V)} {ks : List (List Key × PyData)}, AtKt K F kvs ks → AtKt K F (kvs.map fun kv => if kv.1 = k then (kv.1, v) else kv) (ks.map fun p => if p.1 = k then (p.1, d) else p)
  | _, _, .nil => .nil
  | _, _, .cons (k := k') (v := v') (d := d') h' t => by
    rw [List.map_cons, List.map_cons]
    by_cases e : k' = k
    · rw [if_pos e, if_pos e]
      exact .cons h (AtKt.repl h k t)
    · rw [if_neg e, if_neg e]
      exact .cons h' (AtKt.repl h k t)
theorem AtKt.snoc {v : V} {d : PyData} (h : At K F v d) (k : List Key) : ∀ {kvs : List (List Key × V)} {ks : List (List Key × PyData)}, AtKt K F kvs ks → AtKt K F (kvs ++ [(k, v)]) (ks ++ [(k, d)])
  | _, _, .nil => .cons h .nil
  | _, _, .cons h' t => .cons h' (AtKt.snoc h k t)
theorem AtKt.put {v : V} {d : PyData} (h : At K F v d) (k : List Key) {kvs : List (List Key × V)} {ks : List (List Key × PyData)} (a : AtKt K F kvs ks) : AtKt K F (putK kvs k v) (putT ks k d) := by
  unfold putK putT
  rw [valV_any]
  rcases AtKt.lk k a with ⟨e1, e2⟩ | ⟨v', d', e1, e2, _⟩
  · rw [e1, e2, if_neg (by simp), if_neg (by simp)]
    exact AtKt.snoc h k a
  · rw [e1, e2, if_pos (by simp), if_pos (by simp)]
    exact AtKt.repl h k a
end
def DV.dct : DV → Option (Addr × List (List Key × PyData))
  | .odt a ks => some (a, ks)
  | .bdt a ks => some (a, ks)
  | _ => none
section
variable {X : Cx}
end
section
variable {u u1 u2 u3 : Nat} {X : Cx} {W : WC} {a b c e : Expr} {es : List Expr} {pos p p1 p2 : Pos} {ma mb me mi : ME} {mas : MA} {m : MS} {x : Str}
end
section
variable {a : Addr} {ks : List (List Key × PyData)} {k : List Key} {ds xs : List PyData} {d : PyData} {R : DV → Prop} {n : Bool} {ps : List (List Key × PyData)}
theorem seen_ot : DV.seen (.odt a ks) = .bdt a ks := rfl
theorem seen_bt : DV.seen (.bdt a ks) = .bdt a ks := rfl
theorem isBor_ot : DV.isBor (.odt a ks) = false := rfl
theorem isBor_bt : DV.isBor (.bdt a ks) = true := rfl
end
end DL
namespace DL
open PySem PySem.Spec L2
section
variable {X : Cx} {W : WC} {u1 u2 : Nat} {a b : Expr} {pos : Pos} {ma mb : ME}
end
end DL
namespace L2
open PySem PySem.Spec PyProof.Rows
section
variable {X : Cx} {x y n : Str} {c c' : Value} {i : Nat} {B S S' : List Stmt} {s0 s1 : Stmt} {p1 p2 p3 p4 p5 : Pos} {tb : WX → TS} {ts ts' : Addr → Value → Option Addr → TS}
end
end L2
namespace DL
open PySem PySem.Spec L2 PySem.W
section
variable {X : Cx} {W : WC} {u1 u2 u3 k : Nat} {pos : Pos} {K' : Frag} {mg' : Str → Option Value} {L : List Str} {sub : Str → Str → Bool}
end
end DL
namespace DL
open PySem PySem.Spec PyProof.Rows L2
section
variable {X : Cx} {pins : List (Addr × Obj)} {σ : L2.St} {H : Hp} {s : Shared} {d : Addr} {o : Obj} {es : Array DictEntry} {ep : Nat}
variable {P : Program} {w : World} {K : PySem.W.Frag}
variable {e : Expr} {td : TE} {apos cpos : Pos}
end
structure Dr (F F' : Hp) : Prop where
  k : ∀ b u, F b = some u → (∀ o kvs, u ≠ .frz o (.dT kvs)) → F' b = some u
section
variable {K : PySem.W.Frag} {F F' : Hp}
theorem Dr.rd (e : Dr F F') {a : Addr} {u : HO} (h : Rd F a u) (h1 : ∀ o kvs, u ≠ .frz o (.dT kvs)) (h2 : ∀ kvs, u ≠ .dT kvs) : Rd F' a u := by
  rcases h with h | ⟨o, h⟩
  · exact .inl (e.k _ _ h h1)
  · exact .inr ⟨o, e.k _ _ h fun o2 kvs z => by cases z; exact h2 _ rfl⟩
mutual
theorem At.dr (e : Dr F F') : ∀ (d : PyData) (v : V), At K F v d → At K F' v d
  | .none, _, h => by cases h; exact .non
  | .bool b, _, h => by cases h; exact .bl b
  | .int i, _, h => by cases h; exact .int i
  | .str x, _, h => by cases h; exact .str x
  | .list ds, _, h => by
    cases h with
    | lst hs ha => exact .lst (e.k _ _ hs (fun _ _ z => by cases z)) (AtL.dr e ds _ ha)
  | .tuple ds, _, h => by
    cases h with
    | tup hs ha => exact .tup (e.k _ _ hs (fun _ _ z => by cases z)) (AtL.dr e ds _ ha)
  | .dict ds, _, h => by
    cases h with
    | dct hs ha => exact .dct (e.rd hs (fun _ _ z => by cases z) (fun _ z => by cases z)) (AtKv.dr e ds _ ha)
    | obj hs ho hn ha => exact .obj (e.k _ _ hs (fun _ _ z => by cases z)) ho hn (AtKv.dr e _ _ ha)
theorem AtL.dr (e : Dr F F') : ∀ (ds : List PyData) (vs : List V), AtL K F vs ds → AtL K F' vs ds
  | [], _, h => by cases h; exact .nil
  | d :: ds, _, h => by
    cases h with
    | cons h1 h2 => exact .cons (At.dr e d _ h1) (AtL.dr e ds _ h2)
theorem AtKv.dr (e : Dr F F') : ∀ (ds : List (PyData × PyData)) (kvs : List (Key × V)), AtKv K F kvs ds → AtKv K F' kvs ds
  | [], _, h => by cases h; exact .nil
  | (k, d) :: ds, _, h => by
    cases h with
    | cons h1 h2 => exact .cons (At.dr e d _ h1) (AtKv.dr e ds _ h2)
end
theorem AtKt.dr (e : Dr F F') : ∀ (ds : List (List Key × PyData)) (kvs : List (List Key × V)), AtKt K F kvs ds → AtKt K F' kvs ds
  | [], _, h => by cases h; exact .nil
  | (k, d) :: ds, _, h => by
    cases h with
    | cons h1 h2 => exact .cons (At.dr e d _ h1) (AtKt.dr e ds _ h2)
end
section
variable {G : Gm} {F F2 H H2 : Hp} {δ : Env} {σ : L2.St} {i : Nat} {x y : DV} {v : V} {l : Addr} {kvs : List (List Key × V)} {ks : List (List Key × PyData)} {o : Obj}
theorem AtF.dr {K : PySem.W.Frag} {F F' : Hp} (e : Dr F F') {v : V} {x : FV} (h : AtF K F v x) : AtF K F' v x := by
  cases h with
  | d h => exact .d (At.dr e _ _ h)
  | r a => exact .r a
theorem AtFs.dr {K : PySem.W.Frag} {F F' : Hp} (e : Dr F F') : ∀ {vs : List (Str × V)} {fs : List (Str × FV)}, AtFs K F vs fs → AtFs K F' vs fs
  | _, _, .nil => .nil
  | _, _, .cons h r => .cons (h.dr e) (AtFs.dr e r)
theorem AtFl.dr {K : PySem.W.Frag} {F F' : Hp} (e : Dr F F') : ∀ {vs : List V} {fs : List FV}, AtFl K F vs fs → AtFl K F' vs fs
  | _, _, .nil => .nil
  | _, _, .cons h r => .cons (h.dr e) (AtFl.dr e r)
theorem Dr.sqO {F F' : Hp} (e : Dr F F') {a : Addr} {tup : Bool} {vs : List V} (h : F a = some (DL.sqO tup vs)) : F' a = some (DL.sqO tup vs) := by
  cases tup with
  | true => exact e.k _ _ h (fun _ _ z => by cases z)
  | false => exact e.k _ _ h (fun _ _ z => by cases z)
end
section
variable {u u1 u2 u3 : Nat} {X : Cx} {W : WC} {a b c e : Expr} {es : List Expr} {pos p p1 p2 : Pos} {ma mb mc me mi : ME} {m : MS} {x : Str}
def itemsT (ks : List (List Key × PyData)) : List PyData := ks.map fun p => .tuple [.tuple (p.1.map keyD), p.2]
theorem AtKt.get {K : PySem.W.Frag} {F : Hp} : ∀ {kvs : List (List Key × V)} {ks : List (List Key × PyData)} {i : Nat} {p : List Key × PyData}, AtKt K F kvs ks → ks[i]? = some p → ∃ v, kvs[i]? = some (p.1, v) ∧ At K F v p.2
  | _, _, i, p, .nil, e => by simp at e
  | _, _, 0, p, .cons h _, e => by
    simp at e
    subst e
    exact ⟨_, rfl, h⟩
  | _, _, i + 1, p, .cons _ t, e => by
    obtain ⟨v, h1, h2⟩ := AtKt.get (i := i) t (by simpa using e)
    exact ⟨v, by simpa using h1, h2⟩
variable {tg iter elt : Expr} {ifs : List Expr} {scope : Scope} {own : List (Str × Nat)} {tt : MT} {te : ME} {ut ue : Nat} {dom : List Nat} {mi' : MI}
end
section
variable {a : Addr} {ks : List (List Key × PyData)} {k : List Key} {ds : List PyData} {d : PyData} {i : Int} {x : Str} {p : Unit → LkT} {xs : List PyData}
theorem dct_ot : DV.dct (.odt a ks) = some (a, ks) := rfl
theorem dct_bt : DV.dct (.bdt a ks) = some (a, ks) := rfl
theorem seen_lt : DV.seen (.ldt p ks) = .ldt p ks := rfl
theorem isBor_lt : DV.isBor (.ldt p ks) = false := rfl
end
end DL
namespace DL
open PySem PySem.Spec L2
def KBind (K : PySem.W.Frag) (fd : FuncData) (ps : List Str) (n : Nat) (pk : Str) : Prop :=
  ∀ (s : Shared) (us : List Value) (u : Value), K.In s.heap → us.length = n → BindsTo s fd ⟨us, [(pk, u)]⟩ (ps.zip (us ++ [u]))
theorem kbind_of {K : PySem.W.Frag} {x qual pk : Str} {st : Stmt} {f : Addr} {fd : FuncData} {ps : List Str} {n : Nat} (F : L2.Fun K x qual st f fd)
    (h : ∀ (kV doc pm : Value) (an : Option Addr) (cdv ct : Value) (us : List Value) (u : Value), us.length = n → bindArgs (PySem.W.fnOf x qual (defArgs st) (defBody st) (defScope st) .none kV doc pm an cdv ct) ⟨us, [(pk, u)]⟩ = pure (ps.zip (us ++ [u]))) : KBind K fd ps n pk := by
  obtain ⟨oc, od, kV, doc, pm, an, cdv, ct, osl, rfl, lk, hcd⟩ := F.ex
  exact fun s us u _ hl => .of_eq (h kV doc pm an cdv ct us u hl)
def DFnK (P : Program) (w : World) (K : PySem.W.Frag) (mg : Str → Option Value) (base : Heap) (CK : CKT) (x pk : Str) (k u n : Nat) (mf : MF) : Prop :=
  ∃ (f : Addr) (fd : FuncData) (ps : List Str), mg x = some (.ref f) ∧ PySem.W.keepIn K (.ref f) = true ∧ KBind K fd ps n pk ∧ ps.length = n + 1 ∧ FnG P w K mg base k f fd ps (spD K mg CK u (n + 1) mf)
section
variable {P : Program} {w : World} {K : PySem.W.Frag} {mg : Str → Option Value} {base : Heap}
theorem DFnK.le {x pk : Str} {k u u' n : Nat} {mf : MF} {CK : CKT} (h : DFnK P w K mg base CK x pk k u n mf) (hu : u ≤ u') : DFnK P w K mg base CK x pk k u' n mf := by
  obtain ⟨f, fd, ps, h1, h2, h3, h4, h5⟩ := h
  refine ⟨f, fd, ps, h1, h2, h3, h4, h5.imp fun vs H Q E q => ?_⟩
  obtain ⟨q1, G, F, as, R, ex, q2, q3, q4, q5, q6, q7, q8, q9⟩ := q
  exact ⟨q1, G, F, as, R, ex, q2, ⟨q3.1, Nat.le_trans (Nat.add_le_add_left hu _) q3.2⟩, q4, q5, q6, q7, fun r hr ha v F' H' g => q8 r hr ha v F' H' (g.mono hu), fun e he b cls d F' H' hb g => q9 e he b cls d F' H' (Nat.le_trans hb hu) g⟩
end
section
variable {X : Cx} {W : WC} {e e0 : Expr} {es : List Expr} {pos p kp : Pos} {mas : MA} {me : ME} {x pk : Str} {k j n u1 u2 u3 : Nat} {mf : MF}
end
end DL
namespace DL
open PySem PySem.Spec L2
section
variable {u u1 u2 u3 : Nat} {X : Cx} {W : WC} {a b c : Expr} {ma mb mc : ME}
end
end DL
namespace DL
open PySem PySem.Spec L2
section
variable {X : Cx} {W : WC} {e o : Expr} {es : List Expr} {apos pos : Pos} {mas : MA} {me : ME} {nm m : Str} {lv j n u1 u2 u3 : Nat} {mf : MF}
theorem de_mtA {pl : Sem Bool} (c : Ctx X W j) (M : DMt X.prog X.w X.K X.mg X.base W.ck nm m lv u2 n mf) (hk : lv ≤ j) (ho : DE X W o me u1) (ha : DA X W (e :: es) mas u3)
    (hst : starEach (e :: es) X.env = (false, eval e X.env) :: starEach es X.env := by rfl) (hpl : (backTo pos (starEach es X.env)).any (·.1) = false := by rfl)
    (ht : eval (.Call (.Attribute o m apos) (e :: es) [] pos) X.env = (do
      let ov ← eval o X.env
      standAt apos.atName
      let (f, first) ← holding [ov] (getMethod ov m pl)
      callWith pos f first (backTo pos (starEach (e :: es) X.env)) (backToKw pos (keywordEach [] X.env))) := by rfl) :
    DE X W (.Call (.Attribute o m apos) (e :: es) [] pos) (mMt nm m n mf me mas) (u1 + (u3 + u2)) := by
  obtain ⟨C, f, fd, ps, hO, hM, hb, hn, hF⟩ := M.ex
  refine ⟨⟨fun pins s σ H Q I h => ?_⟩⟩
  obtain ⟨ex, G, F, δ, τ, ts, τ1, ts1, R, nw, m', kk⟩ := h
  have q : liftE X.K X.mg W u1 me σ H fun v H1 => ∃ a dx fs, v = .ref a ∧ H1 a = some (.ins C dx fs) ∧ fs.lookup m = none ∧ liftA X.K X.mg W u3 mas σ H1 fun vs H2 => spD X.K X.mg W.ck u2 n mf (v :: vs) H2 Q (WE W.w σ) := by
    refine ⟨ex, G, F, δ, τ, ts, τ1, ts1, _, nw.fst, m', fun x hx v F1 H1 g1 => ?_⟩
    obtain ⟨h1, hx⟩ := hx
    have hO' : ObjC (G.up u1).K nm C := by rw [show (G.up u1).K = X.K from nw.k]; exact hO
    obtain ⟨xa, a, dx, fs, rfl, e1, e2⟩ := mt_at hO' g1.top h1
    refine ⟨a, dx, fs, rfl, g1.fh _ _ e1, e2, ?_⟩
    refine ⟨ex, G.up u1, F1, δ, τ, ts, _, _, _, (nw.after g1).fst, hx, fun xs hxs vs F2 H2 hl g2 => ?_⟩
    split at hxs
    · rename_i as ea
      obtain ⟨hn2, hxs⟩ := hxs
      have g3 : Good (G.up (u1 + u3)) F2 (δ ++ τ ++ τ1 ++ [some x] ++ xs.map some) (σ ++ ts ++ ts1 ++ [some (.ref a)] ++ vs.map some) H2 := by
        rw [up_up] at g2
        simpa only [List.append_assoc] using g2
      obtain ⟨k1, k2⟩ := argsD_arg ea
      obtain ⟨F3, s3, g4⟩ := fix_args xs g3 ea
      have g5 : Good (G.up (u1 + u3)) F3 (δ ++ τ ++ τ1 ++ (x :: as).map some) (σ ++ ts ++ ts1 ++ (V.ref a :: vs).map some) H2 := by
        simpa only [List.append_assoc, List.map_cons, List.singleton_append] using g4
      have hla : (x :: as).length = (V.ref a :: vs).length := by rw [List.length_cons, List.length_cons, k1, hl]
      have harg : ∀ z ∈ x :: as, z.arg = true := fun z hz => by
        rcases List.mem_cons.mp hz with rfl | hz
        · exact xa
        · exact k2 z hz
      have gb := g5.cut (by simpa using hla)
      refine ⟨hla.symm.trans hn2, (G.up (u1 + u3)).into F3 H2, F3, x :: as, R, fun e => ex e δ, nw.k, ⟨nw.ck.1, by have := nw.ck.2; show G.n + (u1 + u3) + u2 ≤ G.lim; omega⟩, hla, harg, gb.into harg hla fun i y e => Good.nth hla g5 e, hxs, fun r hr ha v F' H' g' => kk r hr v F' H' (by
        have := gb.ret (δ₁ := []) (σ₁ := []) ha g'
        rw [up_up] at this
        exact Good.mono this (by omega)), fun e he b cls d F' H' hb g' hx => ?_⟩
      exact nw.link (u1 + u3 + b) F' δ σ H' τ1 ts1 e cls d (by omega) nw.l1 (by rw [← up_up]; exact gb.back g') hx he
    · exact hxs.elim
  refine PySem.W.methodCall_KW (pl := pl) (thn (ho.pe.run pins s σ H _ I q) fun u s1 ⟨x, H1, I1, rx, a, dx, fs, ex, ea, l, q⟩ => ?_) ht
  subst ex
  obtain rfl : u = Value.ref a := rx
  refine getmeth_ok I1 ea hO.cls hM l ?_
  exact PySem.W.callWith_K (first := [.ref a]) (h₀ := X.base) I.ok.mod.kin hM.kp (thn (ha.pa.run pos pins s1 σ H1 _ I1 q) fun us s2 ⟨vs, H2, I2, r, q2⟩ => ⟨I2.kIn, call_run hF c.gd (c.hr.mono hk) hb c.tk (us := .ref a :: us) (vs := .ref a :: vs) I2 (.cons rfl r) q2⟩) hst hpl
end
end DL
namespace DL
open PySem PySem.Spec L2
abbrev MK := List DV → (List (Str × PyData) → Prop) → (DExc → Prop) → Prop
def spMkG (K : PySem.W.Frag) (mg : Str → Option Value) (CK : CKT) (C : Addr) (u n : Nat) (mk : MK) : Sp := fun vs H Q E => vs.length = n + 1 ∧ ∃ (G : Gm) (F : Hp) (x dx : Addr) (us : List V) (as : List DV) (R : List (Str × PyData) → Prop) (ex : DExc → Prop), vs = .ref x :: us ∧ G.K = K ∧ (CK G.C G.cv G.J G.lim ∧ G.n + u ≤ G.lim) ∧ as.length = us.length ∧ (∀ z ∈ as, z.arg = true) ∧
  Good G F (as.map some) (us.map some) H ∧ F x = none ∧ G.B x = none ∧ H x = some (.ins C dx []) ∧ mk as R ex ∧
  (∀ fs, R fs → (∀ p ∈ fs, NoAttr K C p.1) → ∀ gs F' H', Good (G.up u) F' [] [] H' → H' x = some (.ins C dx gs) → F' x = none → AtKv K F' (fKv gs) (kvD fs) → Q .non H') ∧
  (∀ e, ex e → ∀ b cls d F' H', b ≤ u → Good (G.up b) F' [] [] H' → ExcAt K mg F' H' e cls d → E cls d H')
structure DMkG (P : Program) (w : World) (K : PySem.W.Frag) (mg : Str → Option Value) (base : Heap) (CK : CKT) (nm : Str) (lv u n : Nat) (mk : MK) : Prop where
  ex : ∃ C fI fd ps, mg nm = some (.ref C) ∧ Mk K C fI ∧ ObjC K nm C ∧ FnG P w K mg base lv fI fd ps (spMkG K mg CK C u n mk) ∧ Binds K fd ps [] ∧ ps.length = n + 1
def mMkG (nm : Str) (n : Nat) (mk : MK) (t : MA) : ME := fun ex δ R => t ex δ fun xs => match argsD xs with
  | some as => as.length = n ∧ mk as (fun fs => R (.d (objD nm fs))) (fun e => ex e δ)
  | none => False
theorem make_guards {A : Around} {C : Addr} {us : List Value} {kw : List (Str × Value)} : (A.under (.builtin "type.__call__" ⟨.ref C :: us, kw⟩)).guards = A.guards := by
  first | rfl | simp [Around.under, Code.frames, Code.isFrame]
section
variable {X : Cx} {W : WC} {e : Expr} {es : List Expr} {pos p apos : Pos} {mas : MA} {u u1 u2 : Nat} {nm : Str} {lv j n : Nat} {mk : MK}
theorem make_run {C f : Addr} {fd : FuncData} {ps : List Str} {sp : Sp} {pins : List (Addr × Obj)} {σ : L2.St} {H : Hp} {s : Shared} {Q : VK} {us : List Value} {vs : List V} {k : Nat} (M : Mk X.K C f) (F : FnG X.prog X.w X.K X.mg X.base k f fd ps sp) (hg : X.A.guards = some []) (hr : Room (k + 1) X.A) (hb : Binds X.K fd ps []) (tk : Takes X W.w)
    (I : Inv X pins σ H s) (r : Vals vs us)
    (h : ∀ x dx, H x = none → H dx = none → dx ≠ x → sp (.ref x :: vs) (upd (upd H dx (.own x)) x (.ins C dx [])) (fun v H2 => v = .non ∧ Q (.ref x) H2) (WE W.w σ)) :
    wpAny (model X.prog X.w) X.A (call (.ref C) us) (EP X pins σ Q) X.xe s := by
  have hq := h (s.heap.objs.size + 1) s.heap.objs.size (I.hok.fresh (Nat.le_succ _)) (I.hok.fresh (Nat.le_refl _)) (Nat.ne_of_lt (Nat.lt_succ_self _))
  have I2 := Inv.made (C := C) I
  have r2 : Vals (V.ref (s.heap.objs.size + 1) :: vs) (Value.ref (s.heap.objs.size + 1) :: us) := .cons rfl r
  have hl : (Value.ref (s.heap.objs.size + 1) :: us).length = ps.length := r2.length.symm.trans (F.len _ _ _ _ hq)
  have hb' := hb _ (Value.ref (s.heap.objs.size + 1) :: us) I2.kIn (by simpa using hl)
  rw [List.append_nil] at hb'
  refine wpAny_call (make_map (f := f) I.kIn M.makes M.init (beq_iff_eq.mp M.fn) (codeAny_mono (F.run _ X.stack _ _ ⟨Value.ref (s.heap.objs.size + 1) :: us, []⟩ (Value.ref (s.heap.objs.size + 1) :: us) _ _ (WE W.w σ) (make_guards.trans hg) (hr.make C us [])
    (I2.env0.make C us []) hb' r2 hq) fun res s' hq' => ?_))
  match res, hq' with
  | .error e, hq' => exact passAt tk σ pins _ _ e s' I2 hq'
  | .ok (.ret u), hq' =>
    obtain ⟨v, H', I3, rv, ev, q3⟩ := I2.after hq'
    subst ev
    exact ⟨rv, ⟨V.ref (s.heap.objs.size + 1), H', I3, rfl, q3⟩⟩
theorem Good.obj {G : Gm} {F H : Hp} {δ : Env} {σ : L2.St} (g : Good G F δ σ H) {x : Addr} {o : HO} (h : H x = some o) (hf : F x = none) (hb : G.B x = none) (hx : ∀ (i : Nat) (z : DV), δ[i]? = some (some z) → z.isOwn = true → σ[i]? ≠ some (some (.ref x))) (hc : ¬ G.C x) : Same F (upd F x o) ∧ Good G (upd F x o) δ σ H := by
  have s : Same F (upd F x o) := fun b u e => by rw [upd_ne (ne_of_none e hf)]; exact e
  refine ⟨s, g.g, g.len, g.f0.trans s, fun b u e => ?_, fun b e1 e2 => ?_, g.bh, fun b c => ?_, g.jh, fun i z e => ?_, g.di⟩
  · by_cases q : b = x
    · subst q
      rw [upd_same] at e
      cases e
      exact h
    · rw [upd_ne q] at e
      exact g.fh _ _ e
  · by_cases q : b = x
    · subst q
      exact .inl hb
    · rw [upd_ne q] at e1 ⊢
      exact g.fr b e1 e2
  · rw [upd_ne (fun z : b = x => hc (z ▸ c))]
    exact g.cf b c
  · obtain ⟨w, ew, hw⟩ := g.sl i z e
    refine ⟨w, ew, hw.keep s (fun _ _ _ _ q => q) fun p hz hq hp => ?_⟩
    rw [upd_ne]
    · exact hp
    · intro e2
      subst e2
      subst hq
      exact hx i z e hz ew
theorem de_mkG (c : Ctx X W j) (M : DMkG X.prog X.w X.K X.mg X.base W.ck nm lv u2 n mk) (hk : lv + 1 ≤ j) (hg : Gl X nm) (ha : DA X W (e :: es) mas u1) (hdb : (nm == ("__debug__" : Str)) = false := by decide)
    (he : starEach (e :: es) X.env = (false, eval e X.env) :: starEach es X.env := by rfl) (hpl : (backTo pos (starEach es X.env)).any (·.1) = false := by rfl) : DE X W (.Call (.Name nm p) (e :: es) [] pos) (mMkG nm n mk mas) (u1 + u2) := by
  obtain ⟨C, fI, fd, ps, hm, hM, hO, hF, hb, hn⟩ := M.ex
  refine ⟨⟨fun pins s σ H Q I h => ?_⟩⟩
  obtain ⟨ex, G, F, δ, τ, ts, τ1, ts1, R, nw, m, kk⟩ := h
  have q : liftA X.K X.mg W u1 mas σ H fun vs H1 => ∀ x dx, H1 x = none → H1 dx = none → dx ≠ x → spMkG X.K X.mg W.ck C u2 n mk (.ref x :: vs) (upd (upd H1 dx (.own x)) x (.ins C dx [])) (fun v H2 => v = .non ∧ Q (.ref x) H2) (WE W.w σ) := by
    refine ⟨ex, G, F, δ, τ, ts, τ1, ts1, _, nw.fst, m, fun xs hxs vs F1 H1 hl g1 x dx nx nd ne => ?_⟩
    split at hxs
    · rename_i as ea
      obtain ⟨hn2, hxs⟩ := hxs
      obtain ⟨h1, h2⟩ := argsD_arg ea
      obtain ⟨F2, s2, g2⟩ := fix_args xs g1 ea
      have hla : as.length = vs.length := h1.trans hl
      have off : ∀ {q : Addr}, H1 q = none → F2 q = none := fun {q} hq => by
        cases z : F2 q with
        | none => rfl
        | some o => rw [g2.fh _ _ z] at hq; cases hq
      have g3 := g2.grow (o := .own x) nd
      have s3 : Same F2 (upd F2 dx (.own x)) := fun b o z => by rw [upd_ne (ne_of_none z (off nd))]; exact z
      have ndx : (upd H1 dx (.own x)) x = none := by rw [upd_ne (Ne.symm ne)]; exact nx
      have fx3 : (upd F2 dx (.own x)) x = none := by rw [upd_ne (Ne.symm ne)]; exact off nx
      have cx3 : ¬ G.C x := fun z => g3.g.jn _ _ g3.jh x z ndx
      -- the heap with the new object, the object itself not fixed
      obtain ⟨H2, hH2⟩ : ∃ H2, H2 = upd (upd H1 dx (.own x)) x (.ins C dx []) := ⟨_, rfl⟩
      rw [← hH2]
      have h12 : ∀ b o, (upd H1 dx (.own x)) b = some o → H2 b = some o := fun b o z => by rw [hH2, upd_ne (ne_of_none z ndx)]; exact z
      have g4 : Good (G.up u1) (upd F2 dx (.own x)) (δ ++ τ ++ τ1 ++ as.map some) (σ ++ ts ++ ts1 ++ vs.map some) H2 := by
        refine ⟨g3.g, g3.len, g3.f0, fun b o z => h12 _ _ (g3.fh _ _ z), g3.fr, fun b o z1 z2 => h12 _ _ (g3.bh b o z1 z2), g3.cf, g3.g.js _ _ _ g3.jh (fun b z => ?_) (fun b φ z => h12 _ _ z), fun i z ez => ?_, g3.di⟩
        · rw [hH2]
          exact upd_ne fun e => cx3 (e ▸ z)
        · obtain ⟨w, ew, hw⟩ := g3.sl i z ez
          exact ⟨w, ew, hw.keep (Same.refl _) (fun l o _ _ z => h12 _ _ z) fun _ _ _ z => z⟩
      have gb := g4.cut (by simpa using hla)
      have e4 := gb.into h2 hla fun i y e => Good.nth hla g4 e
      -- the object is not among what must stay
      obtain ⟨B2, hB2⟩ : ∃ B2 : Hp, B2 = fun q => if q = x then none else H2 q := ⟨_, rfl⟩
      have B2x : B2 x = none := by rw [hB2]; exact if_pos rfl
      have B2n : ∀ q, q ≠ x → B2 q = H2 q := fun q z => by rw [hB2]; exact if_neg z
      obtain ⟨G5, hG5⟩ : ∃ G5 : Gm, G5 = { (G.up u1).into (upd F2 dx (.own x)) H2 with B := B2 } := ⟨_, rfl⟩
      have g5 : Good G5 (upd F2 dx (.own x)) (as.map some) (vs.map some) H2 := by
        subst hG5
        refine ⟨⟨e4.g.js, e4.g.jm, e4.g.jn, fun q z => ?_, e4.g.jt⟩, e4.len, e4.f0, e4.fh, fun q z1 z2 => absurd z2 z1, fun q o z1 z2 => ?_, e4.cf, e4.jh, fun i z ez => ?_, e4.di⟩
        · show B2 q ≠ none
          rw [B2n q fun e => cx3 (e ▸ z)]
          exact e4.g.cb q z
        · by_cases c : q = x
          · subst c
            have z2 : B2 q = some o := z2
            rw [B2x] at z2
            cases z2
          · have z2 : B2 q = some o := z2
            rw [B2n q c] at z2
            exact z2
        · obtain ⟨w, ew, hw⟩ := e4.sl i z ez
          refine ⟨w, ew, ?_⟩
          have := h2 z (by
            rw [List.getElem?_map] at ez
            cases q : as[i]? with
            | none => rw [q] at ez; cases ez
            | some y => rw [q] at ez; cases ez; exact List.mem_of_getElem? q)
          cases z with
          | d _ => exact hw
          | cask => exact hw
          | raw _ => exact hw
          | scr _ => exact hw
          | fvs _ _ => exact hw
          | _ => cases this
      have k5 : G5.K = X.K := by rw [hG5]; exact nw.k
      have hH2x : H2 x = some (.ins C dx []) := by rw [hH2, upd_same]
      -- what the callee leaves, for the caller
      have back : ∀ {b : Nat} {F' H' : Hp}, Good (G5.up b) F' [] [] H' → F' x = none ∨ True → Good ((G.up u1).up b) F' (δ ++ τ ++ τ1) (σ ++ ts ++ ts1) H' := fun {b F' H'} g' _ => by
        -- a callee whose base is the heap without the object
        refine Good.back (H := upd H1 dx (.own x)) (F := upd F2 dx (.own x)) (δ₁ := []) (σ₁ := []) (g3.cut (A := δ ++ τ ++ τ1) (by simpa using hla)) ?_
        subst hG5
        refine ⟨⟨g'.g.js, g'.g.jm, g'.g.jn, fun q z => g3.g.jn _ _ g3.jh q z, g'.g.jt⟩, g'.len, g'.f0, g'.fh, fun q z1 z2 => ?_, fun q o z1 z2 => g'.bh q o z1 ?_, g'.cf, g'.jh, fun i z ez => by simp at ez, fun i j x y l a b e1 _ _ _ => by simp at e1⟩
        · rcases g'.fr q z1 z2 with h | h
          · left
            show (upd H1 dx (.own x)) q = none
            by_cases c : q = x
            · rw [c]; exact ndx
            · have h : B2 q = none := h
              rw [B2n q c, hH2, upd_ne c] at h
              exact h
          · exact .inr h
        · show B2 q = some o
          have z2 : (upd H1 dx (.own x)) q = some o := z2
          rw [B2n q (ne_of_none z2 ndx)]
          exact h12 _ _ z2
      refine ⟨by rw [List.length_cons, ← hla, hn2], G5, upd F2 dx (.own x), x, dx, vs, as, fun fs => R (.d (objD nm fs)), fun e => ex e δ, rfl, k5, ⟨by rw [hG5]; exact nw.ck.1, by rw [hG5]; have := nw.ck.2; show G.n + u1 + u2 ≤ G.lim; omega⟩, hla, h2, g5, fx3, by rw [hG5]; exact B2x, hH2x, hxs, fun fs hfs hna gs F' H' g' hx' fx' hat => ⟨rfl, ?_⟩, fun e he b cls d F' H' hb g' hx => ?_⟩
      · have g6 := back g' (.inr trivial)
        rw [up_up] at g6
        have cx : ¬ (G.up (u1 + u2)).C x := cx3
        have bx : (G.up (u1 + u2)).B x = none := by
          cases z : (G.up (u1 + u2)).B x with
          | none => rfl
          | some o => exact absurd (g3.bh x o cx3 z) (by rw [ndx]; exact fun z => by cases z)
        have hno : ∀ (i : Nat) (z : DV), (δ ++ τ ++ τ1)[i]? = some (some z) → z.isOwn = true → (σ ++ ts ++ ts1)[i]? ≠ some (some (.ref x)) := fun i z ez hz ew => by
          obtain ⟨w, ew2, hw⟩ := (g3.cut (A := δ ++ τ ++ τ1) (by simpa using hla)).sl i z ez
          rw [ew] at ew2
          cases ew2
          obtain ⟨l, o, q1, q2, _⟩ := own_at hw hz
          cases q1
          exact absurd q2 (by rw [ndx]; exact fun z => by cases z)
        obtain ⟨s7, g7⟩ := g6.obj hx' fx' bx hno cx
        · refine kk _ hfs _ _ _ (g7.pushD ?_)
          rw [show (G.up (u1 + u2)).K = X.K from nw.k]
          refine .obj upd_same hO (fun p hp => ?_) (AtKv.mono s7 _ _ hat)
          have hmem : ∀ {gs : List (Str × V)} {fs : List (Str × PyData)}, AtKv X.K F' (fKv gs) (kvD fs) → ∀ p ∈ gs, ∃ q ∈ fs, q.1 = p.1 := fun {gs} => by
            induction gs with
            | nil => intro fs _ p hp; cases hp
            | cons g gs ih =>
              intro fs h p hp
              cases fs with
              | nil => cases h
              | cons f fs =>
                obtain ⟨gn, gv⟩ := g
                obtain ⟨fn, fv⟩ := f
                have h : AtKv X.K F' ((.inr gn, gv) :: fKv gs) ((.str fn, fv) :: kvD fs) := h
                generalize hks : ((PyData.str fn, fv) :: kvD fs) = ks at h
                cases h with
                | cons k1 k2 =>
                  obtain ⟨e1, e2⟩ := List.cons.inj hks
                  have e3 : PyData.str fn = keyD (.inr gn) := congrArg Prod.fst e1
                  have e3 : fn = gn := by injection e3
                  rcases List.mem_cons.mp hp with rfl | hp
                  · exact ⟨(fn, fv), List.mem_cons_self .., e3⟩
                  · obtain ⟨q, q1, q2⟩ := ih (fs := fs) (by rw [e2]; exact k2) p hp
                    exact ⟨q, List.mem_cons_of_mem _ q1, q2⟩
          obtain ⟨q, q1, q2⟩ := hmem hat p hp
          rw [← q2]
          exact hna q q1
      · have g6 := back g' (.inr trivial)
        exact nw.link (u1 + b) F' δ σ H' τ1 ts1 e cls d (by omega) nw.l1 (by rw [← up_up]; exact g6) hx he
    · exact hxs.elim
  refine wpAny_Call_Name_kw (ld_glob I hg hm ?_ hdb)
  exact PySem.W.callWith_K (h₀ := X.base) I.ok.mod.kin hM.kp (thn (ha.pa.run pos pins s σ H _ I q) fun us s1 ⟨vs, H1, I1, r, q⟩ => ⟨I1.kIn, make_run hM hF c.gd (c.hr.mono hk) hb c.tk I1 r q⟩) he hpl
end
theorem ev_d {X : Cx} {W : WC} {m : ME} {u : Nat} {G : Gm} {F H : Hp} {as : List DV} {vs : List V} {k : Nat} {Q : VK} (R : DV → Prop) (hK : G.K = X.K) (hck : W.ck G.C G.cv G.J G.lim ∧ G.n + u ≤ G.lim) (g : Good G F (as.map some) (vs.map some) H) (ha : ∀ x ∈ as, x.arg = true) (hl : as.length = vs.length)
    (hm : m (fun _ _ => False) (as.map some ++ List.replicate k none) R) (kk : ∀ r, R r → ∀ v F' H', Good ((G.into F H).up u) F' (as.map some ++ List.replicate k none ++ [some r]) (vs.map some ++ List.replicate k none ++ [some v]) H' → Q v H') : liftE X.K X.mg W u m (vs.map some ++ List.replicate k none) H Q := by
  have g1 := (g.into ha hl fun i x e => by
    obtain ⟨v, e1, e2⟩ := g.sl i x (by rw [List.getElem?_map, e]; rfl)
    rw [List.getElem?_map] at e1
    cases q : vs[i]? with
    | none => rw [q] at e1; cases e1
    | some w => rw [q] at e1; cases e1; exact ⟨_, rfl, e2⟩).more k
  exact ⟨fun _ _ => False, G.into F H, F, as.map some ++ List.replicate k none, [], [], [], [], R, ⟨hK, by simp [hl], rfl, by simpa using g1, fun _ _ _ _ _ _ _ _ _ _ _ _ _ _ z => False.elim z, hck⟩, hm, fun r hr v F' H' gg => kk r hr v F' H' (by simpa using gg)⟩
theorem ev_a {X : Cx} {W : WC} {m : MA} {u : Nat} {G : Gm} {F H : Hp} {as : List DV} {vs : List V} {k : Nat} {Q : List V → Hp → Prop} (R : List DV → Prop) (hK : G.K = X.K) (hck : W.ck G.C G.cv G.J G.lim ∧ G.n + u ≤ G.lim) (g : Good G F (as.map some) (vs.map some) H) (ha : ∀ x ∈ as, x.arg = true) (hl : as.length = vs.length)
    (hm : m (fun _ _ => False) (as.map some ++ List.replicate k none) R) (kk : ∀ rs, R rs → ∀ ws F' H', rs.length = ws.length → Good ((G.into F H).up u) F' (as.map some ++ List.replicate k none ++ rs.map some) (vs.map some ++ List.replicate k none ++ ws.map some) H' → Q ws H') : liftA X.K X.mg W u m (vs.map some ++ List.replicate k none) H Q := by
  have g1 := (g.into ha hl fun i x e => by
    obtain ⟨v, e1, e2⟩ := g.sl i x (by rw [List.getElem?_map, e]; rfl)
    rw [List.getElem?_map] at e1
    cases q : vs[i]? with
    | none => rw [q] at e1; cases e1
    | some w => rw [q] at e1; cases e1; exact ⟨_, rfl, e2⟩).more k
  exact ⟨fun _ _ => False, G.into F H, F, as.map some ++ List.replicate k none, [], [], [], [], R, ⟨hK, by simp [hl], rfl, by simpa using g1, fun _ _ _ _ _ _ _ _ _ _ _ _ _ _ z => False.elim z, hck⟩, hm, fun r hr v F' H' hl gg => kk r hr v F' H' hl (by simpa using gg)⟩
theorem Good.wr {G : Gm} {F H : Hp} (g : Good G F [] [] H) {p : Addr} {o o' : HO} (hp : H p = some o) (hx : ∀ φ, o ≠ .ext φ) (hF : F p = none) (hB : G.B p = none) (hC : ¬ G.C p) : Good G F [] [] (upd H p o') := by
  refine ⟨g.g, rfl, g.f0, fun b u e => ?_, g.fr, fun b u c e => ?_, g.cf, g.g.js _ _ _ g.jh (fun b c => upd_ne fun z => hC (z ▸ c)) (fun b φ e => ?_), fun i z e => (by simp at e), fun i j x y l h1 h2 e1 _ _ _ => (by simp at e1)⟩
  · rw [upd_ne fun z => by rw [z, hF] at e; cases e]; exact g.fh _ _ e
  · rw [upd_ne fun z => by rw [z, hB] at e; cases e]; exact g.bh _ _ c e
  · rw [upd_ne fun z => by rw [z, hp] at e; exact hx φ (Option.some.inj e)]; exact e
theorem Good.reset {G : Gm} {F F2 F' H H' : Hp} {u : Nat} {δ : DL.Env} {σ : L2.St} (g : Good G F [] [] H) (g' : Good ((G.into F2 H).up u) F' δ σ H') : Good (G.up u) F [] [] H' := by
  have kp : ∀ p o, ¬ G.C p → H p = some o → H' p = some o := fun p o c e => g'.bh p o c e
  refine ⟨g.g.up u, rfl, g.f0, fun b o e => kp _ _ (fun c => by rw [g.cf b c] at e; cases e) (g.fh _ _ e), g.fr, fun b o c e => kp _ _ c (g.bh b o c e), g.cf, g'.jh, fun i z e => (by simp at e), fun i j x y l h1 h2 e1 _ _ _ => (by simp at e1)⟩
theorem Good.view {G : Gm} {F H : Hp} (g : Good G F [] [] H) {p : Addr} {o : HO} (hp : H p = some o) (hF : F p = none) (hB : G.B p = none) (hC : ¬ G.C p) : Same F (upd F p o) ∧ Good G (upd F p o) [] [] H := g.obj hp hF hB (fun i z e => by simp at e) hC
end DL
namespace DL
open PySem PySem.Spec PySem.Calls PyProof.Rows PyProof.V L2 PySem.W
section
variable {prog : Program} {w : World} {A : Around} {E : Value → Shared → Prop} {s : Shared} {es : Array DictEntry} {ep : Nat}
structure ItG (es : Array DictEntry) (lo : Addr) (h : Heap) (as : List Addr) : Prop where
  rise : as.Pairwise (· < ·)
  above : ∀ a ∈ as, lo < a
  pairs : ∀ (j : Nat) (a : Addr), as[j]? = some a → ∃ e, es[j]? = some e ∧ h.get? a = some { cls := .type "tuple", data := .seq #[e.key, e.val] }
theorem ItG.there {lo : Addr} {h : Heap} {as : List Addr} (g : ItG es lo h as) {a : Addr} (ha : a ∈ as) : a < h.objs.size := by
  obtain ⟨j, hj⟩ := List.mem_iff_getElem?.mp ha
  obtain ⟨_, _, e⟩ := g.pairs j a hj
  exact Heap.lt_size e
end
section
variable {prog : Program} {w : World} {A : Around} {E : Value → Shared → Prop} {s : Shared} {es : Array DictEntry} {ep : Nat} {r d : Addr}
theorem ItG.low {lo lo' : Addr} {h : Heap} {as : List Addr} (g : ItG es lo h as) (hl : lo' ≤ lo) : ItG es lo' h as := ⟨g.rise, fun a ha => Nat.lt_of_le_of_lt hl (g.above a ha), g.pairs⟩
end
end DL
namespace DL
open PySem PySem.Spec PyProof.Rows L2
section
variable {X : Cx} {e : Expr} {te : TE} {p apos cpos pos : Pos}
end
section
variable {X : Cx} {W : WC} {e : Expr} {p apos cpos pos : Pos} {me : ME} {u : Nat}
end
end DL
namespace DL
open PySem PySem.Spec PyProof.Rows L2
section
variable {X : Cx} {W : WC} {pos p1 p2 : Pos} {e idx : Expr} {me mi : ME} {x : Str} {u1 u2 u3 : Nat}
end
end DL
namespace ST
open PySem PySem.Spec PyProof.Rows L2
variable {P : Program} {w : World} {K : Type} [DecidableEq K] {knd : KeyKind P w K} {A : Around} {E : Value → Shared → Prop} {s : Shared}
structure Plain (knd : KeyKind P w K) : Prop where
  cls : ∀ {k : K} {v : Value}, knd.is k v = true → ∀ n, ofAClassStatement n v = pure false
  val : ∀ {k : K} {v : Value}, knd.is k v = true → ∃ f, ∀ n, hashByValue n v = pure f
theorem keyed {ks : List K} {vs : List Value} (h : ItemsAre knd ks vs) : ∀ v ∈ vs, ∃ k, knd.is k v = true := by
  induction h with
  | nil => exact fun v hv => absurd hv (List.not_mem_nil)
  | cons h1 _ ih => exact fun v hv => (List.mem_cons.mp hv).elim (fun e => ⟨_, e ▸ h1⟩) (ih v)
theorem cls_no (T : Plain knd) {ks : List K} {b : Addr} {R : Bool → Shared → Prop} (hk : IsTupleKey knd s.heap ks b) (hR : R false s) : wpAny (model P w) A (ofAClassStatement 8 (.ref b)) R E s := by
  have ty := hk.typeIs
  obtain ⟨ob, its, m, hob, -, hdat, hits⟩ := hk
  have yes : (("tuple" : String) == "tuple") = true := by decide
  unfold ofAClassStatement
  refine wpAny_bind (wpAny_typeOf ty ?_)
  simp only [yes, if_true, Bool.not_true, Bool.false_eq_true, if_false]
  try refine wpAny_bind (wpAny_pure ?_)
  try simp only [Bool.not_true, Bool.false_eq_true, if_false]
  refine wpAny_bind (m := seqItems? (.ref b)) (wpAny_seqItems hob hdat ?_)
  dsimp only
  refine wpAny_bind ?_
  show wpAny _ _ (forIn its _ _) _ _ s
  rw [← Array.forIn_toList]
  have all := keyed hits
  refine wpAny_forIn_list _ (fun left st s1 => (st.1 = none ∧ s1 = s) ∧ ∀ v ∈ left, ∃ k, knd.is k v = true) _ (fun v left st s1 ⟨⟨e1, e2⟩, hv⟩ => ?_) (fun st s1 ⟨⟨e1, e2⟩, _⟩ => ?_) _ _ ⟨⟨rfl, rfl⟩, all⟩
  · subst e2
    obtain ⟨k, hkv⟩ := hv v (List.mem_cons_self ..)
    rw [T.cls hkv]
    refine wpAny_bind (wpAny_pure ?_)
    simp only [Bool.false_eq_true, if_false]
    exact wpAny_pure ⟨⟨rfl, rfl⟩, fun x hx => hv x (List.mem_cons_of_mem _ hx)⟩
  · subst e2
    obtain ⟨st1, st2⟩ := st
    have e1 : st1 = none := e1
    subst e1
    exact wpAny_pure hR
theorem by_value (T : Plain knd) {ks : List K} {b : Addr} {R : Bool → Shared → Prop} (hk : IsTupleKey knd s.heap ks b) (hR : ∀ f, R f s) : wpAny (model P w) A (hashByValue 8 (.ref b)) R E s := by
  have ty := hk.typeIs
  obtain ⟨ob, its, m, hob, -, hdat, hits⟩ := hk
  unfold hashByValue
  refine wpAny_bind (wpAny_specialOf ty F.slot_tuple_hash.lookup ?_)
  refine wpAny_bind (m := seqItems? (.ref b)) (wpAny_seqItems hob hdat ?_)
  refine wpAny_bind ?_
  show wpAny _ _ (forIn its _ _) _ _ s
  rw [← Array.forIn_toList]
  have all := keyed hits
  refine wpAny_forIn_list _ (fun left st s1 => (st.1 = none ∨ st.1 = some false) ∧ s1 = s ∧ ∀ v ∈ left, ∃ k, knd.is k v = true) _ (fun v left st s1 ⟨e1, e2, hv⟩ => ?_) (fun st s1 ⟨e1, e2, _⟩ => ?_) _ _ ⟨.inl rfl, rfl, all⟩
  · subst e2
    obtain ⟨k, hkv⟩ := hv v (List.mem_cons_self ..)
    obtain ⟨f, hf⟩ := T.val hkv
    rw [hf]
    refine wpAny_bind (wpAny_pure ?_)
    cases f with
    | true =>
      simp only [Bool.not_true, Bool.false_eq_true, if_false]
      exact wpAny_pure ⟨.inl rfl, rfl, fun x hx => hv x (List.mem_cons_of_mem _ hx)⟩
    | false =>
      simp only [Bool.not_false, if_true]
      exact wpAny_pure (wpAny_pure (hR false))
  · subst e2
    obtain ⟨st1, st2⟩ := st
    have e1 : st1 = none ∨ st1 = some false := e1
    rcases e1 with rfl | rfl
    · exact wpAny_pure (hR true)
    · exact wpAny_pure (hR false)
theorem unseen (T : Plain knd) {ks : List K} {b : Addr} {R : Bool → Shared → Prop} (hk : IsTupleKey knd s.heap ks b) {ys : List Value} (hy : ∀ y ∈ ys, ∃ c js, y = Value.ref c ∧ IsTupleKey knd s.heap js c) (hR : R false s) :
    wpAny (model P w) A (searchCouldBeSeen (.ref b) ys) R E s := by
  unfold searchCouldBeSeen
  refine wpAny_bind ?_
  refine wpAny_forIn_list _ (fun left st s1 => (st.1 = none ∧ s1 = s) ∧ ∀ y ∈ left, ∃ c js, y = Value.ref c ∧ IsTupleKey knd s.heap js c) _ (fun v left st s1 ⟨⟨e1, e2⟩, hv⟩ => ?_) (fun st s1 ⟨⟨e1, e2⟩, _⟩ => ?_) _ _ ⟨⟨rfl, rfl⟩, hy⟩
  · subst e2
    obtain ⟨c, js, rfl, hc⟩ := hv v (List.mem_cons_self ..)
    have more : ∀ y ∈ left, ∃ c js, y = Value.ref c ∧ IsTupleKey knd s1.heap js c := fun x hx => hv x (List.mem_cons_of_mem _ hx)
    dsimp only
    rcases Bool.eq_false_or_eq_true (b == c || (carriedByValue (.ref b) && carriedByValue (.ref c))) with hq | hq
    · exact wp_if_pos hq (wpAny_pure ⟨⟨rfl, rfl⟩, more⟩)
    · refine wp_if_neg (by rw [hq]; exact Bool.false_ne_true) ?_
      refine wpAny_bind (wpAny_eqIsQuiet_tuple hk ?_)
      simp only [Bool.not_true, Bool.false_eq_true, if_false]
      refine wpAny_bind (wpAny_eqIsQuiet_tuple hc ?_)
      simp only [Bool.not_true, Bool.false_eq_true, if_false]
      refine wpAny_bind (cls_no T hk ?_)
      simp only [Bool.false_eq_true, if_false]
      refine wpAny_bind (cls_no T hc ?_)
      simp only [Bool.false_eq_true, if_false]
      exact wpAny_pure ⟨⟨rfl, rfl⟩, more⟩
  · subst e2
    obtain ⟨st1, st2⟩ := st
    have e1 : st1 = none := e1
    subst e1
    exact wpAny_pure hR
abbrev stp (m : Nat) (h : Int) (c : Nat) : SetTable.Probe := nth m (runAt m (SetTable.bits h % (m + 1)) (SetTable.bits h)) c
theorem stp_add (m : Nat) (h : Int) (c q : Nat) : nth m (stp m h c) q = stp m h (c + q) := (nth_add m c _ q).symm
theorem nth_nd (m : Nat) : ∀ (n : Nat) (p : SetTable.Probe), p.dummy = none → (nth m p n).dummy = none
  | 0, _, h => h
  | n + 1, p, h => nth_nd m n (adv m p) (by unfold adv; split <;> exact h)
theorem stp_nd {m : Nat} {h : Int} {c : Nat} : (stp m h c).dummy = none := nth_nd m c _ rfl
structure Of (P : Program) (w : World) (knd : KeyKind P w K) (h : Heap) (a : Addr) (L : List (Addr × List K)) (es : Array (Int × Value)) (ep : Nat) (t : SetTable) : Prop where
  obj : ∃ o, h.get? a = some o ∧ o.ExactSet ∧ o.data = .set es ep t
  ent : es.toList = L.map fun p => (tupleKeyHash knd p.2, Value.ref p.1)
  lay : TabOk t (L.map fun p => tupleKeyHash knd p.2)
  dif : (L.map Prod.snd).Nodup
  key : ∀ p ∈ L, IsTupleKey knd h p.2 p.1
  spare : L.length * 5 < t.mask * 3
  led : w.params.followText "set-order" = true ∨ t.led = true
  small : L.length ≤ 76
section
variable {a : Addr} {L : List (Addr × List K)} {es : Array (Int × Value)} {ep : Nat} {t : SetTable}
theorem ent_size (h : es.toList = L.map fun p => (tupleKeyHash knd p.2, Value.ref p.1)) : es.size = L.length := by
  rw [← Array.length_toList, h, List.length_map]
theorem ent_at (h : es.toList = L.map fun p => (tupleKeyHash knd p.2, Value.ref p.1)) {i : Nat} {p : Addr × List K} (e : L[i]? = some p) : es[i]? = some (tupleKeyHash knd p.2, Value.ref p.1) := by
  rw [← Array.getElem?_toList, h, List.getElem?_map, e]
  rfl
theorem fits_of (h : t.place.size = es.size) (hd : t.dummies = #[]) (hm : es.size ≤ t.mask) : t.fits es.size = true := by
  unfold SetTable.fits SetTable.fill
  simp only [hd, Bool.and_eq_true, beq_iff_eq, decide_eq_true_eq]
  exact ⟨h, by show t.place.size + 0 ≤ _; omega⟩
theorem Of.psz (R : Of P w knd s.heap a L es ep t) : t.place.size = es.size := by
  rw [R.lay.sz, List.length_map, ent_size R.ent]
theorem Of.fits (R : Of P w knd s.heap a L es ep t) : t.fits es.size = true := fits_of R.psz R.lay.dm (by
  have := R.spare
  rw [ent_size R.ent]
  omega)
theorem Of.spot (R : Of P w knd s.heap a L es ep t) {i j : Nat} (h : t.place.toList[i]? = some j) : ∃ p, L[i]? = some p ∧ p ∈ L := by
  have h1 : i < t.place.toList.length := (List.getElem?_eq_some_iff.mp h).1
  rw [Array.length_toList, R.psz, ent_size R.ent] at h1
  exact ⟨L[i], List.getElem?_eq_getElem h1, List.getElem_mem h1⟩
theorem Of.seek (R : Of P w knd s.heap a L es ep t) (T : Plain knd) {x : Addr} {k : List K} (hx : IsTupleKey knd s.heap k x) (hu : A.units < cLine) {F : Nat} (hF : F < 10 * SetTable.turns t.mask)
    (free : way t.mask (tupleKeyHash knd k) F ∉ t.place.toList) (busy : ∀ c, c < F → way t.mask (tupleKeyHash knd k) c ∈ t.place.toList) {R2 : SetFound → Shared → Prop}
    (yes : k ∈ L.map Prod.snd → R2 (.there none) s) (no : k ∉ L.map Prod.snd → R2 (.free (way t.mask (tupleKeyHash knd k) F) false) s) (fuel : Nat) :
    ∀ (c : Nat) (st : Option SetTable.Probe), st.getD (t.probeStart (tupleKeyHash knd k)) = stp t.mask (tupleKeyHash knd k) c → c ≤ F → F < fuel + c →
      (∀ (i : Nat) p, L[i]? = some p → p.2 = k → ∃ d, c ≤ d ∧ d < F ∧ t.place.toList[i]? = some (way t.mask (tupleKeyHash knd k) d)) →
      wpAny (model P w) A (setSearchFrom a (.ref x) (tupleKeyHash knd k) true fuel st) R2 E s := by
  induction fuel with
  | zero => exact fun c st _ h1 h2 _ => absurd h2 (by omega)
  | succ fuel ih =>
    intro c st hst hc hf hre
    obtain ⟨o, ho, -, hd⟩ := R.obj
    have gw : ¬ t.gaveWay = true := by
      unfold SetTable.gaveWay
      rw [mask_odd R.lay.mok]
      decide
    have hashes : ∀ (i : Nat) p, L[i]? = some p → ((es[i]?.map (·.1)).getD 0 : Int) = tupleKeyHash knd p.2 := fun i p hp => by rw [ent_at R.ent hp]; rfl
    have spec := go_spec t R.lay.ris R.lay.dm (fun i => (es[i]?.map (·.1)).getD 0) (tupleKeyHash knd k) (10 * SetTable.turns t.mask) (F - c) (stp t.mask (tupleKeyHash knd k) c) stp_nd (by omega)
      (fun q hq => by rw [stp_add]; exact busy (c + q) (by omega)) (by rw [stp_add, show c + (F - c) = F by omega]; exact free)
    -- what is passed over isn't the tuple
    have past : ∀ (z : Nat), (∀ (k' i' : Nat), k' < z → t.place.toList[i']? = some (nth t.mask (stp t.mask (tupleKeyHash knd k) c) k').j → (fun (i : Nat) => ((es[i]?.map (·.1)).getD 0 : Int)) i' ≠ tupleKeyHash knd k) → ∀ (i : Nat) (p : Addr × List K) (d : Nat), L[i]? = some p → p.2 = k → c ≤ d → d < c + z → t.place.toList[i]? ≠ some (way t.mask (tupleKeyHash knd k) d) := fun z hz i p d hp hpk h1 h2 e => by
      refine hz (d - c) i (by omega) ?_ ?_
      · rw [stp_add, show c + (d - c) = d by omega]
        exact e
      · exact (hashes i p hp).trans (by rw [hpk])
    rw [setSearchFrom_succ]
    refine wpAny_bind (wpAny_setState_of ho hd R.fits ?_)
    dsimp only
    refine wp_if_neg gw ?_
    try refine wpAny_bind (wpAny_pure ?_)
    rw [hst]
    rcases spec with ⟨q, i, hq, hi, -, hno, hpr⟩ | ⟨hno, hpr⟩
    · rw [stp_add] at hi
      have hpr : t.probe (fun i => (es[i]?.map (·.1)).getD 0) (tupleKeyHash knd k) (stp t.mask (tupleKeyHash knd k) c) = some (.candidate (way t.mask (tupleKeyHash knd k) (c + q)) i (stp t.mask (tupleKeyHash knd k) (c + (q + 1)))) := by
        rw [stp_add, stp_add] at hpr
        exact hpr
      rw [hpr]
      dsimp only
      obtain ⟨p, hp, hpm⟩ := R.spot hi
      have go : wpAny (model P w) A (searchRest a (.ref x) (tupleKeyHash knd k) true fuel es t (way t.mask (tupleKeyHash knd k) (c + q)) i (stp t.mask (tupleKeyHash knd k) (c + (q + 1)))) R2 E s := by
        unfold searchRest
        rw [ent_at R.ent hp]
        dsimp only
        refine wpAny_bind (wpAny_holding (wpAny_eqBool_tuple hu (R.key p hpm) hx ?_))
        refine wpAny_bind (wpAny_setState_of ho hd R.fits ?_)
        dsimp only
        by_cases same : p.2 = k
        · exact wp_if_pos (by simp [same]) (wpAny_pure (yes (List.mem_map.mpr ⟨p, hpm, same⟩)))
        · refine wp_if_neg (by simp [same]) ?_
          try refine wpAny_bind (wpAny_pure ?_)
          rw [sameMem]
          dsimp only
          have live : t.slot (way t.mask (tupleKeyHash knd k) (c + q)) = .live i := slot_live R.lay.ris hi
          simp only [if_true, live, ent_at R.ent hp]
          refine wpAny_bind (wpAny_isSame_ref_self (wpAny_bind (wpAny_pure ?_)))
          simp only [if_true]
          refine wp_if_neg (by simp [same]) ?_
          refine ih (c + (q + 1)) _ rfl (by omega) (by omega) fun i0 p0 h0 hk0 => ?_
          obtain ⟨d, d1, d2, d3⟩ := hre i0 p0 h0 hk0
          have n1 : ¬ d < c + q := fun z => past q hno i0 p0 d h0 hk0 d1 z d3
          have n2 : d ≠ c + q := fun z => by
            have l0 := slot_live R.lay.ris d3
            rw [z, live] at l0
            injection l0 with l0
            rw [← l0, hp] at h0
            exact same (Option.some.inj h0 ▸ hk0)
          exact ⟨d, by omega, d2, d3⟩
      by_cases hl : t.led = true
      · refine wp_if_neg (by simp [hl]) ?_
        try refine wpAny_bind (wpAny_pure ?_)
        exact go
      · refine wp_if_pos (by simp [hl]) ?_
        refine wpAny_bind (unseen T hx (fun y hy => ?_) ?_)
        · obtain ⟨e, he, rfl⟩ := List.mem_map.mp hy
          have he : e ∈ es.toList := by
            have : e ∈ es ∧ e.1 = tupleKeyHash knd k := by simpa using he
            simpa using this.1
          rw [R.ent] at he
          obtain ⟨p2, hp2, rfl⟩ := List.mem_map.mp he
          exact ⟨p2.1, p2.2, rfl, R.key p2 hp2⟩
        · refine wp_if_neg (by decide) ?_
          try refine wpAny_bind (wpAny_pure ?_)
          exact go
    · have hpr : t.probe (fun i => (es[i]?.map (·.1)).getD 0) (tupleKeyHash knd k) (stp t.mask (tupleKeyHash knd k) c) = some (.empty (way t.mask (tupleKeyHash knd k) F) none) := by
        rw [stp_add, show c + (F - c) = F by omega] at hpr
        exact hpr
      rw [hpr]
      dsimp only
      refine wpAny_pure (no fun hm => ?_)
      obtain ⟨p0, h0, hk0⟩ := List.mem_map.mp hm
      obtain ⟨i0, hi0, e0⟩ := List.getElem_of_mem h0
      have h00 : L[i0]? = some p0 := by rw [List.getElem?_eq_getElem hi0, e0]
      obtain ⟨d, d1, d2, d3⟩ := hre i0 p0 h00 hk0
      exact past (F - c) hno i0 p0 d h00 hk0 d1 (by omega) d3
theorem Of.search (R : Of P w knd s.heap a L es ep t) (T : Plain knd) {x : Addr} {k : List K} (hx : IsTupleKey knd s.heap k x) (hu : A.units < cLine) {R2 : SetFound → Shared → Prop}
    (yes : k ∈ L.map Prod.snd → R2 (.there none) s)
    (no : ∀ F, k ∉ L.map Prod.snd → way t.mask (tupleKeyHash knd k) F ∉ t.place.toList → (∀ c, c < F → way t.mask (tupleKeyHash knd k) c ∈ t.place.toList) → R2 (.free (way t.mask (tupleKeyHash knd k) F) false) s) :
    wpAny (model P w) A (setSearch a (.ref x) (tupleKeyHash knd k) true) R2 E s := by
  have hsp := R.spare
  obtain ⟨F, f1, f2, f3⟩ := R.lay.first (by rw [List.length_map]; omega) (tupleKeyHash knd k)
  have hbig : 10 * SetTable.turns t.mask ≤ 1420 := by
    unfold SetTable.turns
    rcases R.lay.mok with e | e | e <;> omega
  unfold setSearch
  refine R.seek T hx hu f1 f2 f3 yes (fun hn => no F hn f2 f3) 100000 0 none rfl (Nat.zero_le _) (by omega) fun i p hp hpk => ?_
  have hh : (L.map fun p => tupleKeyHash knd p.2)[i]? = some (tupleKeyHash knd k) := by rw [List.getElem?_map, hp, ← hpk]; rfl
  have hil : i < t.place.toList.length := by
    rw [Array.length_toList, R.psz, ent_size R.ent]
    exact (List.getElem?_eq_some_iff.mp hp).1
  obtain ⟨d, d1, d2⟩ := R.lay.before f2 hh (List.getElem?_eq_getElem hil)
  exact ⟨d, Nat.zero_le _, d1, by rw [d2]; exact List.getElem?_eq_getElem hil⟩
theorem range_back (L : List (Addr × List K)) : ∀ n, n ≤ L.length → (List.range n).filterMap (fun i => L[i]?) = L.take n
  | 0, _ => rfl
  | n + 1, h => by
    have e : L[n]? = some (L[n]'h) := List.getElem?_eq_getElem h
    rw [List.range_succ, List.filterMap_append, range_back L n (Nat.le_of_succ_le h), List.take_add_one, e]
    congr 1
    simp [e]
theorem moved (h : es.toList = L.map fun p => (tupleKeyHash knd p.2, Value.ref p.1)) {order : Array Nat} (hp : order.toList.Perm (List.range L.length)) : ∃ L2 : List (Addr × List K), (order.filterMap (es[·]?)).toList = (L2.map fun p => (tupleKeyHash knd p.2, Value.ref p.1)) ∧ L2.Perm L ∧
    (order.toList.map fun i => (es.map (·.1)).getD i 0) = L2.map fun p => tupleKeyHash knd p.2 := by
  have at' : ∀ i : Nat, es[i]? = (L[i]?).map fun (p : Addr × List K) => (tupleKeyHash knd p.2, Value.ref p.1) := fun i => by rw [← Array.getElem?_toList, h, List.getElem?_map]
  refine ⟨order.toList.filterMap fun i => L[i]?, ?_, ?_, ?_⟩
  · rw [Array.toList_filterMap, List.map_filterMap]
    congr 1
    funext i
    exact at' i
  · have := hp.filterMap fun i => L[i]?
    rw [range_back L L.length (Nat.le_refl _), List.take_length] at this
    exact this
  · have below : ∀ i ∈ order.toList, i < L.length := fun i hi => List.mem_range.mp (hp.mem_iff.mp hi)
    clear hp
    generalize order.toList = l at below
    induction l with
    | nil => rfl
    | cons i l ih =>
      have hi := below i (List.mem_cons_self ..)
      have e := List.getElem?_eq_getElem hi
      rw [List.map_cons, List.filterMap_cons, e, ih fun j hj => below j (List.mem_cons_of_mem _ hj)]
      dsimp only
      rw [List.map_cons]
      congr 1
      rw [Array.getD_eq_getD_getElem?, Array.getElem?_map, at', e]
      rfl
theorem key_on {h h' : Heap} {ks : List K} {a b : Addr} {o : Obj} (hb : IsTupleKey knd h ks b) (ho : h.get? a = some o) (hd : o.data = .set es ep t) (hs : Heap.SameBut a h h') : IsTupleKey knd h' ks b := by
  obtain ⟨o2, its, m, h1, h2, h3, h4⟩ := hb
  refine ⟨o2, its, m, (hs.2 b fun e => ?_).trans h1, h2, h3, h4⟩
  rw [e, ho] at h1
  cases Option.some.inj h1
  rw [hd] at h3
  cases h3
structure Near (P : Program) (w : World) (knd : KeyKind P w K) (h : Heap) (a : Addr) (L : List (Addr × List K)) (es : Array (Int × Value)) (ep : Nat) (t : SetTable) : Prop where
  obj : ∃ o, h.get? a = some o ∧ o.ExactSet ∧ o.data = .set es ep t
  ent : es.toList = L.map fun p => (tupleKeyHash knd p.2, Value.ref p.1)
  lay : TabOk t (L.map fun p => tupleKeyHash knd p.2)
  dif : (L.map Prod.snd).Nodup
  key : ∀ p ∈ L, IsTupleKey knd h p.2 p.1
  led : w.params.followText "set-order" = true ∨ t.led = true
  small : L.length ≤ 76
  in_ : L.length ≤ t.mask
theorem Near.relay (R : Near P w knd s.heap a L es ep t) {wanted M : Nat} (hw : SetTable.sizeAbove wanted - 1 = M) (hM : MaskOk M) (hn : L.length * 5 < M * 3) {R2 : Unit → Shared → Prop}
    (hR : ∀ h' L' es' ep' t', Heap.SameBut a s.heap h' → Of P w knd h' a L' es' ep' t' → L'.Perm L → R2 () { s with heap := h' }) : wpAny (model P w) A (setRelay a wanted) R2 E s := by
  obtain ⟨o, ho, hex, hd⟩ := R.obj
  have n1 := ent_size R.ent
  have n2 := R.small
  have n3 : t.place.size = es.size := by rw [R.lay.sz, List.length_map, n1]
  have hM2 : M ≤ 127 := by rcases hM with e | e | e <;> omega
  obtain ⟨t', order, e1, e2, T, e3, e4, -, -⟩ := relaid_ok t (hs := es.map (·.1)) (wanted := wanted) hw hM (by rw [Array.size_map, n1]; omega)
  rw [Array.size_map, n1] at e2
  obtain ⟨L2, m1, m2, m3⟩ := moved R.ent e2
  rw [m3] at T
  have n4 : (order.filterMap (es[·]?)).size = es.size := by rw [ent_size m1, m2.length_eq, n1]
  rw [setRelay_eq]
  refine wpAny_bind (wpAny_setState_of ho hd (fits_of n3 R.lay.dm (by rw [n1]; exact R.in_)) ?_)
  dsimp only
  refine wp_if_neg (by rw [sizeLine_eq]; omega) ?_
  try refine wpAny_bind (wpAny_pure ?_)
  rw [e1]
  refine wpAny_bind ?_
  refine wp_if_neg (by rw [n4]; simp) ?_
  try refine wpAny_bind (wpAny_pure ?_)
  refine wpAny_pure ?_
  refine wpAny_storeSet_of ho hd ?_ (by rw [n4, n1, sizeLine_eq]; omega)
  have sb : Heap.SameBut a s.heap (s.heap.update a (Obj.putSet (order.filterMap (es[·]?)) t')) := Heap.SameBut.update ..
  exact hR _ L2 _ (ep + 1) t' sb ⟨⟨_, store_at ho hd, ⟨hex.1, hex.2.1, hex.2.2⟩, rfl⟩, m1, T, (m2.map Prod.snd).nodup_iff.mpr R.dif, fun p hp => key_on (R.key p (m2.mem_iff.mp hp)) ho hd sb, by rw [m2.length_eq, e3]; exact hn, by rw [e4]; exact R.led, by rw [m2.length_eq]; exact n2⟩ m2
theorem Of.add (R : Of P w knd s.heap a L es ep t) (T : Plain knd) {x : Addr} {k : List K} (hx : IsTupleKey knd s.heap k x) (hu : A.units < cLine) (hs : L.length < 76) {R2 : Bool → Shared → Prop}
    (hR : ∀ b h' L' es' ep' t', Heap.SameBut a s.heap h' → Of P w knd h' a L' es' ep' t' → (k ∈ L.map Prod.snd ∧ L' = L ∨ k ∉ L.map Prod.snd ∧ L'.Perm ((x, k) :: L)) → R2 b { s with heap := h' }) :
    wpAny (model P w) A (setAddHashed a (.ref x) (tupleKeyHash knd k)) R2 E s := by
  obtain ⟨o, ho, hex, hd⟩ := R.obj
  have hsp := R.spare
  have n1 := ent_size R.ent
  unfold setAddHashed
  refine wpAny_holding ?_
  rw [show (100000 : Nat) = 99999 + 1 from rfl, setAddHashedIn_succ]
  refine wpAny_bind (wpAny_setState_of ho hd R.fits ?_)
  dsimp only
  refine wp_if_neg (by simp [byScan, Value.scannable]) ?_
  try refine wpAny_bind (wpAny_pure ?_)
  refine wpAny_bind (R.search T hx hu (fun hm => ?_) fun F hm free busy => ?_)
  · exact wpAny_pure (hR false s.heap L es ep t (Heap.SameBut.refl a s.heap) R (.inl ⟨hm, rfl⟩))
  dsimp only
  refine wpAny_bind (wpAny_setState_of ho hd R.fits ?_)
  dsimp only
  obtain ⟨q1, q2, q3, q4, q5, -, -, -, q9⟩ := R.lay.put free busy
  generalize hpt : t.put (way t.mask (tupleKeyHash knd k) F) = pt at q1 q3 q4 q5 q9 ⊢
  obtain ⟨t1, at1⟩ := pt
  dsimp only at q1 q3 q4 q5 q9 ⊢
  subst q1
  generalize SetTable.below t.place (way t.mask (tupleKeyHash knd k) F) = p at q2 q3 ⊢
  have pm : (L.take p ++ (x, k) :: L.drop p).Perm ((x, k) :: L) := put_perm L p (x, k)
  have hin : (SetTable.insertAt es p (tupleKeyHash knd k, Value.ref x)).toList = (L.take p ++ (x, k) :: L.drop p).map fun p => (tupleKeyHash knd p.2, Value.ref p.1) := by
    rw [SetTable.toList_insertAt, R.ent, List.map_append, List.map_cons, List.map_take, List.map_drop]
  have lay1 : TabOk t1 ((L.take p ++ (x, k) :: L.drop p).map fun p => tupleKeyHash knd p.2) := by
    rw [List.map_append, List.map_cons, List.map_take, List.map_drop]
    exact q3
  have hlen : (L.take p ++ (x, k) :: L.drop p).length = L.length + 1 := pm.length_eq
  have dif1 : ((L.take p ++ (x, k) :: L.drop p).map Prod.snd).Nodup := (pm.map Prod.snd).nodup_iff.mpr (List.nodup_cons.mpr ⟨hm, R.dif⟩)
  generalize L.take p ++ (x, k) :: L.drop p = L1 at pm hin lay1 hlen dif1
  have hes := ent_size hin
  generalize SetTable.insertAt es p (tupleKeyHash knd k, Value.ref x) = es1 at hin hes ⊢
  rw [List.length_map] at q9
  -- whatever is known of the hash
  have rest : ∀ t2 : SetTable, t2.place = t1.place → t2.dummies = t1.dummies → t2.mask = t1.mask → t2.led = t1.led → t2.fill = t1.fill → t2.tooFull = t1.tooFull →
      wpAny (model P w) A (do
        storeSet a es1 t2
        if !false && t2.tooFull then setRelay a (SetTable.grown (es.size + 1))
        return true) R2 E s := fun t2 p1 p2 p3 p4 p5 p6 => by
    have lay2 : TabOk t2 (L1.map fun p => tupleKeyHash knd p.2) := by
      obtain ⟨r1, r2, r3, r4, r5, r6⟩ := lay1
      exact ⟨by rw [p1]; exact r1, by rw [p2]; exact r2, by rw [p1]; exact r3, by rw [p3]; exact r4, by rw [p1, p3]; exact r5, by rw [p1, p3]; exact r6⟩
    refine wpAny_bind (wpAny_storeSet_of ho hd ?_ (by rw [hes, hlen, sizeLine_eq]; omega))
    have sb : Heap.SameBut a s.heap (s.heap.update a (Obj.putSet es1 t2)) := Heap.SameBut.update ..
    have ho1 := store_at (es' := es1) (t' := t2) ho hd
    generalize s.heap.update a (Obj.putSet es1 t2) = h1 at sb ho1 ⊢
    have key1 : ∀ p ∈ L1, IsTupleKey knd h1 p.2 p.1 := fun p hp => (List.mem_cons.mp (pm.mem_iff.mp hp)).elim (fun e => by rw [e]; exact key_on hx ho hd sb) fun hp => key_on (R.key p hp) ho hd sb
    have led1 : w.params.followText "set-order" = true ∨ t2.led = true := by rw [p4, q5]; exact R.led
    have full : t2.tooFull = decide ((L.length + 1) * 5 ≥ t2.mask * 3) := by unfold SetTable.tooFull; rw [p5, q9]
    have mk := R.lay.mok
    by_cases hf : (L.length + 1) * 5 ≥ t2.mask * 3
    · have yes : (!false && t2.tooFull) = true := by rw [full, decide_eq_true hf]; rfl
      first
        | (refine wp_if_pos yes ?_; refine wpAny_bind ?_)
        | (refine wpAny_bind ?_; refine wp_if_pos yes ?_)
      rw [n1]
      have two : (t.mask = 7 ∧ L.length = 4) ∨ (t.mask = 31 ∧ L.length = 18) := by
        rw [p3, q4] at hf
        rcases mk with e | e | e <;> rw [e] at hf hsp <;> omega
      have N : Near P w knd h1 a L1 es1 (ep + 1) t2 := ⟨⟨_, ho1, ⟨hex.1, hex.2.1, hex.2.2⟩, rfl⟩, hin, lay2, dif1, key1, led1, by omega, by rw [hlen, p3, q4]; omega⟩
      have go : ∀ M, SetTable.sizeAbove (SetTable.grown (L.length + 1)) - 1 = M → MaskOk M → (L.length + 1) * 5 < M * 3 →
          wpAny (model P w) A (setRelay a (SetTable.grown (L.length + 1))) (fun _ s' => wpAny (model P w) A (pure true) R2 E s') E { s with heap := h1 } := fun M g1 g2 g3 =>
        Near.relay (s := { s with heap := h1 }) N g1 g2 (by rw [hlen]; exact g3) fun h2 L2 es2 ep2 t3 sb2 R3 pm2 => wpAny_pure (hR true h2 L2 es2 ep2 t3 (sb.trans sb2) R3 (.inr ⟨hm, pm2.trans pm⟩))
      rcases two with ⟨_, e⟩ | ⟨_, e⟩
      · exact go 31 (by rw [e, size_20]) (.inr (.inl rfl)) (by omega)
      · exact go 127 (by rw [e, size_76]) (.inr (.inr rfl)) (by omega)
    · have noo : ¬ (!false && t2.tooFull) = true := by rw [full, decide_eq_false hf]; decide
      first
        | refine wp_if_neg noo ?_
        | (refine wpAny_bind ?_; refine wp_if_neg noo ?_; refine wpAny_pure ?_)
      exact wpAny_pure (hR true h1 L1 es1 (ep + 1) t2 sb ⟨⟨_, ho1, ⟨hex.1, hex.2.1, hex.2.2⟩, rfl⟩, hin, lay2, dif1, key1, by rw [hlen]; omega, led1, by omega⟩ (.inr ⟨hm, pm⟩))
  rcases Bool.eq_false_or_eq_true t1.plain with hp1 | hp1
  · first
      | (refine wp_if_pos hp1 (wpAny_bind (by_value T hx fun f => ?_)))
      | (refine wpAny_bind ?_; refine wp_if_pos hp1 ?_; refine by_value T hx fun f => ?_)
    cases f with
    | true => exact rest t1 rfl rfl rfl rfl rfl rfl
    | false => exact rest { t1 with plain := false } rfl rfl rfl rfl rfl rfl
  · first
      | (refine wp_if_neg (by rw [hp1]; exact Bool.false_ne_true) ?_)
      | (refine wpAny_bind ?_; refine wp_if_neg (by rw [hp1]; exact Bool.false_ne_true) ?_; refine wpAny_pure ?_)
    refine wpAny_bind (wpAny_pure ?_)
    exact rest t1 rfl rfl rfl rfl rfl rfl
end
def bare (w : World) : Obj := { cls := .type "set", dict := none, data := .set #[] 0 (.fresh 0 0 (!w.params.followText "set-order")) }
theorem Of.bare {h : Heap} {a : Addr} (ho : h.get? a = some (bare w)) : Of P w knd h a [] #[] 0 (.fresh 0 0 (!w.params.followText "set-order")) :=
  ⟨⟨_, ho, ⟨rfl, rfl, rfl⟩, rfl⟩, rfl, ⟨List.Pairwise.nil, rfl, rfl, .inl rfl, fun x hx => absurd hx (List.not_mem_nil), fun i h j hi => by simp at hi⟩, List.nodup_nil, fun p hp => absurd hp (List.not_mem_nil), by show 0 * 5 < 7 * 3; decide,
    by show _ ∨ (!w.params.followText "set-order") = true; cases w.params.followText "set-order" <;> simp, by show 0 ≤ 76; decide⟩
structure Upto (ks : List (Addr × List K)) (i : Nat) (L : List (Addr × List K)) : Prop where
  sub : ∀ p ∈ L, p ∈ ks.take i
  all : ∀ p ∈ ks.take i, p.2 ∈ L.map Prod.snd
  len : L.length ≤ i
theorem Upto.next {ks L L' : List (Addr × List K)} {i : Nat} {p : Addr × List K} (U : Upto ks i L) (h : ks[i]? = some p) (c : p.2 ∈ L.map Prod.snd ∧ L' = L ∨ p.2 ∉ L.map Prod.snd ∧ L'.Perm (p :: L)) : Upto ks (i + 1) L' := by
  have e : ks.take (i + 1) = ks.take i ++ [p] := by rw [List.take_add_one, h]; rfl
  rcases c with ⟨hm, rfl⟩ | ⟨-, pm⟩
  · refine ⟨fun q hq => by rw [e]; exact List.mem_append_left _ (U.sub q hq), fun q hq => ?_, Nat.le_succ_of_le U.len⟩
    rw [e] at hq
    exact (List.mem_append.mp hq).elim (U.all q) fun z => by rw [List.mem_singleton.mp z]; exact hm
  · refine ⟨fun q hq => ?_, fun q hq => ?_, by rw [pm.length_eq]; exact Nat.succ_le_succ U.len⟩
    · rw [e]
      exact (List.mem_cons.mp (pm.mem_iff.mp hq)).elim (fun z => List.mem_append_right _ (by rw [z]; exact List.mem_singleton_self _)) fun z => List.mem_append_left _ (U.sub q z)
    · rw [e] at hq
      rw [(pm.map Prod.snd).mem_iff]
      exact (List.mem_append.mp hq).elim (fun z => List.mem_cons_of_mem _ (U.all q z)) fun z => by rw [List.mem_singleton.mp z]; exact List.mem_cons_self ..
theorem key_kept {h h' : Heap} {ks : List K} {b : Addr} (hb : IsTupleKey knd h ks b) (hk : ∀ c o, h.get? c = some o → h'.get? c = some o) : IsTupleKey knd h' ks b := by
  obtain ⟨o, its, m, h1, r⟩ := hb
  exact ⟨o, its, m, hk b o h1, r⟩
theorem Of.kept {h h' : Heap} {a : Addr} {L : List (Addr × List K)} {es : Array (Int × Value)} {ep : Nat} {t : SetTable} (R : Of P w knd h a L es ep t) (h1 : ∀ o, h.get? a = some o → h'.get? a = some o) (h2 : ∀ p ∈ L, IsTupleKey knd h' p.2 p.1) : Of P w knd h' a L es ep t := by
  obtain ⟨o, ho, r⟩ := R.obj
  exact { R with obj := ⟨o, h1 o ho, r⟩, key := h2 }
theorem fill (T : Plain knd) {I S : Addr} {fp wr : List Addr} {G : Array GenState → Array GenState → Prop} {Pv : Nat → Value → Prop} {St : Nat → Shared → Prop} {Rs : Result → Shared → Prop} {ks : List (Addr × List K)}
    (W : WalksS P w A.in1 I fp wr G ks.length Pv St) (hSf : S ∉ fp) (hfew : ks.length ≤ 76) (hval : ∀ i v, Pv i v → ∃ p, ks[i]? = some p ∧ v = .ref p.1)
    {h0 : Heap} (hk : ∀ p ∈ ks, IsTupleKey knd h0 p.2 p.1) (hS0 : h0.get? S = none) (hw0 : ∀ b ∈ wr, h0.get? b = none) (hu : A.in1.units < cLine) (m : Nat) :
    ∀ (i : Nat) (s : Shared) (L : List (Addr × List K)) (es : Array (Int × Value)) (ep : Nat) (t : SetTable), i + m = ks.length → St i s → (∀ b o, h0.get? b = some o → s.heap.get? b = some o) → Of P w knd s.heap S L es ep t → Upto ks i L →
      (∀ s' L es ep t, Moved (S :: wr) G s s' → Of P w knd s'.heap S L es ep t → Upto ks ks.length L → (∀ b o, h0.get? b = some o → s'.heap.get? b = some o) → Rs (.ok (.ret .none)) s') →
      codeAny (model P w) A (.builtin "set.update.loop" ⟨[.ref S, .ref I], []⟩) Rs s := by
  have apart : S ∉ wr := fun z => hSf (W.sub _ z)
  have wider : ∀ b ∈ wr, b ∈ S :: wr := fun b hb => List.mem_cons_of_mem _ hb
  have still : ∀ {s s' : Shared}, Moved wr G s s' → (∀ b o, h0.get? b = some o → s.heap.get? b = some o) → ∀ b o, h0.get? b = some o → s'.heap.get? b = some o := fun mv k b o e =>
    mv.heap b o (fun z => by rw [hw0 b z] at e; cases e) (k b o e)
  induction m with
  | zero =>
    intro i s L es ep t hi hst hkp R U hR
    have hi : i = ks.length := by omega
    subst hi
    refine codeAny_builtin F.entry_set_update_loop ?_
    rw [Around.under_plainId F.plain_set_update_loop _]
    refine wpAny_bind (m := pyNext (.ref I)) (W.done s _ _ hst fun s' mv => ?_)
    have hkp' := still mv hkp
    exact wpAny_pure (hR s' L es ep t (mv.mono wider) (R.kept (fun o e => mv.heap S o apart e) fun p hp => key_kept (hk p (List.mem_of_mem_take (U.sub p hp))) hkp') U hkp')
  | succ m ih =>
    intro i s L es ep t hi hst hkp R U hR
    refine codeAny_builtin F.entry_set_update_loop ?_
    rw [Around.under_plainId F.plain_set_update_loop _]
    refine wpAny_bind (m := pyNext (.ref I)) (W.item i s _ _ (by omega) hst fun v s' hv hst' mv => ?_)
    obtain ⟨p, hp, rfl⟩ := hval i v hv
    have hkp' := still mv hkp
    have hx : IsTupleKey knd s'.heap p.2 p.1 := key_kept (hk p (List.mem_of_getElem? hp)) hkp'
    have R' : Of P w knd s'.heap S L es ep t := R.kept (fun o e => mv.heap S o apart e) fun q hq => key_kept (hk q (List.mem_of_mem_take (U.sub q hq))) hkp'
    refine wpAny_bind (m := holding [Value.ref p.1] (setAdd S (.ref p.1))) (wpAny_holding ?_)
    unfold setAdd
    refine wpAny_holding (wpAny_bind (wpAny_pyHash_tuple hu hx ?_))
    refine Of.add (s := { s' with toks := s'.toks + (p.2.length + 1) }) R' T hx hu (by have := U.len; omega) fun b h' L' es' ep' t' sb R2 c => ?_
    have kp2 : ∀ b o, h0.get? b = some o → h'.get? b = some o := fun b o e => (sb.2 b fun z => by rw [z, hS0] at e; cases e).trans (hkp' b o e)
    refine wpAny_pure ⟨plainId_quiet F.plain_set_update_loop _, ih (i + 1) _ L' es' ep' t' (by omega) (W.frame _ s' _ _ hst' (Nat.le_add_right _ _) fun b hb o e => ?_) kp2 R2 (U.next hp c) fun s2 L2 es2 ep2 t2 mv2 R3 U3 kp3 => ?_⟩
    · rw [sb.2 b fun z => hSf (z ▸ hb)]
      exact e
    · refine hR s2 L2 es2 ep2 t2 (Moved.trans W.gtrans ((mv.mono wider).then_heap (Nat.le_add_right _ _) fun b o hb e => ?_) mv2) R3 U3 kp3
      rw [sb.2 b fun z => hb (by rw [z]; exact List.mem_cons_self ..)]
      exact e
theorem Upto.count {ks L : List (Addr × List K)} (U : Upto ks ks.length L) (hd : (L.map Prod.snd).Nodup) : L.length ≤ ks.length ∧ (L.length = ks.length ↔ (ks.map Prod.snd).Nodup) := by
  have sub : ∀ x ∈ L.map Prod.snd, x ∈ ks.map Prod.snd := fun x hx => by
    obtain ⟨p, hp, rfl⟩ := List.mem_map.mp hx
    exact List.mem_map.mpr ⟨p, List.mem_of_mem_take (U.sub p hp), rfl⟩
  have all : ∀ x ∈ ks.map Prod.snd, x ∈ L.map Prod.snd := fun x hx => by
    obtain ⟨p, hp, rfl⟩ := List.mem_map.mp hx
    exact U.all p (by rw [List.take_length]; exact hp)
  have grow : ∀ (xs ys : List (List K)), xs.Nodup → (∀ x ∈ xs, x ∈ ys) → xs.length ≤ ys.length := by
    intro xs
    induction xs with
    | nil => exact fun _ _ _ => Nat.zero_le _
    | cons x xs ih =>
      intro ys hn hs
      obtain ⟨n1, n2⟩ := List.nodup_cons.mp hn
      have h1 := hs x (List.mem_cons_self ..)
      have h2 := ih (ys.erase x) n2 fun y hy => (List.mem_erase_of_ne fun e => n1 (by rw [← e]; exact hy)).mpr (hs y (List.mem_cons_of_mem _ hy))
      rw [List.length_erase_of_mem h1] at h2
      have := List.length_pos_of_mem h1
      rw [List.length_cons]
      omega
  refine ⟨U.len, fun e => ?_, fun hn => ?_⟩
  · -- a second time would make it shorter
    have short : ∀ ys : List (List K), ¬ ys.Nodup → ∃ zs : List (List K), zs.length < ys.length ∧ ∀ x ∈ ys, x ∈ zs := by
      intro ys
      induction ys with
      | nil => exact fun h => absurd List.nodup_nil h
      | cons y ys ih =>
        intro h
        by_cases c : y ∈ ys
        · exact ⟨ys, Nat.lt_succ_self _, fun x hx => (List.mem_cons.mp hx).elim (fun e => e ▸ c) id⟩
        · obtain ⟨zs, z1, z2⟩ := ih fun hn => h (List.nodup_cons.mpr ⟨c, hn⟩)
          exact ⟨y :: zs, Nat.succ_lt_succ z1, fun x hx => (List.mem_cons.mp hx).elim (fun e => e ▸ List.mem_cons_self ..) fun z => List.mem_cons_of_mem _ (z2 x z)⟩
    rcases Classical.em (ks.map Prod.snd).Nodup with c | c
    · exact c
    · obtain ⟨zs, z1, z2⟩ := short _ c
      have := grow (L.map Prod.snd) zs hd fun x hx => z2 x (sub x hx)
      rw [List.length_map] at this z1
      omega
  · have := grow (ks.map Prod.snd) (L.map Prod.snd) hn all
    rw [List.length_map, List.length_map] at this
    exact Nat.le_antisymm U.len this
end ST
namespace DL
open PySem PySem.Spec L2
variable {X : Cx} {W : WC}
end DL
namespace DL
open PySem PySem.Spec L2
variable {X : Cx} {W : WC}
end DL
namespace SK
open PySem PySem.Spec PyProof.Rows L2
open ST (stp stp_add nth_nd stp_nd fits_of range_back)
variable {P : Program} {w : World} {K : Type} [DecidableEq K] {knd : HeapKind P w K} {A : Around} {E : Value → Shared → Prop} {s : Shared}
structure Plain (knd : HeapKind P w K) : Prop where
  cls : ∀ {A : Around} {E : Value → Shared → Prop} {s : Shared} {k : K} {b : Addr} {R : Bool → Shared → Prop}, knd.is s.heap k b → R false s → wpAny (model P w) A (ofAClassStatement 8 (.ref b)) R E s
  val : ∀ {A : Around} {E : Value → Shared → Prop} {s : Shared} {k : K} {b : Addr} {R : Bool → Shared → Prop}, knd.is s.heap k b → (∀ f, R f s) → wpAny (model P w) A (hashByValue 8 (.ref b)) R E s
  stays : ∀ {h h' : Heap} {k : K} {a : Addr}, (∀ b o vs n, h.get? b = some o → o.data = .seq vs n → h'.get? b = some o) → knd.is h k a → knd.is h' k a
  room : ∀ {A : Around}, A.units + 8 < cLine → knd.room A
theorem by_value (T : Plain knd) {ks : K} {b : Addr} {R : Bool → Shared → Prop} (hk : knd.is s.heap ks b) (hR : ∀ f, R f s) : wpAny (model P w) A (hashByValue 8 (.ref b)) R E s := T.val hk hR
theorem cls_no (T : Plain knd) {ks : K} {b : Addr} {R : Bool → Shared → Prop} (hk : knd.is s.heap ks b) (hR : R false s) : wpAny (model P w) A (ofAClassStatement 8 (.ref b)) R E s := T.cls hk hR
theorem unseen (T : Plain knd) {ks : K} {b : Addr} {R : Bool → Shared → Prop} (hk : knd.is s.heap ks b) {ys : List Value} (hy : ∀ y ∈ ys, ∃ c js, y = Value.ref c ∧ knd.is s.heap js c) (hR : R false s) :
    wpAny (model P w) A (searchCouldBeSeen (.ref b) ys) R E s := by
  unfold searchCouldBeSeen
  refine wpAny_bind ?_
  refine wpAny_forIn_list _ (fun left st s1 => (st.1 = none ∧ s1 = s) ∧ ∀ y ∈ left, ∃ c js, y = Value.ref c ∧ knd.is s.heap js c) _ (fun v left st s1 ⟨⟨e1, e2⟩, hv⟩ => ?_) (fun st s1 ⟨⟨e1, e2⟩, _⟩ => ?_) _ _ ⟨⟨rfl, rfl⟩, hy⟩
  · subst e2
    obtain ⟨c, js, rfl, hc⟩ := hv v (List.mem_cons_self ..)
    have more : ∀ y ∈ left, ∃ c js, y = Value.ref c ∧ knd.is s1.heap js c := fun x hx => hv x (List.mem_cons_of_mem _ hx)
    dsimp only
    rcases Bool.eq_false_or_eq_true (b == c || (carriedByValue (.ref b) && carriedByValue (.ref c))) with hq | hq
    · exact wp_if_pos hq (wpAny_pure ⟨⟨rfl, rfl⟩, more⟩)
    · refine wp_if_neg (by rw [hq]; exact Bool.false_ne_true) ?_
      refine wpAny_bind (knd.quiet hk ?_)
      simp only [Bool.not_true, Bool.false_eq_true, if_false]
      refine wpAny_bind (knd.quiet hc ?_)
      simp only [Bool.not_true, Bool.false_eq_true, if_false]
      refine wpAny_bind (cls_no T hk ?_)
      simp only [Bool.false_eq_true, if_false]
      refine wpAny_bind (cls_no T hc ?_)
      simp only [Bool.false_eq_true, if_false]
      exact wpAny_pure ⟨⟨rfl, rfl⟩, more⟩
  · subst e2
    obtain ⟨st1, st2⟩ := st
    have e1 : st1 = none := e1
    subst e1
    exact wpAny_pure hR
structure Of (P : Program) (w : World) (knd : HeapKind P w K) (h : Heap) (a : Addr) (L : List (Addr × K)) (es : Array (Int × Value)) (ep : Nat) (t : SetTable) : Prop where
  obj : ∃ o, h.get? a = some o ∧ o.ExactSet ∧ o.data = .set es ep t
  ent : es.toList = L.map fun p => (knd.hash p.2, Value.ref p.1)
  lay : TabOk t (L.map fun p => knd.hash p.2)
  dif : (L.map Prod.snd).Nodup
  key : ∀ p ∈ L, knd.is h p.2 p.1
  spare : L.length * 5 < t.mask * 3
  led : w.params.followText "set-order" = true ∨ t.led = true
  small : L.length ≤ 76
section
variable {a : Addr} {L : List (Addr × K)} {es : Array (Int × Value)} {ep : Nat} {t : SetTable}
theorem ent_size (h : es.toList = L.map fun p => (knd.hash p.2, Value.ref p.1)) : es.size = L.length := by
  rw [← Array.length_toList, h, List.length_map]
theorem ent_at (h : es.toList = L.map fun p => (knd.hash p.2, Value.ref p.1)) {i : Nat} {p : Addr × K} (e : L[i]? = some p) : es[i]? = some (knd.hash p.2, Value.ref p.1) := by
  rw [← Array.getElem?_toList, h, List.getElem?_map, e]
  rfl
theorem fits_of (h : t.place.size = es.size) (hd : t.dummies = #[]) (hm : es.size ≤ t.mask) : t.fits es.size = true := by
  unfold SetTable.fits SetTable.fill
  simp only [hd, Bool.and_eq_true, beq_iff_eq, decide_eq_true_eq]
  exact ⟨h, by show t.place.size + 0 ≤ _; omega⟩
theorem Of.psz (R : Of P w knd s.heap a L es ep t) : t.place.size = es.size := by
  rw [R.lay.sz, List.length_map, ent_size R.ent]
theorem Of.fits (R : Of P w knd s.heap a L es ep t) : t.fits es.size = true := fits_of R.psz R.lay.dm (by
  have := R.spare
  rw [ent_size R.ent]
  omega)
theorem Of.spot (R : Of P w knd s.heap a L es ep t) {i j : Nat} (h : t.place.toList[i]? = some j) : ∃ p, L[i]? = some p ∧ p ∈ L := by
  have h1 : i < t.place.toList.length := (List.getElem?_eq_some_iff.mp h).1
  rw [Array.length_toList, R.psz, ent_size R.ent] at h1
  exact ⟨L[i], List.getElem?_eq_getElem h1, List.getElem_mem h1⟩
theorem Of.seek (R : Of P w knd s.heap a L es ep t) (T : Plain knd) {x : Addr} {k : K} (hx : knd.is s.heap k x) (hu : A.units + 8 < cLine) {F : Nat} (hF : F < 10 * SetTable.turns t.mask)
    (free : way t.mask (knd.hash k) F ∉ t.place.toList) (busy : ∀ c, c < F → way t.mask (knd.hash k) c ∈ t.place.toList) {R2 : SetFound → Shared → Prop}
    (yes : k ∈ L.map Prod.snd → R2 (.there none) s) (no : k ∉ L.map Prod.snd → R2 (.free (way t.mask (knd.hash k) F) false) s) (fuel : Nat) :
    ∀ (c : Nat) (st : Option SetTable.Probe), st.getD (t.probeStart (knd.hash k)) = stp t.mask (knd.hash k) c → c ≤ F → F < fuel + c →
      (∀ (i : Nat) p, L[i]? = some p → p.2 = k → ∃ d, c ≤ d ∧ d < F ∧ t.place.toList[i]? = some (way t.mask (knd.hash k) d)) →
      wpAny (model P w) A (setSearchFrom a (.ref x) (knd.hash k) true fuel st) R2 E s := by
  induction fuel with
  | zero => exact fun c st _ h1 h2 _ => absurd h2 (by omega)
  | succ fuel ih =>
    intro c st hst hc hf hre
    obtain ⟨o, ho, -, hd⟩ := R.obj
    have gw : ¬ t.gaveWay = true := by
      unfold SetTable.gaveWay
      rw [mask_odd R.lay.mok]
      decide
    have hashes : ∀ (i : Nat) p, L[i]? = some p → ((es[i]?.map (·.1)).getD 0 : Int) = knd.hash p.2 := fun i p hp => by rw [ent_at R.ent hp]; rfl
    have spec := go_spec t R.lay.ris R.lay.dm (fun i => (es[i]?.map (·.1)).getD 0) (knd.hash k) (10 * SetTable.turns t.mask) (F - c) (stp t.mask (knd.hash k) c) stp_nd (by omega)
      (fun q hq => by rw [stp_add]; exact busy (c + q) (by omega)) (by rw [stp_add, show c + (F - c) = F by omega]; exact free)
    -- what is passed over isn't the tuple
    have past : ∀ (z : Nat), (∀ (k' i' : Nat), k' < z → t.place.toList[i']? = some (nth t.mask (stp t.mask (knd.hash k) c) k').j → (fun (i : Nat) => ((es[i]?.map (·.1)).getD 0 : Int)) i' ≠ knd.hash k) → ∀ (i : Nat) (p : Addr × K) (d : Nat), L[i]? = some p → p.2 = k → c ≤ d → d < c + z → t.place.toList[i]? ≠ some (way t.mask (knd.hash k) d) := fun z hz i p d hp hpk h1 h2 e => by
      refine hz (d - c) i (by omega) ?_ ?_
      · rw [stp_add, show c + (d - c) = d by omega]
        exact e
      · exact (hashes i p hp).trans (by rw [hpk])
    rw [setSearchFrom_succ]
    refine wpAny_bind (wpAny_setState_of ho hd R.fits ?_)
    dsimp only
    refine wp_if_neg gw ?_
    try refine wpAny_bind (wpAny_pure ?_)
    rw [hst]
    rcases spec with ⟨q, i, hq, hi, -, hno, hpr⟩ | ⟨hno, hpr⟩
    · rw [stp_add] at hi
      have hpr : t.probe (fun i => (es[i]?.map (·.1)).getD 0) (knd.hash k) (stp t.mask (knd.hash k) c) = some (.candidate (way t.mask (knd.hash k) (c + q)) i (stp t.mask (knd.hash k) (c + (q + 1)))) := by
        rw [stp_add, stp_add] at hpr
        exact hpr
      rw [hpr]
      dsimp only
      obtain ⟨p, hp, hpm⟩ := R.spot hi
      have go : wpAny (model P w) A (searchRest a (.ref x) (knd.hash k) true fuel es t (way t.mask (knd.hash k) (c + q)) i (stp t.mask (knd.hash k) (c + (q + 1)))) R2 E s := by
        unfold searchRest
        rw [ent_at R.ent hp]
        dsimp only
        refine wpAny_bind (wpAny_holding (knd.eqBool (T.room hu) (R.key p hpm) hx ?_))
        refine wpAny_bind (wpAny_setState_of ho hd R.fits ?_)
        dsimp only
        by_cases same : p.2 = k
        · exact wp_if_pos (by simp [same]) (wpAny_pure (yes (List.mem_map.mpr ⟨p, hpm, same⟩)))
        · refine wp_if_neg (by simp [same]) ?_
          try refine wpAny_bind (wpAny_pure ?_)
          rw [sameMem]
          dsimp only
          have live : t.slot (way t.mask (knd.hash k) (c + q)) = .live i := slot_live R.lay.ris hi
          simp only [if_true, live, ent_at R.ent hp]
          refine wpAny_bind (wpAny_isSame_ref_self (wpAny_bind (wpAny_pure ?_)))
          simp only [if_true]
          refine wp_if_neg (by simp [same]) ?_
          refine ih (c + (q + 1)) _ rfl (by omega) (by omega) fun i0 p0 h0 hk0 => ?_
          obtain ⟨d, d1, d2, d3⟩ := hre i0 p0 h0 hk0
          have n1 : ¬ d < c + q := fun z => past q hno i0 p0 d h0 hk0 d1 z d3
          have n2 : d ≠ c + q := fun z => by
            have l0 := slot_live R.lay.ris d3
            rw [z, live] at l0
            injection l0 with l0
            rw [← l0, hp] at h0
            exact same (Option.some.inj h0 ▸ hk0)
          exact ⟨d, by omega, d2, d3⟩
      by_cases hl : t.led = true
      · refine wp_if_neg (by simp [hl]) ?_
        try refine wpAny_bind (wpAny_pure ?_)
        exact go
      · refine wp_if_pos (by simp [hl]) ?_
        refine wpAny_bind (unseen T hx (fun y hy => ?_) ?_)
        · obtain ⟨e, he, rfl⟩ := List.mem_map.mp hy
          have he : e ∈ es.toList := by
            have : e ∈ es ∧ e.1 = knd.hash k := by simpa using he
            simpa using this.1
          rw [R.ent] at he
          obtain ⟨p2, hp2, rfl⟩ := List.mem_map.mp he
          exact ⟨p2.1, p2.2, rfl, R.key p2 hp2⟩
        · refine wp_if_neg (by decide) ?_
          try refine wpAny_bind (wpAny_pure ?_)
          exact go
    · have hpr : t.probe (fun i => (es[i]?.map (·.1)).getD 0) (knd.hash k) (stp t.mask (knd.hash k) c) = some (.empty (way t.mask (knd.hash k) F) none) := by
        rw [stp_add, show c + (F - c) = F by omega] at hpr
        exact hpr
      rw [hpr]
      dsimp only
      refine wpAny_pure (no fun hm => ?_)
      obtain ⟨p0, h0, hk0⟩ := List.mem_map.mp hm
      obtain ⟨i0, hi0, e0⟩ := List.getElem_of_mem h0
      have h00 : L[i0]? = some p0 := by rw [List.getElem?_eq_getElem hi0, e0]
      obtain ⟨d, d1, d2, d3⟩ := hre i0 p0 h00 hk0
      exact past (F - c) hno i0 p0 d h00 hk0 d1 (by omega) d3
theorem Of.search (R : Of P w knd s.heap a L es ep t) (T : Plain knd) {x : Addr} {k : K} (hx : knd.is s.heap k x) (hu : A.units + 8 < cLine) {R2 : SetFound → Shared → Prop}
    (yes : k ∈ L.map Prod.snd → R2 (.there none) s)
    (no : ∀ F, k ∉ L.map Prod.snd → way t.mask (knd.hash k) F ∉ t.place.toList → (∀ c, c < F → way t.mask (knd.hash k) c ∈ t.place.toList) → R2 (.free (way t.mask (knd.hash k) F) false) s) :
    wpAny (model P w) A (setSearch a (.ref x) (knd.hash k) true) R2 E s := by
  have hsp := R.spare
  obtain ⟨F, f1, f2, f3⟩ := R.lay.first (by rw [List.length_map]; omega) (knd.hash k)
  have hbig : 10 * SetTable.turns t.mask ≤ 1420 := by
    unfold SetTable.turns
    rcases R.lay.mok with e | e | e <;> omega
  unfold setSearch
  refine R.seek T hx hu f1 f2 f3 yes (fun hn => no F hn f2 f3) 100000 0 none rfl (Nat.zero_le _) (by omega) fun i p hp hpk => ?_
  have hh : (L.map fun p => knd.hash p.2)[i]? = some (knd.hash k) := by rw [List.getElem?_map, hp, ← hpk]; rfl
  have hil : i < t.place.toList.length := by
    rw [Array.length_toList, R.psz, ent_size R.ent]
    exact (List.getElem?_eq_some_iff.mp hp).1
  obtain ⟨d, d1, d2⟩ := R.lay.before f2 hh (List.getElem?_eq_getElem hil)
  exact ⟨d, Nat.zero_le _, d1, by rw [d2]; exact List.getElem?_eq_getElem hil⟩
theorem range_back (L : List (Addr × K)) : ∀ n, n ≤ L.length → (List.range n).filterMap (fun i => L[i]?) = L.take n
  | 0, _ => rfl
  | n + 1, h => by
    have e : L[n]? = some (L[n]'h) := List.getElem?_eq_getElem h
    rw [List.range_succ, List.filterMap_append, range_back L n (Nat.le_of_succ_le h), List.take_add_one, e]
    congr 1
    simp [e]
theorem moved (h : es.toList = L.map fun p => (knd.hash p.2, Value.ref p.1)) {order : Array Nat} (hp : order.toList.Perm (List.range L.length)) : ∃ L2 : List (Addr × K), (order.filterMap (es[·]?)).toList = (L2.map fun p => (knd.hash p.2, Value.ref p.1)) ∧ L2.Perm L ∧
    (order.toList.map fun i => (es.map (·.1)).getD i 0) = L2.map fun p => knd.hash p.2 := by
  have at' : ∀ i : Nat, es[i]? = (L[i]?).map fun (p : Addr × K) => (knd.hash p.2, Value.ref p.1) := fun i => by rw [← Array.getElem?_toList, h, List.getElem?_map]
  refine ⟨order.toList.filterMap fun i => L[i]?, ?_, ?_, ?_⟩
  · rw [Array.toList_filterMap, List.map_filterMap]
    congr 1
    funext i
    exact at' i
  · have := hp.filterMap fun i => L[i]?
    rw [range_back L L.length (Nat.le_refl _), List.take_length] at this
    exact this
  · have below : ∀ i ∈ order.toList, i < L.length := fun i hi => List.mem_range.mp (hp.mem_iff.mp hi)
    clear hp
    generalize order.toList = l at below
    induction l with
    | nil => rfl
    | cons i l ih =>
      have hi := below i (List.mem_cons_self ..)
      have e := List.getElem?_eq_getElem hi
      rw [List.map_cons, List.filterMap_cons, e, ih fun j hj => below j (List.mem_cons_of_mem _ hj)]
      dsimp only
      rw [List.map_cons]
      congr 1
      rw [Array.getD_eq_getD_getElem?, Array.getElem?_map, at', e]
      rfl
theorem key_on (T : Plain knd) {h h' : Heap} {ks : K} {a b : Addr} {o : Obj} (hb : knd.is h ks b) (ho : h.get? a = some o) (hd : o.data = .set es ep t) (hs : Heap.SameBut a h h') : knd.is h' ks b :=
  T.stays (fun c u vs n e hc => (hs.2 c fun z => by
    rw [z, ho] at e
    cases Option.some.inj e
    rw [hd] at hc
    cases hc).trans e) hb
structure Near (P : Program) (w : World) (knd : HeapKind P w K) (h : Heap) (a : Addr) (L : List (Addr × K)) (es : Array (Int × Value)) (ep : Nat) (t : SetTable) : Prop where
  obj : ∃ o, h.get? a = some o ∧ o.ExactSet ∧ o.data = .set es ep t
  ent : es.toList = L.map fun p => (knd.hash p.2, Value.ref p.1)
  lay : TabOk t (L.map fun p => knd.hash p.2)
  dif : (L.map Prod.snd).Nodup
  key : ∀ p ∈ L, knd.is h p.2 p.1
  led : w.params.followText "set-order" = true ∨ t.led = true
  small : L.length ≤ 76
  in_ : L.length ≤ t.mask
theorem Near.relay (R : Near P w knd s.heap a L es ep t) (T0 : Plain knd) {wanted M : Nat} (hw : SetTable.sizeAbove wanted - 1 = M) (hM : MaskOk M) (hn : L.length * 5 < M * 3) {R2 : Unit → Shared → Prop}
    (hR : ∀ h' L' es' ep' t', Heap.SameBut a s.heap h' → Of P w knd h' a L' es' ep' t' → L'.Perm L → R2 () { s with heap := h' }) : wpAny (model P w) A (setRelay a wanted) R2 E s := by
  obtain ⟨o, ho, hex, hd⟩ := R.obj
  have n1 := ent_size R.ent
  have n2 := R.small
  have n3 : t.place.size = es.size := by rw [R.lay.sz, List.length_map, n1]
  have hM2 : M ≤ 127 := by rcases hM with e | e | e <;> omega
  obtain ⟨t', order, e1, e2, T, e3, e4, -, -⟩ := relaid_ok t (hs := es.map (·.1)) (wanted := wanted) hw hM (by rw [Array.size_map, n1]; omega)
  rw [Array.size_map, n1] at e2
  obtain ⟨L2, m1, m2, m3⟩ := moved R.ent e2
  rw [m3] at T
  have n4 : (order.filterMap (es[·]?)).size = es.size := by rw [ent_size m1, m2.length_eq, n1]
  rw [setRelay_eq]
  refine wpAny_bind (wpAny_setState_of ho hd (fits_of n3 R.lay.dm (by rw [n1]; exact R.in_)) ?_)
  dsimp only
  refine wp_if_neg (by rw [sizeLine_eq]; omega) ?_
  try refine wpAny_bind (wpAny_pure ?_)
  rw [e1]
  refine wpAny_bind ?_
  refine wp_if_neg (by rw [n4]; simp) ?_
  try refine wpAny_bind (wpAny_pure ?_)
  refine wpAny_pure ?_
  refine wpAny_storeSet_of ho hd ?_ (by rw [n4, n1, sizeLine_eq]; omega)
  have sb : Heap.SameBut a s.heap (s.heap.update a (Obj.putSet (order.filterMap (es[·]?)) t')) := Heap.SameBut.update ..
  exact hR _ L2 _ (ep + 1) t' sb ⟨⟨_, store_at ho hd, ⟨hex.1, hex.2.1, hex.2.2⟩, rfl⟩, m1, T, (m2.map Prod.snd).nodup_iff.mpr R.dif, fun p hp => key_on T0 (R.key p (m2.mem_iff.mp hp)) ho hd sb, by rw [m2.length_eq, e3]; exact hn, by rw [e4]; exact R.led, by rw [m2.length_eq]; exact n2⟩ m2
theorem Of.add (R : Of P w knd s.heap a L es ep t) (T : Plain knd) {x : Addr} {k : K} (hx : knd.is s.heap k x) (hu : A.units + 8 < cLine) (hs : L.length < 76) {R2 : Bool → Shared → Prop}
    (hR : ∀ b h' L' es' ep' t', Heap.SameBut a s.heap h' → Of P w knd h' a L' es' ep' t' → (k ∈ L.map Prod.snd ∧ L' = L ∨ k ∉ L.map Prod.snd ∧ L'.Perm ((x, k) :: L)) → R2 b { s with heap := h' }) :
    wpAny (model P w) A (setAddHashed a (.ref x) (knd.hash k)) R2 E s := by
  obtain ⟨o, ho, hex, hd⟩ := R.obj
  have hsp := R.spare
  have n1 := ent_size R.ent
  unfold setAddHashed
  refine wpAny_holding ?_
  rw [show (100000 : Nat) = 99999 + 1 from rfl, setAddHashedIn_succ]
  refine wpAny_bind (wpAny_setState_of ho hd R.fits ?_)
  dsimp only
  refine wp_if_neg (by simp [byScan, Value.scannable]) ?_
  try refine wpAny_bind (wpAny_pure ?_)
  refine wpAny_bind (R.search T hx hu (fun hm => ?_) fun F hm free busy => ?_)
  · exact wpAny_pure (hR false s.heap L es ep t (Heap.SameBut.refl a s.heap) R (.inl ⟨hm, rfl⟩))
  dsimp only
  refine wpAny_bind (wpAny_setState_of ho hd R.fits ?_)
  dsimp only
  obtain ⟨q1, q2, q3, q4, q5, -, -, -, q9⟩ := R.lay.put free busy
  generalize hpt : t.put (way t.mask (knd.hash k) F) = pt at q1 q3 q4 q5 q9 ⊢
  obtain ⟨t1, at1⟩ := pt
  dsimp only at q1 q3 q4 q5 q9 ⊢
  subst q1
  generalize SetTable.below t.place (way t.mask (knd.hash k) F) = p at q2 q3 ⊢
  have pm : (L.take p ++ (x, k) :: L.drop p).Perm ((x, k) :: L) := put_perm L p (x, k)
  have hin : (SetTable.insertAt es p (knd.hash k, Value.ref x)).toList = (L.take p ++ (x, k) :: L.drop p).map fun p => (knd.hash p.2, Value.ref p.1) := by
    rw [SetTable.toList_insertAt, R.ent, List.map_append, List.map_cons, List.map_take, List.map_drop]
  have lay1 : TabOk t1 ((L.take p ++ (x, k) :: L.drop p).map fun p => knd.hash p.2) := by
    rw [List.map_append, List.map_cons, List.map_take, List.map_drop]
    exact q3
  have hlen : (L.take p ++ (x, k) :: L.drop p).length = L.length + 1 := pm.length_eq
  have dif1 : ((L.take p ++ (x, k) :: L.drop p).map Prod.snd).Nodup := (pm.map Prod.snd).nodup_iff.mpr (List.nodup_cons.mpr ⟨hm, R.dif⟩)
  generalize L.take p ++ (x, k) :: L.drop p = L1 at pm hin lay1 hlen dif1
  have hes := ent_size hin
  generalize SetTable.insertAt es p (knd.hash k, Value.ref x) = es1 at hin hes ⊢
  rw [List.length_map] at q9
  -- whatever is known of the hash
  have rest : ∀ t2 : SetTable, t2.place = t1.place → t2.dummies = t1.dummies → t2.mask = t1.mask → t2.led = t1.led → t2.fill = t1.fill → t2.tooFull = t1.tooFull →
      wpAny (model P w) A (do
        storeSet a es1 t2
        if !false && t2.tooFull then setRelay a (SetTable.grown (es.size + 1))
        return true) R2 E s := fun t2 p1 p2 p3 p4 p5 p6 => by
    have lay2 : TabOk t2 (L1.map fun p => knd.hash p.2) := by
      obtain ⟨r1, r2, r3, r4, r5, r6⟩ := lay1
      exact ⟨by rw [p1]; exact r1, by rw [p2]; exact r2, by rw [p1]; exact r3, by rw [p3]; exact r4, by rw [p1, p3]; exact r5, by rw [p1, p3]; exact r6⟩
    refine wpAny_bind (wpAny_storeSet_of ho hd ?_ (by rw [hes, hlen, sizeLine_eq]; omega))
    have sb : Heap.SameBut a s.heap (s.heap.update a (Obj.putSet es1 t2)) := Heap.SameBut.update ..
    have ho1 := store_at (es' := es1) (t' := t2) ho hd
    generalize s.heap.update a (Obj.putSet es1 t2) = h1 at sb ho1 ⊢
    have key1 : ∀ p ∈ L1, knd.is h1 p.2 p.1 := fun p hp => (List.mem_cons.mp (pm.mem_iff.mp hp)).elim (fun e => by rw [e]; exact key_on T hx ho hd sb) fun hp => key_on T (R.key p hp) ho hd sb
    have led1 : w.params.followText "set-order" = true ∨ t2.led = true := by rw [p4, q5]; exact R.led
    have full : t2.tooFull = decide ((L.length + 1) * 5 ≥ t2.mask * 3) := by unfold SetTable.tooFull; rw [p5, q9]
    have mk := R.lay.mok
    by_cases hf : (L.length + 1) * 5 ≥ t2.mask * 3
    · have yes : (!false && t2.tooFull) = true := by rw [full, decide_eq_true hf]; rfl
      first
        | (refine wp_if_pos yes ?_; refine wpAny_bind ?_)
        | (refine wpAny_bind ?_; refine wp_if_pos yes ?_)
      rw [n1]
      have two : (t.mask = 7 ∧ L.length = 4) ∨ (t.mask = 31 ∧ L.length = 18) := by
        rw [p3, q4] at hf
        rcases mk with e | e | e <;> rw [e] at hf hsp <;> omega
      have N : Near P w knd h1 a L1 es1 (ep + 1) t2 := ⟨⟨_, ho1, ⟨hex.1, hex.2.1, hex.2.2⟩, rfl⟩, hin, lay2, dif1, key1, led1, by omega, by rw [hlen, p3, q4]; omega⟩
      have go : ∀ M, SetTable.sizeAbove (SetTable.grown (L.length + 1)) - 1 = M → MaskOk M → (L.length + 1) * 5 < M * 3 →
          wpAny (model P w) A (setRelay a (SetTable.grown (L.length + 1))) (fun _ s' => wpAny (model P w) A (pure true) R2 E s') E { s with heap := h1 } := fun M g1 g2 g3 =>
        Near.relay (s := { s with heap := h1 }) N T g1 g2 (by rw [hlen]; exact g3) fun h2 L2 es2 ep2 t3 sb2 R3 pm2 => wpAny_pure (hR true h2 L2 es2 ep2 t3 (sb.trans sb2) R3 (.inr ⟨hm, pm2.trans pm⟩))
      rcases two with ⟨_, e⟩ | ⟨_, e⟩
      · exact go 31 (by rw [e, size_20]) (.inr (.inl rfl)) (by omega)
      · exact go 127 (by rw [e, size_76]) (.inr (.inr rfl)) (by omega)
    · have noo : ¬ (!false && t2.tooFull) = true := by rw [full, decide_eq_false hf]; decide
      first
        | refine wp_if_neg noo ?_
        | (refine wpAny_bind ?_; refine wp_if_neg noo ?_; refine wpAny_pure ?_)
      exact wpAny_pure (hR true h1 L1 es1 (ep + 1) t2 sb ⟨⟨_, ho1, ⟨hex.1, hex.2.1, hex.2.2⟩, rfl⟩, hin, lay2, dif1, key1, by rw [hlen]; omega, led1, by omega⟩ (.inr ⟨hm, pm⟩))
  rcases Bool.eq_false_or_eq_true t1.plain with hp1 | hp1
  · first
      | (refine wp_if_pos hp1 (wpAny_bind (by_value T hx fun f => ?_)))
      | (refine wpAny_bind ?_; refine wp_if_pos hp1 ?_; refine by_value T hx fun f => ?_)
    cases f with
    | true => exact rest t1 rfl rfl rfl rfl rfl rfl
    | false => exact rest { t1 with plain := false } rfl rfl rfl rfl rfl rfl
  · first
      | (refine wp_if_neg (by rw [hp1]; exact Bool.false_ne_true) ?_)
      | (refine wpAny_bind ?_; refine wp_if_neg (by rw [hp1]; exact Bool.false_ne_true) ?_; refine wpAny_pure ?_)
    refine wpAny_bind (wpAny_pure ?_)
    exact rest t1 rfl rfl rfl rfl rfl rfl
end
def bare (w : World) : Obj := { cls := .type "set", dict := none, data := .set #[] 0 (.fresh 0 0 (!w.params.followText "set-order")) }
theorem Of.bare {h : Heap} {a : Addr} (ho : h.get? a = some (bare w)) : Of P w knd h a [] #[] 0 (.fresh 0 0 (!w.params.followText "set-order")) :=
  ⟨⟨_, ho, ⟨rfl, rfl, rfl⟩, rfl⟩, rfl, ⟨List.Pairwise.nil, rfl, rfl, .inl rfl, fun x hx => absurd hx (List.not_mem_nil), fun i h j hi => by simp at hi⟩, List.nodup_nil, fun p hp => absurd hp (List.not_mem_nil), by show 0 * 5 < 7 * 3; decide,
    by show _ ∨ (!w.params.followText "set-order") = true; cases w.params.followText "set-order" <;> simp, by show 0 ≤ 76; decide⟩
structure Upto (ks : List (Addr × K)) (i : Nat) (L : List (Addr × K)) : Prop where
  sub : ∀ p ∈ L, p ∈ ks.take i
  all : ∀ p ∈ ks.take i, p.2 ∈ L.map Prod.snd
  len : L.length ≤ i
theorem Upto.next {ks L L' : List (Addr × K)} {i : Nat} {p : Addr × K} (U : Upto ks i L) (h : ks[i]? = some p) (c : p.2 ∈ L.map Prod.snd ∧ L' = L ∨ p.2 ∉ L.map Prod.snd ∧ L'.Perm (p :: L)) : Upto ks (i + 1) L' := by
  have e : ks.take (i + 1) = ks.take i ++ [p] := by rw [List.take_add_one, h]; rfl
  rcases c with ⟨hm, rfl⟩ | ⟨-, pm⟩
  · refine ⟨fun q hq => by rw [e]; exact List.mem_append_left _ (U.sub q hq), fun q hq => ?_, Nat.le_succ_of_le U.len⟩
    rw [e] at hq
    exact (List.mem_append.mp hq).elim (U.all q) fun z => by rw [List.mem_singleton.mp z]; exact hm
  · refine ⟨fun q hq => ?_, fun q hq => ?_, by rw [pm.length_eq]; exact Nat.succ_le_succ U.len⟩
    · rw [e]
      exact (List.mem_cons.mp (pm.mem_iff.mp hq)).elim (fun z => List.mem_append_right _ (by rw [z]; exact List.mem_singleton_self _)) fun z => List.mem_append_left _ (U.sub q z)
    · rw [e] at hq
      rw [(pm.map Prod.snd).mem_iff]
      exact (List.mem_append.mp hq).elim (fun z => List.mem_cons_of_mem _ (U.all q z)) fun z => by rw [List.mem_singleton.mp z]; exact List.mem_cons_self ..
theorem key_kept (T : Plain knd) {h h' : Heap} {ks : K} {b : Addr} (hb : knd.is h ks b) (hk : ∀ c o, h.get? c = some o → h'.get? c = some o) : knd.is h' ks b :=
  T.stays (fun c u _ _ e _ => hk c u e) hb
theorem Of.kept {h h' : Heap} {a : Addr} {L : List (Addr × K)} {es : Array (Int × Value)} {ep : Nat} {t : SetTable} (R : Of P w knd h a L es ep t) (h1 : ∀ o, h.get? a = some o → h'.get? a = some o) (h2 : ∀ p ∈ L, knd.is h' p.2 p.1) : Of P w knd h' a L es ep t := by
  obtain ⟨o, ho, r⟩ := R.obj
  exact { R with obj := ⟨o, h1 o ho, r⟩, key := h2 }
theorem fill (T : Plain knd) {I S : Addr} {fp wr : List Addr} {G : Array GenState → Array GenState → Prop} {Pv : Nat → Value → Prop} {St : Nat → Shared → Prop} {Rs : Result → Shared → Prop} {ks : List (Addr × K)}
    (W : WalksS P w A.in1 I fp wr G ks.length Pv St) (hSf : S ∉ fp) (hfew : ks.length ≤ 76) (hval : ∀ i v, Pv i v → ∃ p, ks[i]? = some p ∧ v = .ref p.1)
    {h0 : Heap} (hk : ∀ p ∈ ks, knd.is h0 p.2 p.1) (hS0 : h0.get? S = none) (hw0 : ∀ b ∈ wr, h0.get? b = none) (hu : A.in1.units + 8 < cLine) (m : Nat) :
    ∀ (i : Nat) (s : Shared) (L : List (Addr × K)) (es : Array (Int × Value)) (ep : Nat) (t : SetTable), i + m = ks.length → St i s → (∀ b o, h0.get? b = some o → s.heap.get? b = some o) → Of P w knd s.heap S L es ep t → Upto ks i L →
      (∀ s' L es ep t, Moved (S :: wr) G s s' → Of P w knd s'.heap S L es ep t → Upto ks ks.length L → (∀ b o, h0.get? b = some o → s'.heap.get? b = some o) → Rs (.ok (.ret .none)) s') →
      codeAny (model P w) A (.builtin "set.update.loop" ⟨[.ref S, .ref I], []⟩) Rs s := by
  have apart : S ∉ wr := fun z => hSf (W.sub _ z)
  have wider : ∀ b ∈ wr, b ∈ S :: wr := fun b hb => List.mem_cons_of_mem _ hb
  have still : ∀ {s s' : Shared}, Moved wr G s s' → (∀ b o, h0.get? b = some o → s.heap.get? b = some o) → ∀ b o, h0.get? b = some o → s'.heap.get? b = some o := fun mv k b o e =>
    mv.heap b o (fun z => by rw [hw0 b z] at e; cases e) (k b o e)
  induction m with
  | zero =>
    intro i s L es ep t hi hst hkp R U hR
    have hi : i = ks.length := by omega
    subst hi
    refine codeAny_builtin F.entry_set_update_loop ?_
    rw [Around.under_plainId F.plain_set_update_loop _]
    refine wpAny_bind (m := pyNext (.ref I)) (W.done s _ _ hst fun s' mv => ?_)
    have hkp' := still mv hkp
    exact wpAny_pure (hR s' L es ep t (mv.mono wider) (R.kept (fun o e => mv.heap S o apart e) fun p hp => key_kept T (hk p (List.mem_of_mem_take (U.sub p hp))) hkp') U hkp')
  | succ m ih =>
    intro i s L es ep t hi hst hkp R U hR
    refine codeAny_builtin F.entry_set_update_loop ?_
    rw [Around.under_plainId F.plain_set_update_loop _]
    refine wpAny_bind (m := pyNext (.ref I)) (W.item i s _ _ (by omega) hst fun v s' hv hst' mv => ?_)
    obtain ⟨p, hp, rfl⟩ := hval i v hv
    have hkp' := still mv hkp
    have hx : knd.is s'.heap p.2 p.1 := key_kept T (hk p (List.mem_of_getElem? hp)) hkp'
    have R' : Of P w knd s'.heap S L es ep t := R.kept (fun o e => mv.heap S o apart e) fun q hq => key_kept T (hk q (List.mem_of_mem_take (U.sub q hq))) hkp'
    refine wpAny_bind (m := holding [Value.ref p.1] (setAdd S (.ref p.1))) (wpAny_holding ?_)
    unfold setAdd
    refine wpAny_holding (wpAny_bind (knd.pyHash (T.room hu) hx ?_))
    refine Of.add (s := { s' with toks := s'.toks + (knd.draws p.2) }) R' T hx hu (by have := U.len; omega) fun b h' L' es' ep' t' sb R2 c => ?_
    have kp2 : ∀ b o, h0.get? b = some o → h'.get? b = some o := fun b o e => (sb.2 b fun z => by rw [z, hS0] at e; cases e).trans (hkp' b o e)
    refine wpAny_pure ⟨plainId_quiet F.plain_set_update_loop _, ih (i + 1) _ L' es' ep' t' (by omega) (W.frame _ s' _ _ hst' (Nat.le_add_right _ _) fun b hb o e => ?_) kp2 R2 (U.next hp c) fun s2 L2 es2 ep2 t2 mv2 R3 U3 kp3 => ?_⟩
    · rw [sb.2 b fun z => hSf (z ▸ hb)]
      exact e
    · refine hR s2 L2 es2 ep2 t2 (Moved.trans W.gtrans ((mv.mono wider).then_heap (Nat.le_add_right _ _) fun b o hb e => ?_) mv2) R3 U3 kp3
      rw [sb.2 b fun z => hb (by rw [z]; exact List.mem_cons_self ..)]
      exact e
theorem Upto.count {ks L : List (Addr × K)} (U : Upto ks ks.length L) (hd : (L.map Prod.snd).Nodup) : L.length ≤ ks.length ∧ (L.length = ks.length ↔ (ks.map Prod.snd).Nodup) := by
  have sub : ∀ x ∈ L.map Prod.snd, x ∈ ks.map Prod.snd := fun x hx => by
    obtain ⟨p, hp, rfl⟩ := List.mem_map.mp hx
    exact List.mem_map.mpr ⟨p, List.mem_of_mem_take (U.sub p hp), rfl⟩
  have all : ∀ x ∈ ks.map Prod.snd, x ∈ L.map Prod.snd := fun x hx => by
    obtain ⟨p, hp, rfl⟩ := List.mem_map.mp hx
    exact U.all p (by rw [List.take_length]; exact hp)
  have grow : ∀ (xs ys : List K), xs.Nodup → (∀ x ∈ xs, x ∈ ys) → xs.length ≤ ys.length := by
    intro xs
    induction xs with
    | nil => exact fun _ _ _ => Nat.zero_le _
    | cons x xs ih =>
      intro ys hn hs
      obtain ⟨n1, n2⟩ := List.nodup_cons.mp hn
      have h1 := hs x (List.mem_cons_self ..)
      have h2 := ih (ys.erase x) n2 fun y hy => (List.mem_erase_of_ne fun e => n1 (by rw [← e]; exact hy)).mpr (hs y (List.mem_cons_of_mem _ hy))
      rw [List.length_erase_of_mem h1] at h2
      have := List.length_pos_of_mem h1
      rw [List.length_cons]
      omega
  refine ⟨U.len, fun e => ?_, fun hn => ?_⟩
  · -- a second time would make it shorter
    have short : ∀ ys : List K, ¬ ys.Nodup → ∃ zs : List K, zs.length < ys.length ∧ ∀ x ∈ ys, x ∈ zs := by
      intro ys
      induction ys with
      | nil => exact fun h => absurd List.nodup_nil h
      | cons y ys ih =>
        intro h
        by_cases c : y ∈ ys
        · exact ⟨ys, Nat.lt_succ_self _, fun x hx => (List.mem_cons.mp hx).elim (fun e => e ▸ c) id⟩
        · obtain ⟨zs, z1, z2⟩ := ih fun hn => h (List.nodup_cons.mpr ⟨c, hn⟩)
          exact ⟨y :: zs, Nat.succ_lt_succ z1, fun x hx => (List.mem_cons.mp hx).elim (fun e => e ▸ List.mem_cons_self ..) fun z => List.mem_cons_of_mem _ (z2 x z)⟩
    rcases Classical.em (ks.map Prod.snd).Nodup with c | c
    · exact c
    · obtain ⟨zs, z1, z2⟩ := short _ c
      have := grow (L.map Prod.snd) zs hd fun x hx => z2 x (sub x hx)
      rw [List.length_map] at this z1
      omega
  · have := grow (ks.map Prod.snd) (L.map Prod.snd) hn all
    rw [List.length_map, List.length_map] at this
    exact Nat.le_antisymm U.len this
section
variable {s : Shared} {A : Around} {E : Value → Shared → Prop}
mutual
theorem cls_key : ∀ (k : NestedKey) (v : Value) (n : Nat), NestedIs s.heap k v → k.depth ≤ n → ∀ R : Bool → Shared → Prop, R false s → wpAny (model P w) A (ofAClassStatement n v) R E s
  | .none, _, n, x, _, R, hR => by
    cases x
    rw [show ofAClassStatement n Value.none = pure false by cases n <;> rfl]
    exact wpAny_pure hR
  | .num i, _, n, x, _, R, hR => by
    cases x with
    | bool e =>
      rename_i b
      rw [show ofAClassStatement n (Value.bool b) = pure false by cases n <;> rfl]
      exact wpAny_pure hR
    | int _ t =>
      rw [ofAClass_int n i t]
      exact wpAny_pure hR
  | .text y, _, n, x, _, R, hR => by
    cases x with
    | text _ t =>
      rw [show ofAClassStatement n (Value.str y t) = pure false by cases n <;> rfl]
      exact wpAny_pure hR
  | .tup ks, _, n, x, hn, R, hR => by
    cases x with
    | tup hg hc hd hk =>
      rename_i a o vs m
      simp only [NestedKey.depth] at hn
      cases n with
      | zero => omega
      | succ n =>
      have all := cls_keys ks _ n hk (by omega)
      have ty : s.TypeIs (.ref a) "tuple" := ⟨_, hg, hc⟩
      have yes : (("tuple" : String) == "tuple") = true := by decide
      unfold ofAClassStatement
      refine wpAny_bind (wpAny_typeOf ty ?_)
      simp only [yes, if_true, Bool.not_true, Bool.false_eq_true, if_false]
      try refine wpAny_bind (wpAny_pure ?_)
      try simp only [Bool.not_true, Bool.false_eq_true, if_false]
      refine wpAny_bind (m := seqItems? (.ref a)) (wpAny_seqItems hg hd ?_)
      dsimp only
      refine wpAny_bind ?_
      show wpAny _ _ (forIn vs _ _) _ _ s
      rw [← Array.forIn_toList]
      refine wpAny_forIn_list _ (fun left st s1 => (st.1 = none ∧ s1 = s) ∧ ∀ v ∈ left, ∀ R : Bool → Shared → Prop, R false s → wpAny (model P w) A (ofAClassStatement n v) R E s) _ (fun v left st s1 ⟨⟨e1, e2⟩, hv⟩ => ?_) (fun st s1 ⟨⟨e1, e2⟩, _⟩ => ?_) _ _ ⟨⟨rfl, rfl⟩, all⟩
      · subst e2
        refine wpAny_bind (hv v (List.mem_cons_self ..) _ ?_)
        simp only [Bool.false_eq_true, if_false]
        exact wpAny_pure ⟨⟨rfl, rfl⟩, fun x hx => hv x (List.mem_cons_of_mem _ hx)⟩
      · subst e2
        obtain ⟨st1, st2⟩ := st
        have e1 : st1 = none := e1
        subst e1
        exact wpAny_pure hR
theorem cls_keys : ∀ (ks : List NestedKey) (vs : List Value) (n : Nat), NestedAll s.heap ks vs → NestedKey.depthAll ks ≤ n → ∀ v ∈ vs, ∀ R : Bool → Shared → Prop, R false s → wpAny (model P w) A (ofAClassStatement n v) R E s
  | [], _, n, x, _, v, hv => by cases x; cases hv
  | k :: ks, _, n, x, hn, v, hv => by
    cases x with
    | cons x1 x2 =>
      simp only [NestedKey.depthAll] at hn
      rcases List.mem_cons.mp hv with e | hv
      · rw [e]; exact cls_key k _ n x1 (by omega)
      · exact cls_keys ks _ n x2 (by omega) v hv
end
mutual
theorem val_key : ∀ (k : NestedKey) (v : Value) (n : Nat), NestedIs s.heap k v → ∀ R : Bool → Shared → Prop, (∀ f, R f s) → wpAny (model P w) A (hashByValue n v) R E s
  | .none, _, n, x, R, hR => by
    cases x
    rw [show hashByValue n Value.none = pure true by cases n <;> rfl]
    exact wpAny_pure (hR _)
  | .num i, _, n, x, R, hR => by
    cases x with
    | bool e =>
      rename_i b
      rw [show hashByValue n (Value.bool b) = pure true by cases n <;> rfl]
      exact wpAny_pure (hR _)
    | int _ t =>
      rw [hashBy_int n i t]
      exact wpAny_pure (hR _)
  | .text y, _, n, x, R, hR => by
    cases x with
    | text _ t =>
      rw [show hashByValue n (Value.str y t) = pure false by cases n <;> rfl]
      exact wpAny_pure (hR _)
  | .tup ks, _, n, x, R, hR => by
    cases x with
    | tup hg hc hd hk =>
      rename_i a o vs m
      cases n with
      | zero => exact wpAny_pure (hR _)
      | succ n =>
      have all := val_keys ks _ n hk
      have ty : s.TypeIs (.ref a) "tuple" := ⟨_, hg, hc⟩
      unfold hashByValue
      refine wpAny_bind (wpAny_specialOf ty F.slot_tuple_hash.lookup ?_)
      refine wpAny_bind (m := seqItems? (.ref a)) (wpAny_seqItems hg hd ?_)
      refine wpAny_bind ?_
      show wpAny _ _ (forIn vs _ _) _ _ s
      rw [← Array.forIn_toList]
      refine wpAny_forIn_list _ (fun left st s1 => (st.1 = none ∨ st.1 = some false) ∧ s1 = s ∧ ∀ v ∈ left, ∀ R : Bool → Shared → Prop, (∀ f, R f s) → wpAny (model P w) A (hashByValue n v) R E s) _ (fun v left st s1 ⟨e1, e2, hv⟩ => ?_) (fun st s1 ⟨e1, e2, _⟩ => ?_) _ _ ⟨.inl rfl, rfl, all⟩
      · subst e2
        refine wpAny_bind (hv v (List.mem_cons_self ..) _ fun f => ?_)
        cases f with
        | true =>
          simp only [Bool.not_true, Bool.false_eq_true, if_false]
          exact wpAny_pure ⟨.inl rfl, rfl, fun x hx => hv x (List.mem_cons_of_mem _ hx)⟩
        | false =>
          simp only [Bool.not_false, if_true]
          exact wpAny_pure (wpAny_pure (hR false))
      · subst e2
        obtain ⟨st1, st2⟩ := st
        have e1 : st1 = none ∨ st1 = some false := e1
        rcases e1 with rfl | rfl
        · exact wpAny_pure (hR true)
        · exact wpAny_pure (hR false)
theorem val_keys : ∀ (ks : List NestedKey) (vs : List Value) (n : Nat), NestedAll s.heap ks vs → ∀ v ∈ vs, ∀ R : Bool → Shared → Prop, (∀ f, R f s) → wpAny (model P w) A (hashByValue n v) R E s
  | [], _, n, x, v, hv => by cases x; cases hv
  | k :: ks, _, n, x, v, hv => by
    cases x with
    | cons x1 x2 =>
      rcases List.mem_cons.mp hv with e | hv
      · rw [e]; exact val_key k _ n x1
      · exact val_keys ks _ n x2 v hv
end
end
theorem plain_nested : Plain (nestedKind P w) where
  cls := fun hk hR => cls_key _ _ 8 hk.1 hk.2 _ hR
  val := fun hk hR => val_key _ _ 8 hk.1 _ hR
  stays := fun hk x => nestedKind_stays.stays hk x
  room := fun h => h
end SK
namespace SK
open PySem PySem.Spec PyProof.Rows L2
variable {P : Program} {w : World} {K : Type} [DecidableEq K] {knd : HeapKind P w K} {A : Around} {E : Value → Shared → Prop} {s : Shared}
theorem set_lst (T : Plain knd) {l : Addr} {items : Array Value} (ks : List (Addr × K)) {Q : Value → Shared → Prop} (hh : A.handled = none) (hl : s.heap.IsList l items) (hit : items.toList = ks.map fun p => Value.ref p.1)
    (hk : ∀ p ∈ ks, knd.is s.heap p.2 p.1) (hfew : ks.length ≤ 76) (hu : A.units + 14 < cLine)
    (h : ∀ (h' : Heap) (tk : Nat) L es ep t, Of P w knd h' s.heap.objs.size L es ep t → Upto ks ks.length L → (∀ b o, s.heap.get? b = some o → h'.get? b = some o) → Q (.ref s.heap.objs.size) { s with heap := h', toks := tk }) :
    wpAny (model P w) A (call (.type "set") [.ref l]) Q E s := by
  refine set_by_init _ ?_
  obtain ⟨ol, hol, hcl, nl, hdl⟩ := hl
  obtain ⟨oc, od, oda, osl⟩ := ol
  cases hcl
  cases hdl
  obtain ⟨hp, gg, dr, tk, os⟩ := s
  have nls := F.sub_list_set
  have nlf := F.sub_list_frozenset
  have nld : (Value.type "list" == Value.type "dict") = false := by decide
  have live : (hp.push (newSet w)).get? l = some { cls := .type "list", dict := od, data := .seq items nl, slots := osl } := Heap.get?_push_of_some _ hol
  have ltb : Shared.TypeIs ⟨hp.push (newSet w), gg, dr, tk, os⟩ (.ref l) "list" := ⟨_, live, rfl⟩
  unfold Builtin.«set.__init__» noKeywords Builtin.Frozenset.updateFrom
  generalize hPI : pyIter = PI
  wp_walk
  subst hPI
  have isl : (hp.push (newSet w)).IsList l items := ⟨_, live, rfl, nl, rfl⟩
  have below : l < hp.objs.size := Heap.lt_size hol
  have size1 := Heap.size_push hp (newSet w)
  have cnt : items.size = ks.length := by rw [← Array.length_toList, hit, List.length_map]
  have new : ∀ b, hp.objs.size ≤ b → hp.get? b = none := fun b hb => by
    cases z : hp.get? b with
    | none => rfl
    | some o => exact absurd (Heap.lt_size z) (Nat.not_lt.mpr hb)
  refine wpAny_pyIter_list isl ?_
  refine wpAny_bind (wpAny_runValue ?_)
  have W := (Walks.list (prog := P) (w := w) (A := A.in1.in1.in1) (by simp [hh]) (hp.push (newSet w)).objs.size l (by show l ≠ (hp.push _).objs.size; rw [size1]; exact Nat.ne_of_lt (Nat.lt_succ_of_lt below)) items).toS
  rw [cnt] at W
  refine fill T (h0 := hp) (ks := ks) W ?_ hfew (fun i v hv => ?_) hk (new _ (Nat.le_refl _)) (fun b hb => new b (by rw [List.mem_singleton.mp hb, size1]; exact Nat.le_succ _)) (by show A.units + 3 + 8 < cLine; omega) ks.length 0 _ [] _ _ _ (Nat.zero_add _) ?_ (fun b o e => Heap.get?_push_of_some _ (Heap.get?_push_of_some _ e)) (Of.bare (Heap.get?_push_of_some _ (Heap.get?_push_size _ rfl))) ⟨fun p hp => absurd hp (List.not_mem_nil), fun p hp => by simp at hp, Nat.le_refl _⟩ ?_
  · show hp.objs.size ∉ [(hp.push _).objs.size, l]
    rw [size1]
    simp only [List.mem_cons, List.not_mem_nil, or_false, not_or]
    exact ⟨Nat.ne_of_lt (Nat.lt_succ_self _), Nat.ne_of_gt below⟩
  · have q : items.toList[i]? = some v := by rw [Array.getElem?_toList]; exact hv
    rw [hit, List.getElem?_map] at q
    cases e : ks[i]? with
    | none => rw [e] at q; cases q
    | some p => rw [e] at q; exact ⟨p, rfl, (Option.some.inj q).symm⟩
  · exact ⟨⟨_, Heap.get?_push_size _ rfl, rfl, rfl⟩, isl.push _⟩
  · intro s' L es ep t mv R' U kp
    obtain ⟨h', g2, d', tk', os'⟩ := s'
    obtain rfl : g2 = gg := mv.gens
    obtain rfl : d' = dr := mv.drawn
    obtain rfl : os' = os := mv.os
    refine wpAny_pure ?_
    show wpAny _ _ (ret Value.none) _ _ _
    exact wpAny_pure ⟨rfl, h h' tk' L es ep t R' U kp⟩
end SK
namespace DL
open PySem PySem.Spec L2
variable {X : Cx} {W : WC}
mutual
def keyN : PyData → Option NestedKey
  | .none => some .none
  | .bool b => some (.num (if b = true then 1 else 0))
  | .int i => some (.num i)
  | .str x => some (.text x)
  | .tuple ds => (keyNs ds).map .tup
  | .list _ => none
  | .dict _ => none
def keyNs : List PyData → Option (List NestedKey)
  | [] => some []
  | d :: ds => match keyN d, keyNs ds with
    | some k, some ks => some (k :: ks)
    | _, _ => none
end
section
variable {K : PySem.W.Frag} {F H : Hp} {h : Heap} {P : Program} {w : World}
mutual
theorem nest_at (ok : HOk P w H h) (hF : Same F H) : ∀ (d : PyData) (v : V) (u : Value) (k : NestedKey), At K F v d → RelV v u → keyN d = some k → NestedIs h k u
  | .none, _, u, k, a, r, e => by
    cases a
    cases r
    unfold keyN at e; cases e; exact .none
  | .bool b, _, u, k, a, r, e => by
    cases a
    cases r
    unfold keyN at e; cases e; exact .bool rfl
  | .int i, _, u, k, a, r, e => by
    cases a
    obtain ⟨t, rfl⟩ := r
    unfold keyN at e; cases e; exact .int i t
  | .str x, _, u, k, a, r, e => by
    cases a
    obtain ⟨t, rfl⟩ := r
    unfold keyN at e; cases e; exact .text x t
  | .list ds, _, u, k, a, r, e => by unfold keyN at e; cases e
  | .dict ds, _, u, k, a, r, e => by unfold keyN at e; cases e
  | .tuple ds, _, u, k, a, r, e => by
    unfold keyN at e
    cases ek : keyNs ds with
    | none => rw [ek] at e; cases e
    | some ks =>
      rw [ek] at e
      cases e
      cases a with
      | tup hs ha =>
        rename_i b vs
        cases r
        obtain ⟨_, its, rv, o, h1, h2, n, h3⟩ := (show ObjOk P w H h b (.tup vs) from ok b _ (hF _ _ hs))
        exact .tup h1 h2 h3 (nest_ats ok hF ds vs its ks ha rv ek)
theorem nest_ats (ok : HOk P w H h) (hF : Same F H) : ∀ (ds : List PyData) (vs : List V) (us : List Value) (ks : List NestedKey), AtL K F vs ds → Vals vs us → keyNs ds = some ks → NestedAll h ks us
  | [], vs, us, ks, a, r, e => by
    cases a
    cases r
    unfold keyNs at e; cases e; exact .nil
  | d :: ds, vs, us, ks, a, r, e => by
    unfold keyNs at e
    cases e1 : keyN d with
    | none => rw [e1] at e; cases e
    | some k =>
      cases e2 : keyNs ds with
      | none => rw [e1, e2] at e; cases e
      | some kr =>
        rw [e1, e2] at e
        cases e
        cases a with
        | cons a1 a2 =>
          cases r with
          | cons r1 r2 => exact .cons (nest_at ok hF d _ _ _ a1 r1 e1) (nest_ats ok hF ds _ _ _ a2 r2 e2)
end
theorem nest_refs (ok : HOk P w H h) (hF : Same F H) : ∀ {ds : List PyData} {vs : List V} {us : List Value} {ks : List NestedKey}, AtL K F vs ds → Vals vs us → keyNs ds = some ks → (∀ d ∈ ds, ∃ xs, d = PyData.tuple xs) →
    ∃ ps : List (Addr × NestedKey), us = ps.map (fun p => Value.ref p.1) ∧ ps.map Prod.snd = ks ∧ ∀ p ∈ ps, NestedIs h p.2 (.ref p.1)
  | [], _, _, _, a, r, e, _ => by
    cases a
    cases r
    unfold keyNs at e; cases e
    exact ⟨[], rfl, rfl, fun p hp => absurd hp (List.not_mem_nil)⟩
  | d :: ds, _, _, _, a, r, e, ht => by
    unfold keyNs at e
    cases e1 : keyN d with
    | none => rw [e1] at e; cases e
    | some k =>
      cases e2 : keyNs ds with
      | none => rw [e1, e2] at e; cases e
      | some kr =>
        rw [e1, e2] at e
        cases e
        cases a with
        | cons a1 a2 =>
          cases r with
          | cons r1 r2 =>
            have hn := nest_at ok hF d _ _ _ a1 r1 e1
            obtain ⟨ps, rfl, rfl, hp⟩ := nest_refs ok hF a2 r2 e2 fun d hd => ht d (List.mem_cons_of_mem _ hd)
            obtain ⟨xs, rfl⟩ := ht d (List.mem_cons_self ..)
            cases a1 with
            | tup hs ha =>
              rename_i b _
              cases r1
              exact ⟨(b, k) :: ps, rfl, rfl, fun p hm => (List.mem_cons.mp hm).elim (fun z => by rw [z]; exact hn) (hp p)⟩
end
def tLenSetQ (K : PySem.W.Frag) (ta : TE) : TE := fun σ H Q => ta σ H fun x H1 => ∃ (l : Addr) (vs : List V) (ds : List PyData) (F : Hp) (kss : List NestedKey), x = V.ref l ∧ SqL K H1 l vs ∧ Same F H1 ∧ AtL K F vs ds ∧ (∀ d ∈ ds, ∃ xs, d = PyData.tuple xs) ∧ keyNs ds = some kss ∧ kss.length ≤ 76 ∧ (∀ k ∈ kss, k.depth ≤ 8) ∧
  ∀ c : Nat, c ≤ kss.length → (c = kss.length ↔ kss.Nodup) → Q (.int (c : Nat)) H1
theorem pe_lenSetQ {a : Expr} {ta : TE} {p p2 q pos : Pos} (hc : X.calm = true) (cx : CtxU X) (hg : Gl X "len") (hm : X.mg "len" = none) (hg2 : Gl X "set") (hm2 : X.mg "set" = none) (ha : PE X a ta)
    (na : starEach [a] X.env = (false, eval a X.env) :: starEach [] X.env := by rfl) : PE X (.Call (.Name "len" p) [.Call (.Name "set" p2) [a] [] q] [] pos) (tLenSetQ X.K ta) := by
  refine ⟨fun pins s σ H Q I h => PyProof.Rows.Call_ (ld_blt I hg hm PySem.boot_len ?_)⟩
  refine PyProof.Rows.callWith_builtin1 (PyProof.Rows.args_cons ?_ rfl) rfl rfl
  refine PyProof.Rows.Call_ (ld_blt I hg2 hm2 PyProof.Rows.boot_set ?_)
  refine PyProof.Rows.callWith_type1 (PyProof.Rows.args_cons (thn (ha.run pins s σ H _ I h) fun v s1 ⟨x, H1, I1, r1, l, vs, ds, F, kss, ex, hq, hF, hat, ht, hk, hn, hz, hQ⟩ => PyProof.Rows.args_nil ?_) na) na rfl
  subst ex
  cases r1
  obtain ⟨its, rv, pl, _⟩ := I1.list hq
  have hu := cx.un
  obtain ⟨ps, e1, rfl, hp⟩ := nest_refs I1.hok hF hat rv hk ht
  rw [List.length_map] at hn
  refine SK.set_lst SK.plain_nested ps (I1.ok.hd hc) pl.isList (by simpa using e1) (fun p hm => ⟨hp p hm, hz _ (List.mem_map.mpr ⟨p, hm, rfl⟩)⟩) hn (by omega) fun h' tk L es ep t R U kp => PyProof.Rows.args_nil ?_
  obtain ⟨o, ho, hex, hd⟩ := R.obj
  have I2 : Inv X pins σ H1 { s1 with heap := h', toks := tk } := I1.kept kp
  have hsz := SK.ent_size R.ent
  have hle := U.count R.dif
  have hU := U.len
  exact PySem.call_len_set ho hex hd (SK.Of.fits (s := { s1 with heap := h' }) R) (by rw [hsz]; omega) ⟨.int (L.length : Nat), H1, I2.tok _, ⟨_, by rw [hsz]⟩, hQ L.length (by rw [List.length_map]; exact hle.1) (by rw [List.length_map]; exact hle.2)⟩
def oLenSetQ : D1 := fun x R => match x.rd with
  | some ds => (∀ d ∈ ds, ∃ xs, d = PyData.tuple xs) ∧ ∃ kss, keyNs ds = some kss ∧ kss.length ≤ 76 ∧ (∀ k ∈ kss, k.depth ≤ 8) ∧ ∀ c : Nat, c ≤ kss.length → (c = kss.length ↔ kss.Nodup) → R (.d (.int (c : Nat)))
  | none => False
def mLenSetQ (me : ME) : ME := fun ex δ R => me ex δ fun x => oLenSetQ x R
theorem de_lenSetQ {e : Expr} {me : ME} {u : Nat} {p p2 q pos : Pos} (hc : X.calm = true) (cx : CtxU X) (hg : Gl X "len") (hm : X.mg "len" = none) (hg2 : Gl X "set") (hm2 : X.mg "set" = none) (h : DE X W e me u)
    (na : starEach [e] X.env = (false, eval e X.env) :: starEach [] X.env := by rfl) : DE X W (.Call (.Name "len" p) [.Call (.Name "set" p2) [e] [] q] [] pos) (mLenSetQ me) u :=
  ⟨PE.imp (pe_lenSetQ hc cx hg hm hg2 hm2 h.pe na) fun σ H Q q => by
    obtain ⟨ex, G, F, δ, τ, ts, τ1, ts1, R, n, m, k⟩ := q
    refine ⟨ex, G, F, δ, τ, ts, τ1, ts1, _, n, m, fun x hx v F1 H1 g1 => ?_⟩
    have hx : oLenSetQ x R := hx
    unfold oLenSetQ at hx
    split at hx
    · rename_i ds hds
      obtain ⟨ht, kss, hk, hl, hz, hx⟩ := hx
      obtain ⟨l, vs, rfl, h1, h2⟩ := rd_of g1.top g1.fh hds
      rw [show (G.up u).K = X.K from n.k] at h1 h2
      exact ⟨l, vs, ds, F1, kss, rfl, h1, g1.fh, h2, ht, hk, hl, hz, fun c c1 c2 => k _ (hx c c1 c2) _ _ _ (g1.pop.pushD (.int _))⟩
    · exact hx.elim⟩
end DL
namespace DL
open PySem PySem.Spec L2 PySem.W
def topOf : List HP → HP
  | [] => (0, 0, "")
  | p :: ps => (hpOf (maxD (hpD p) (ps.map hpD))).getD (0, 0, "")
theorem top_max {ps : List HP} (h : 0 < ps.length) : topOf ps ∈ ps ∧ ∀ q ∈ ps, q.1 ≤ (topOf ps).1 := by
  cases ps with
  | nil => exact absurd h (by simp)
  | cons p ps =>
    obtain ⟨m, m1, m2, m3⟩ := maxD_hs ps p
    have e : topOf (p :: ps) = m := by
      show (hpOf (maxD (hpD p) (ps.map hpD))).getD (0, 0, "") = m
      rw [m3]
      rfl
    rw [e]
    exact ⟨m1, m2⟩
theorem top_eq {p : HP} {ps : List HP} : maxD (hpD p) (ps.map hpD) = hpD (topOf (p :: ps)) := by
  obtain ⟨m, m1, m2, m3⟩ := maxD_hs ps p
  show _ = hpD ((hpOf (maxD (hpD p) (ps.map hpD))).getD (0, 0, ""))
  rw [m3]
  rfl
def oMaxHd : D1 := fun x R => match x.lst with
  | some ds => match hpsL ds with
    | some ps => 0 < ps.length ∧ R (.d (hpD (topOf ps)))
    | none => False
  | none => False
theorem on_maxHd {X : Cx} : OpN X (rMaxH X.K) (o1 oMaxHd) := on_1 fun G F δ σ H v x R Q hK g hx h k => by
  unfold oMaxHd at h
  split at h
  · rename_i ds e
    split at h
    · rename_i ps e2
      obtain ⟨l, vs, rfl, h1, h2⟩ := lst_of hx g.fh e
      rw [hpsL_eq e2] at h2
      cases ps with
      | nil => exact absurd h.1 (by simp)
      | cons p ps =>
        refine ⟨l, vs, p, ps, F, rfl, SqL.of h1, g.fh, by rw [← hK]; exact h2, fun v hv => ?_⟩
        rw [top_eq] at hv
        exact k _ h.2 v F H (g.pushD (by rw [hK]; exact hv))
    · exact h.elim
  · exact h.elim
section
variable {u : Nat} {X : Cx} {W : WC} {e : Expr} {pos p : Pos} {mas : MA}
theorem de_maxHd (cx : CtxU X) (hc : X.calm = true) (hg : Gl X "max") (hm : X.mg "max" = none) (ha : DA X W [e] mas u) (he : starEach [e] X.env = (false, eval e X.env) :: starEach [] X.env := by rfl) (hpl : (backTo pos (starEach [] X.env)).any (·.1) = false := by rfl) :
    DE X W (.Call (.Name "max" p) [e] [] pos) (mCB (o1 oMaxHd) mas) u := de_callB (cr_maxH hc cx.u64) on_maxHd hg hm (by decide +kernel) ha (by decide) (by decide) he hpl
end
section
variable {xs : List PyData} {R : DV → Prop}
theorem oMaxHd_o : oMaxHd (.own xs) R = (match hpsL xs with | some ps => 0 < ps.length ∧ R (.d (hpD (topOf ps))) | none => False) := rfl
theorem oMaxHd_l : oMaxHd (.d (.list xs)) R = (match hpsL xs with | some ps => 0 < ps.length ∧ R (.d (hpD (topOf ps))) | none => False) := rfl
theorem oMaxHd_b : oMaxHd (.bor xs) R = (match hpsL xs with | some ps => 0 < ps.length ∧ R (.d (hpD (topOf ps))) | none => False) := rfl
end
end DL
namespace L2
open PySem PySem.Spec PyProof.Rows
variable {X : Cx}
end L2
namespace DL
open PySem PySem.Spec L2
variable {X : Cx} {W : WC} {u1 u2 u3 : Nat}
end DL
namespace DL
open PySem PySem.Spec L2
section
variable {X : Cx} {W : WC} {u u1 u2 : Nat} {o e a b : Expr} {ap pos p : Pos} {mo me ma mb : ME} {mas : MA}
def ents : List DictEntry → List (Str × Str) → Bool
  | [], [] => true
  | e :: es, (k, v) :: r => e.key.isStr k && e.val.isStr v && ents es r
  | _, _ => false
structure DctS (K : PySem.W.Frag) (w : World) (p : Addr) (kvs : List (Str × Str)) : Prop where
  ex : ∃ (es : Array DictEntry) (n : Nat), K.lookup p = some ⟨.type "dict", none, .dict es n, #[]⟩ ∧ PySem.W.KeysLit w.params es.toList ∧ ents es.toList kvs = true
  lo : (p == sysModules) = false
theorem isStr_ex {v : Value} {x : Str} (h : v.isStr x = true) : ∃ t, v = .str x t := by
  unfold Value.isStr at h
  split at h
  · rename_i y t
    exact ⟨t, by rw [show y = x by simpa using h]⟩
  · cases h
theorem ents_find : ∀ {es : List DictEntry} {kvs : List (Str × Str)}, ents es kvs = true → ∀ x : Str, match kvs.lookup x with
    | some v => ∃ e t, es.find? (·.key.isStr x) = some e ∧ e.val = .str v t
    | none => es.find? (·.key.isStr x) = none ∧ es.any (·.refKey) = false
  | [], [], _, x => ⟨rfl, rfl⟩
  | [], _ :: _, h, _ => by cases h
  | _ :: _, [], h, _ => by cases h
  | e :: es, (k, v) :: r, h, x => by
    unfold ents at h
    simp only [Bool.and_eq_true] at h
    obtain ⟨⟨h1, h2⟩, h3⟩ := h
    obtain ⟨t, e1⟩ := isStr_ex h1
    obtain ⟨t', e2⟩ := isStr_ex h2
    have ih := ents_find h3 x
    by_cases c : x = k
    · subst c
      rw [List.lookup_cons, beq_self_eq_true]
      exact ⟨e, t', by rw [List.find?_cons, h1], e2⟩
    · have c1 : (x == k) = false := by simpa using c
      have c2 : e.key.isStr x = false := by
        rw [e1]
        show (k == x) = false
        simpa using fun z => c z.symm
      rw [List.lookup_cons, c1, List.find?_cons, c2]
      dsimp only
      split
      · rename_i v' hv
        rw [hv] at ih
        exact ih
      · rename_i hv
        rw [hv] at ih
        refine ⟨ih.1, ?_⟩
        rw [List.any_cons, ih.2, Bool.or_false]
        unfold DictEntry.refKey
        rw [e1]
theorem DctS.look {K : PySem.W.Frag} {w : World} {p : Addr} {kvs : List (Str × Str)} {x : Str} (h : DctS K w p kvs) : ∃ r, PySem.W.nsIn K p x = some r ∧ r.isSome = (kvs.lookup x).isSome ∧ ∀ v, kvs.lookup x = some v → ∃ t, r = some (.str v t) := by
  obtain ⟨es, n, h1, h2, h3⟩ := h.ex
  have f := ents_find h3 x
  unfold PySem.W.nsIn
  rw [h1]
  dsimp only
  cases e : kvs.lookup x with
  | some v =>
    rw [e] at f
    obtain ⟨en, t, f1, f2⟩ := f
    rw [f1]
    exact ⟨some en.val, rfl, rfl, fun v' e' => by cases e'; exact ⟨t, by rw [f2]⟩⟩
  | none =>
    rw [e] at f
    rw [f.1, f.2]
    exact ⟨none, rfl, rfl, fun v e => by cases e⟩
theorem oSl_tx {z : Str} {lo hi : Option Int} {R : DV → Prop} : oSl (.d (.str z)) lo hi R = (z.length ≤ sizeLine ∧ R (.d (.str (cutS z lo hi)))) := rfl
theorem oIx_tx {z : Str} {i : Int} {R : DV → Prop} : oIx (.d (.str z)) (.d (.int i)) R = (z.length ≤ sizeLine ∧ ∃ ch, atI z.cps.toList i = some ch ∧ R (.d (.str ⟨#[ch]⟩))) := rfl
end
end DL
namespace DL
open PySem PySem.Spec L2
section
variable {X : Cx} {W : WC} {u u1 u2 : Nat} {e a b : Expr} {p pos : Pos} {me ma mb : ME}
abbrev MJ := Str → XD → Env → (Str → Prop) → Prop
def liftJ (K : PySem.W.Frag) (mg : Str → Option Value) (W : WC) (u : Nat) (m : MJ) (acc : Str) (σ : L2.St) (H : Hp) (Q : Str → Hp → Prop) : Prop :=
  ∃ (ex : XD) (G : Gm) (F : Hp) (δ τ : Env) (ts : L2.St) (τ1 : Env) (ts1 : L2.St) (R : Str → Prop), Now K mg W u ex G F δ σ τ ts τ1 ts1 H ∧ m acc ex δ R ∧
    ∀ r, R r → ∀ F' H', Good (G.up u) F' (δ ++ τ ++ τ1) (σ ++ ts ++ ts1) H' → Q r H'
structure DFs (X : Cx) (W : WC) (es : List Expr) (m : MJ) (u : Nat) : Prop where
  ex : ∃ ts, PJ X es ts ∧ ∀ acc σ H Q, liftJ X.K X.mg W u m acc σ H Q → tJs ts acc σ H Q
variable {es : List Expr} {mj : MJ}
theorem vals_nil : vals [] = some [] := rfl
theorem vals_dc {x : PyData} {xs : List DV} : vals (.d x :: xs) = Option.map (x :: ·) (vals xs) := by
  show (match some x, vals xs with
    | some d, some ds => some (d :: ds)
    | _, _ => none) = _
  cases vals xs <;> rfl
theorem vals_oc {x : List PyData} {xs : List DV} : vals (.own x :: xs) = Option.map (.list x :: ·) (vals xs) := by
  show (match some (PyData.list x), vals xs with
    | some d, some ds => some (d :: ds)
    | _, _ => none) = _
  cases vals xs <;> rfl
theorem vals_kc {x : List (PyData × PyData)} {xs : List DV} : vals (.odk x :: xs) = Option.map (.dict x :: ·) (vals xs) := by
  show (match some (PyData.dict x), vals xs with
    | some d, some ds => some (d :: ds)
    | _, _ => none) = _
  cases vals xs <;> rfl
end
end DL
local macro_rules | `(tactic| walk_at "dl") => `(tactic| first | (simp only [DL.mSeq, DL.mNext, DL.mAsg, DL.mAug, DL.mBin, DL.mB, DL.mUn, DL.mTup, DL.mLst, DL.mCons, DL.mC, DL.mNil, DL.mVar, DL.mIfS, DL.mCB, DL.mCall, DL.mRet, DL.mSl, DL.mPN, DL.mPS, DL.mAnd, DL.mOr, DL.mNot, DL.mAndV, DL.o1, DL.o2, DL.mSto, DL.mMut]; try simp only [DL.oSl_tx, DL.oIx_tx, DL.oMaxHd_o, DL.oMaxHd_l, DL.oMaxHd_b, DL.mMkG, DL.oSortX_o, DL.oSortX_l, DL.mFld, DL.mMt, DL.mIEnumT, DL.enumD, DL.mIsi2, DL.num_i, DL.dct_ot, DL.dct_bt, DL.seen_lt, DL.isBor_lt, DL.keyD, DL.seen_ot, DL.seen_bt, DL.isBor_ot, DL.isBor_bt, DL.seen_k, DL.seen_bk, DL.seen_lk, DL.seen_bl, DL.seen_ld, DL.fix_k, DL.fix_bk, DL.isBor_k, DL.isBor_bk, DL.isBor_ld, DL.isObj_0, DL.isObj_s, DL.isObj_i, DL.key_i, DL.key_s, Bool.false_bne, Bool.true_bne, DL.dr_nil, DL.dr_n, DL.dr_d, DL.dr_c, DL.dr_o, DL.dr_b, DL.dr_r, DL.dr_s, DL.mRaise1, DL.seen_e, DL.isBor_e, DL.bodyD, DL.startD, DL.mSeq, DL.mNext, DL.mFrz, DL.mBreak, DL.mRet, DL.mDrop, DL.mIfS, DL.gN, DL.gsN, DL.gT, DL.mAsg, DL.mPar2, DL.mAug, 
  DL.mMut, DL.mutRun, DL.isOwnAt, DL.mSto, DL.mCall, DL.argsD, DL.mVar, DL.mC, DL.mRaw, DL.mBin, DL.mB, DL.mChain, DL.mAnd, DL.mOr, DL.mNot, DL.mAndV, DL.mNotV, 
  DL.mNil, DL.mCons, DL.mCB, DL.mTup, DL.mLst, DL.vals_nil, DL.vals_dc, DL.vals_oc, DL.vals_kc, DL.mIL, DL.mIT, DL.mR1, DL.mR2, DL.mR3, DL.mFor, DL.mForN, DL.mLc, DL.mLcN, DL.oLt, DL.oLe, DL.mUn, 
  DL.o1, DL.o2, DL.oSum, DL.mSl, DL.mPN, DL.mPS, DL.mYes, DL.uApp, DL.uExt, DL.val_odk, DL.oReprD, DL.wipeD, DL.seenD, DL.oSub_i, DL.val_d, DL.val_o, 
  DL.seen_d, DL.seen_o, DL.seen_b, DL.seen_c, DL.seen_s, DL.fix_d, DL.fix_o, DL.fix_b, DL.fix_c, DL.isBor_d, DL.isBor_o, DL.isBor_b, DL.isBor_c, DL.isBor_s, DL.tru_b, DL.lst_dl, 
  DL.rd_dl, DL.lst_o, DL.rd_o, DL.lst_b, DL.rd_b, DL.seq_dl, DL.seq_dt, DL.seq_o, DL.seq_b, DL.rd_s, DL.pd_d, DL.pd_o, DL.pd_b, DL.oI_T, DL.oEq_ssf, DL.oEq_ndf, DL.oEq_nof, 
  DL.oEq_nrf, DL.oEq_dnf, DL.oEq_bdf, DL.oEq_bof, DL.oEq_brf, DL.oEq_dbf, DL.oEq_idf, DL.oEq_iof, DL.oEq_irf, DL.oEq_dif, DL.oEq_ldf, DL.oEq_lof, DL.oEq_lrf, DL.oEq_dlf, DL.oEq_tdf, 
  DL.oEq_tof, DL.oEq_trf, DL.oEq_dtf, DL.oEq_kdf, DL.oEq_kof, DL.oEq_krf, DL.oEq_dkf, DL.oEq_odf, DL.oEq_oof, DL.oEq_orf, DL.oEq_dof, DL.oEq_rdf, DL.oEq_rof, DL.oEq_rrf, DL.oEq_drf, 
  DL.oEq_sst, DL.oEq_ndt, DL.oEq_not, DL.oEq_nrt, DL.oEq_dnt, DL.oEq_bdt, DL.oEq_bot, DL.oEq_brt, DL.oEq_dbt, DL.oEq_idt, DL.oEq_iot, DL.oEq_irt, DL.oEq_dit, DL.oEq_ldt, DL.oEq_lot, 
  DL.oEq_lrt, DL.oEq_dlt, DL.oEq_tdt, DL.oEq_tot, DL.oEq_trt, DL.oEq_dtt, DL.oEq_kdt, DL.oEq_kot, DL.oEq_krt, DL.oEq_dkt, DL.oEq_odt, DL.oEq_oot, DL.oEq_ort, DL.oEq_dot, DL.oEq_rdt, 
  DL.oEq_rot, DL.oEq_rrt, DL.oEq_drt, DL.oI_i, DL.oC_i, DL.oAdd_i, DL.oAdd_s, DL.oAdd_t, DL.oAdd_ll, DL.oAdd_lo, DL.oAdd_lb, DL.oAdd_ol, 
  DL.oAdd_oo, DL.oAdd_ob, DL.oAdd_bl, DL.oAdd_bo, DL.oAdd_bb, DL.oMul_i, DL.oMul_l, DL.oMul_o, DL.oMul_b, DL.oNeg_i, DL.oIsN_nnf, DL.oIsN_if, DL.oIsN_bf, DL.oIsN_sf, DL.oIsN_tf, DL.oIsN_lf, DL.oIsN_of, DL.oIsN_rf, DL.oIsN_nnt, DL.oIsN_it, DL.oIsN_bt, 
  DL.oIsN_st, DL.oIsN_tt, DL.oIsN_lt, DL.oIsN_ot, DL.oIsN_rt, DL.oIx_t, DL.oLen_t, DL.oIx_l, DL.oLen_l, DL.oIx_o, DL.oLen_o, DL.oIx_b, DL.oLen_b, 
  DL.oLen_s, DL.oLen_x, DL.oAbs_i, DL.oMax2_i, DL.oMin2_i, DL.oInt_i, DL.oInt_b, DL.oTuple_t, DL.oTuple_l, DL.oTuple_o, DL.oTuple_b, DL.oInts_l, DL.oInts_o, DL.oInts_b, 
  DL.oIsi_d, DL.oIsi_o, DL.oIsi_b, DL.oSl_t, DL.oSl_l, DL.oSl_o, DL.oSl_b, DL.oSl_s, DL.oBack_t, DL.oBack_l, DL.oBack_o, DL.oBack_b, List.map_cons, List.map_nil, List.length_cons, 
  List.length_nil, List.replicate_succ, List.replicate_zero, List.cons_append, List.nil_append, List.append_nil, DL.ge0, DL.ges, List.set_cons_zero, List.set_cons_succ, Nat.reduceAdd, 
  Nat.reduceSub, Nat.reduceLT, Option.map_some, Option.map_none, and_true, true_and, List.getElem?_nil, forall_const, Bool.not_true, Bool.not_false, DL.at0, DL.at1, DL.at2, DL.at3, DL.at4, DL.at5, 
  Int.toNat_natCast, Int.toNat_one, Int.toNat_zero, DL.all_nil', DL.tf_t, DL.tf_f, DL.tf1, DL.tf2, DL.tf3, DL.tf4]) | simp only [DL.oSl_tx, DL.oIx_tx, DL.oMaxHd_o, DL.oMaxHd_l, DL.oMaxHd_b, DL.mMkG, DL.oSortX_o, DL.oSortX_l, DL.mFld, DL.mMt, DL.mIEnumT, DL.enumD, DL.mIsi2, DL.num_i, DL.dct_ot, DL.dct_bt, DL.seen_lt, DL.isBor_lt, DL.keyD, DL.seen_ot, DL.seen_bt, DL.isBor_ot, DL.isBor_bt, DL.seen_k, DL.seen_bk, DL.seen_lk, DL.seen_bl, DL.seen_ld, DL.fix_k, DL.fix_bk, DL.isBor_k, DL.isBor_bk, DL.isBor_ld, DL.isObj_0, DL.isObj_s, DL.isObj_i, DL.key_i, DL.key_s, Bool.false_bne, Bool.true_bne, DL.dr_nil, DL.dr_n, DL.dr_d, DL.dr_c, DL.dr_o, DL.dr_b, DL.dr_r, DL.dr_s, DL.mRaise1, DL.seen_e, DL.isBor_e, DL.bodyD, DL.startD, DL.mSeq, DL.mNext, DL.mFrz, DL.mBreak, DL.mRet, DL.mDrop, DL.mIfS, DL.gN, DL.gsN, DL.gT, DL.mAsg, DL.mPar2, DL.mAug, 
  DL.mMut, DL.mutRun, DL.isOwnAt, DL.mSto, DL.mCall, DL.argsD, DL.mVar, DL.mC, DL.mRaw, DL.mBin, DL.mB, DL.mChain, DL.mAnd, DL.mOr, DL.mNot, DL.mAndV, DL.mNotV, 
  DL.mNil, DL.mCons, DL.mCB, DL.mTup, DL.mLst, DL.vals_nil, DL.vals_dc, DL.vals_oc, DL.vals_kc, DL.mIL, DL.mIT, DL.mR1, DL.mR2, DL.mR3, DL.mFor, DL.mForN, DL.mLc, DL.mLcN, DL.oLt, DL.oLe, DL.mUn, 
  DL.o1, DL.o2, DL.oSum, DL.mSl, DL.mPN, DL.mPS, DL.mYes, DL.uApp, DL.uExt, DL.val_odk, DL.oReprD, DL.wipeD, DL.seenD, DL.oSub_i, DL.val_d, DL.val_o, 
  DL.seen_d, DL.seen_o, DL.seen_b, DL.seen_c, DL.seen_s, DL.fix_d, DL.fix_o, DL.fix_b, DL.fix_c, DL.isBor_d, DL.isBor_o, DL.isBor_b, DL.isBor_c, DL.isBor_s, DL.tru_b, DL.lst_dl, 
  DL.rd_dl, DL.lst_o, DL.rd_o, DL.lst_b, DL.rd_b, DL.seq_dl, DL.seq_dt, DL.seq_o, DL.seq_b, DL.rd_s, DL.pd_d, DL.pd_o, DL.pd_b, DL.oI_T, DL.oEq_ssf, DL.oEq_ndf, DL.oEq_nof, 
  DL.oEq_nrf, DL.oEq_dnf, DL.oEq_bdf, DL.oEq_bof, DL.oEq_brf, DL.oEq_dbf, DL.oEq_idf, DL.oEq_iof, DL.oEq_irf, DL.oEq_dif, DL.oEq_ldf, DL.oEq_lof, DL.oEq_lrf, DL.oEq_dlf, DL.oEq_tdf, 
  DL.oEq_tof, DL.oEq_trf, DL.oEq_dtf, DL.oEq_kdf, DL.oEq_kof, DL.oEq_krf, DL.oEq_dkf, DL.oEq_odf, DL.oEq_oof, DL.oEq_orf, DL.oEq_dof, DL.oEq_rdf, DL.oEq_rof, DL.oEq_rrf, DL.oEq_drf, 
  DL.oEq_sst, DL.oEq_ndt, DL.oEq_not, DL.oEq_nrt, DL.oEq_dnt, DL.oEq_bdt, DL.oEq_bot, DL.oEq_brt, DL.oEq_dbt, DL.oEq_idt, DL.oEq_iot, DL.oEq_irt, DL.oEq_dit, DL.oEq_ldt, DL.oEq_lot, 
  DL.oEq_lrt, DL.oEq_dlt, DL.oEq_tdt, DL.oEq_tot, DL.oEq_trt, DL.oEq_dtt, DL.oEq_kdt, DL.oEq_kot, DL.oEq_krt, DL.oEq_dkt, DL.oEq_odt, DL.oEq_oot, DL.oEq_ort, DL.oEq_dot, DL.oEq_rdt, 
  DL.oEq_rot, DL.oEq_rrt, DL.oEq_drt, DL.oI_i, DL.oC_i, DL.oAdd_i, DL.oAdd_s, DL.oAdd_t, DL.oAdd_ll, DL.oAdd_lo, DL.oAdd_lb, DL.oAdd_ol, 
  DL.oAdd_oo, DL.oAdd_ob, DL.oAdd_bl, DL.oAdd_bo, DL.oAdd_bb, DL.oMul_i, DL.oMul_l, DL.oMul_o, DL.oMul_b, DL.oNeg_i, DL.oIsN_nnf, DL.oIsN_if, DL.oIsN_bf, DL.oIsN_sf, DL.oIsN_tf, DL.oIsN_lf, DL.oIsN_of, DL.oIsN_rf, DL.oIsN_nnt, DL.oIsN_it, DL.oIsN_bt, 
  DL.oIsN_st, DL.oIsN_tt, DL.oIsN_lt, DL.oIsN_ot, DL.oIsN_rt, DL.oIx_t, DL.oLen_t, DL.oIx_l, DL.oLen_l, DL.oIx_o, DL.oLen_o, DL.oIx_b, DL.oLen_b, 
  DL.oLen_s, DL.oLen_x, DL.oAbs_i, DL.oMax2_i, DL.oMin2_i, DL.oInt_i, DL.oInt_b, DL.oTuple_t, DL.oTuple_l, DL.oTuple_o, DL.oTuple_b, DL.oInts_l, DL.oInts_o, DL.oInts_b, 
  DL.oIsi_d, DL.oIsi_o, DL.oIsi_b, DL.oSl_t, DL.oSl_l, DL.oSl_o, DL.oSl_b, DL.oSl_s, DL.oBack_t, DL.oBack_l, DL.oBack_o, DL.oBack_b, List.map_cons, List.map_nil, List.length_cons, 
  List.length_nil, List.replicate_succ, List.replicate_zero, List.cons_append, List.nil_append, List.append_nil, DL.ge0, DL.ges, List.set_cons_zero, List.set_cons_succ, Nat.reduceAdd, 
  Nat.reduceSub, Nat.reduceLT, Option.map_some, Option.map_none, and_true, true_and, List.getElem?_nil, forall_const, Bool.not_true, Bool.not_false, DL.at0, DL.at1, DL.at2, DL.at3, DL.at4, DL.at5, 
  Int.toNat_natCast, Int.toNat_one, Int.toNat_zero, DL.all_nil', DL.tf_t, DL.tf_f, DL.tf1, DL.tf2, DL.tf3, DL.tf4])
local macro_rules | `(tactic| walk_at "dx") => `(tactic| first | (simp only [DL.mSeq, DL.mNext, DL.mAsg, DL.mAug, DL.mBin, DL.mB, DL.mUn, DL.mTup, DL.mLst, DL.mCons, DL.mC, DL.mNil, DL.mVar, DL.mIfS, DL.mCB, DL.mCall, DL.mRet, DL.mSl, DL.mPN, DL.mPS, DL.mAnd, DL.mOr, DL.mNot, DL.mAndV, DL.o1, DL.o2, DL.mSto, DL.mMut]; try simp only [DL.oSl_tx, DL.oIx_tx, DL.oMaxHd_o, DL.oMaxHd_l, DL.oMaxHd_b, DL.mMkG, DL.eqv_lr, DL.eqv_rl, DL.eqv_ll, DL.eqv_rr, DL.oSortX_o, DL.oSortX_l, DL.mFld, DL.mMt, DL.mIEnumT, DL.enumD, DL.cp2, DL.pw2, DL.cp3, DL.pw3, DL.cp4, DL.pw4, DL.cp5, DL.pw5, DL.cp6, DL.pw6, DL.cp7, DL.pw7, DL.cp8, DL.pw8, DL.cp9, DL.pw9, DL.cp10, DL.pw10, DL.cp11, DL.pw11, DL.cp12, DL.pw12, DL.cp13, DL.pw13, DL.cp14, DL.pw14, DL.cp15, DL.pw15, DL.cp16, DL.pw16, DL.cp17, DL.pw17, DL.cp18, DL.pw18, DL.cp19, DL.pw19, DL.cp20, DL.pw20, DL.cp21, DL.pw21, DL.cp22, DL.pw22, DL.cp23, DL.pw23, DL.cp24, DL.pw24, DL.cp25, DL.pw25, DL.cp26, DL.pw26, DL.cp27, DL.pw27, DL.cp28, DL.pw28, DL.cp29, DL.pw29, DL.cp30, DL.pw30, DL.cp31, DL.pw31, DL.cp32, DL.pw32, DL.cp33, DL.pw33, DL.cp34, DL.pw34, DL.cp35, DL.pw35, DL.cp36, DL.pw36, DL.cp37, DL.pw37, DL.cp38, DL.pw38, DL.cp39, DL.pw39, DL.cp40, DL.pw40,
  DL.eqv_ii, DL.eqv_bb, DL.shaped_i, DL.shaped_b, DL.shaped_n, DL.shaped_nil, DL.shaped_nilt, DL.if_tt, DL.if_ff, decide_eq_true_eq, decide_eq_false_iff_not, Bool.not_eq_true', Bool.not_eq_false', Int.zero_add, Int.add_zero, ite_true, ite_false, eq_self_iff_true,
  DL.mIsi2, DL.num_i, DL.dct_ot, DL.dct_bt, DL.seen_lt, DL.isBor_lt, DL.keyD, DL.seen_ot, DL.seen_bt, DL.isBor_ot, DL.isBor_bt, DL.seen_k, DL.seen_bk, DL.seen_lk, DL.seen_bl, DL.seen_ld, DL.fix_k, DL.fix_bk, DL.isBor_k, DL.isBor_bk, DL.isBor_ld, DL.isObj_0, DL.isObj_s, DL.isObj_i, DL.key_i, DL.key_s, Bool.false_bne, Bool.true_bne, DL.dr_nil, DL.dr_n, DL.dr_d, DL.dr_c, DL.dr_o, DL.dr_b, DL.dr_r, DL.dr_s, DL.mRaise1, DL.seen_e, DL.isBor_e, DL.bodyD, DL.startD, DL.mSeq, DL.mNext, DL.mFrz, DL.mBreak, DL.mRet, DL.mDrop, DL.mIfS, DL.gN, DL.gsN, DL.gT, DL.mAsg, DL.mPar2, DL.mAug, 
  DL.mMut, DL.mutRun, DL.isOwnAt, DL.mSto, DL.mCall, DL.argsD, DL.mVar, DL.mC, DL.mRaw, DL.mBin, DL.mB, DL.mChain, DL.mAnd, DL.mOr, DL.mNot, DL.mAndV, DL.mNotV, 
  DL.mNil, DL.mCons, DL.mCB, DL.mTup, DL.mLst, DL.vals_nil, DL.vals_dc, DL.vals_oc, DL.vals_kc, DL.mIL, DL.mIT, DL.mR1, DL.mR2, DL.mR3, DL.mFor, DL.mForN, DL.mLc, DL.mLcN, DL.oLt, DL.oLe, DL.mUn, 
  DL.o1, DL.o2, DL.oSum, DL.mSl, DL.mPN, DL.mPS, DL.mYes, DL.uApp, DL.uExt, DL.val_odk, DL.oReprD, DL.wipeD, DL.seenD, DL.oSub_i, DL.val_d, DL.val_o, 
  DL.seen_d, DL.seen_o, DL.seen_b, DL.seen_c, DL.seen_s, DL.fix_d, DL.fix_o, DL.fix_b, DL.fix_c, DL.isBor_d, DL.isBor_o, DL.isBor_b, DL.isBor_c, DL.isBor_s, DL.tru_b, DL.lst_dl, 
  DL.rd_dl, DL.lst_o, DL.rd_o, DL.lst_b, DL.rd_b, DL.seq_dl, DL.seq_dt, DL.seq_o, DL.seq_b, DL.rd_s, DL.pd_d, DL.pd_o, DL.pd_b, DL.oI_T, DL.oEq_ssf, DL.oEq_ndf, DL.oEq_nof, 
  DL.oEq_nrf, DL.oEq_dnf, DL.oEq_bdf, DL.oEq_bof, DL.oEq_brf, DL.oEq_dbf, DL.oEq_idf, DL.oEq_iof, DL.oEq_irf, DL.oEq_dif, DL.oEq_ldf, DL.oEq_lof, DL.oEq_lrf, DL.oEq_dlf, DL.oEq_tdf, 
  DL.oEq_tof, DL.oEq_trf, DL.oEq_dtf, DL.oEq_kdf, DL.oEq_kof, DL.oEq_krf, DL.oEq_dkf, DL.oEq_odf, DL.oEq_oof, DL.oEq_orf, DL.oEq_dof, DL.oEq_rdf, DL.oEq_rof, DL.oEq_rrf, DL.oEq_drf, 
  DL.oEq_sst, DL.oEq_ndt, DL.oEq_not, DL.oEq_nrt, DL.oEq_dnt, DL.oEq_bdt, DL.oEq_bot, DL.oEq_brt, DL.oEq_dbt, DL.oEq_idt, DL.oEq_iot, DL.oEq_irt, DL.oEq_dit, DL.oEq_ldt, DL.oEq_lot, 
  DL.oEq_lrt, DL.oEq_dlt, DL.oEq_tdt, DL.oEq_tot, DL.oEq_trt, DL.oEq_dtt, DL.oEq_kdt, DL.oEq_kot, DL.oEq_krt, DL.oEq_dkt, DL.oEq_odt, DL.oEq_oot, DL.oEq_ort, DL.oEq_dot, DL.oEq_rdt, 
  DL.oEq_rot, DL.oEq_rrt, DL.oEq_drt, DL.oI_i, DL.oC_i, DL.oAdd_i, DL.oAdd_s, DL.oAdd_t, DL.oAdd_ll, DL.oAdd_lo, DL.oAdd_lb, DL.oAdd_ol, 
  DL.oAdd_oo, DL.oAdd_ob, DL.oAdd_bl, DL.oAdd_bo, DL.oAdd_bb, DL.oMul_i, DL.oMul_l, DL.oMul_o, DL.oMul_b, DL.oNeg_i, DL.oIsN_nnf, DL.oIsN_if, DL.oIsN_bf, DL.oIsN_sf, DL.oIsN_tf, DL.oIsN_lf, DL.oIsN_of, DL.oIsN_rf, DL.oIsN_nnt, DL.oIsN_it, DL.oIsN_bt, 
  DL.oIsN_st, DL.oIsN_tt, DL.oIsN_lt, DL.oIsN_ot, DL.oIsN_rt, DL.oIx_t, DL.oLen_t, DL.oIx_l, DL.oLen_l, DL.oIx_o, DL.oLen_o, DL.oIx_b, DL.oLen_b, 
  DL.oLen_s, DL.oLen_x, DL.oAbs_i, DL.oMax2_i, DL.oMin2_i, DL.oInt_i, DL.oInt_b, DL.oTuple_t, DL.oTuple_l, DL.oTuple_o, DL.oTuple_b, DL.oInts_l, DL.oInts_o, DL.oInts_b, 
  DL.oIsi_d, DL.oIsi_o, DL.oIsi_b, DL.oSl_t, DL.oSl_l, DL.oSl_o, DL.oSl_b, DL.oSl_s, DL.oBack_t, DL.oBack_l, DL.oBack_o, DL.oBack_b, List.map_cons, List.map_nil, List.length_cons, 
  List.length_nil, List.replicate_succ, List.replicate_zero, List.cons_append, List.nil_append, List.append_nil, DL.ge0, DL.ges, List.set_cons_zero, List.set_cons_succ, Nat.reduceAdd, 
  Nat.reduceSub, Nat.reduceLT, Option.map_some, Option.map_none, and_true, true_and, List.getElem?_nil, forall_const, Bool.not_true, Bool.not_false, DL.at0, DL.at1, DL.at2, DL.at3, DL.at4, DL.at5, 
  Int.toNat_natCast, Int.toNat_one, Int.toNat_zero, DL.all_nil', DL.tf_t, DL.tf_f, DL.tf1, DL.tf2, DL.tf3, DL.tf4]) | simp only [DL.oSl_tx, DL.oIx_tx, DL.oMaxHd_o, DL.oMaxHd_l, DL.oMaxHd_b, DL.mMkG, DL.eqv_lr, DL.eqv_rl, DL.eqv_ll, DL.eqv_rr, DL.oSortX_o, DL.oSortX_l, DL.mFld, DL.mMt, DL.mIEnumT, DL.enumD, DL.cp2, DL.pw2, DL.cp3, DL.pw3, DL.cp4, DL.pw4, DL.cp5, DL.pw5, DL.cp6, DL.pw6, DL.cp7, DL.pw7, DL.cp8, DL.pw8, DL.cp9, DL.pw9, DL.cp10, DL.pw10, DL.cp11, DL.pw11, DL.cp12, DL.pw12, DL.cp13, DL.pw13, DL.cp14, DL.pw14, DL.cp15, DL.pw15, DL.cp16, DL.pw16, DL.cp17, DL.pw17, DL.cp18, DL.pw18, DL.cp19, DL.pw19, DL.cp20, DL.pw20, DL.cp21, DL.pw21, DL.cp22, DL.pw22, DL.cp23, DL.pw23, DL.cp24, DL.pw24, DL.cp25, DL.pw25, DL.cp26, DL.pw26, DL.cp27, DL.pw27, DL.cp28, DL.pw28, DL.cp29, DL.pw29, DL.cp30, DL.pw30, DL.cp31, DL.pw31, DL.cp32, DL.pw32, DL.cp33, DL.pw33, DL.cp34, DL.pw34, DL.cp35, DL.pw35, DL.cp36, DL.pw36, DL.cp37, DL.pw37, DL.cp38, DL.pw38, DL.cp39, DL.pw39, DL.cp40, DL.pw40,
  DL.eqv_ii, DL.eqv_bb, DL.shaped_i, DL.shaped_b, DL.shaped_n, DL.shaped_nil, DL.shaped_nilt, DL.if_tt, DL.if_ff, decide_eq_true_eq, decide_eq_false_iff_not, Bool.not_eq_true', Bool.not_eq_false', Int.zero_add, Int.add_zero, ite_true, ite_false, eq_self_iff_true,
  DL.mIsi2, DL.num_i, DL.dct_ot, DL.dct_bt, DL.seen_lt, DL.isBor_lt, DL.keyD, DL.seen_ot, DL.seen_bt, DL.isBor_ot, DL.isBor_bt, DL.seen_k, DL.seen_bk, DL.seen_lk, DL.seen_bl, DL.seen_ld, DL.fix_k, DL.fix_bk, DL.isBor_k, DL.isBor_bk, DL.isBor_ld, DL.isObj_0, DL.isObj_s, DL.isObj_i, DL.key_i, DL.key_s, Bool.false_bne, Bool.true_bne, DL.dr_nil, DL.dr_n, DL.dr_d, DL.dr_c, DL.dr_o, DL.dr_b, DL.dr_r, DL.dr_s, DL.mRaise1, DL.seen_e, DL.isBor_e, DL.bodyD, DL.startD, DL.mSeq, DL.mNext, DL.mFrz, DL.mBreak, DL.mRet, DL.mDrop, DL.mIfS, DL.gN, DL.gsN, DL.gT, DL.mAsg, DL.mPar2, DL.mAug, 
  DL.mMut, DL.mutRun, DL.isOwnAt, DL.mSto, DL.mCall, DL.argsD, DL.mVar, DL.mC, DL.mRaw, DL.mBin, DL.mB, DL.mChain, DL.mAnd, DL.mOr, DL.mNot, DL.mAndV, DL.mNotV, 
  DL.mNil, DL.mCons, DL.mCB, DL.mTup, DL.mLst, DL.vals_nil, DL.vals_dc, DL.vals_oc, DL.vals_kc, DL.mIL, DL.mIT, DL.mR1, DL.mR2, DL.mR3, DL.mFor, DL.mForN, DL.mLc, DL.mLcN, DL.oLt, DL.oLe, DL.mUn, 
  DL.o1, DL.o2, DL.oSum, DL.mSl, DL.mPN, DL.mPS, DL.mYes, DL.uApp, DL.uExt, DL.val_odk, DL.oReprD, DL.wipeD, DL.seenD, DL.oSub_i, DL.val_d, DL.val_o, 
  DL.seen_d, DL.seen_o, DL.seen_b, DL.seen_c, DL.seen_s, DL.fix_d, DL.fix_o, DL.fix_b, DL.fix_c, DL.isBor_d, DL.isBor_o, DL.isBor_b, DL.isBor_c, DL.isBor_s, DL.tru_b, DL.lst_dl, 
  DL.rd_dl, DL.lst_o, DL.rd_o, DL.lst_b, DL.rd_b, DL.seq_dl, DL.seq_dt, DL.seq_o, DL.seq_b, DL.rd_s, DL.pd_d, DL.pd_o, DL.pd_b, DL.oI_T, DL.oEq_ssf, DL.oEq_ndf, DL.oEq_nof, 
  DL.oEq_nrf, DL.oEq_dnf, DL.oEq_bdf, DL.oEq_bof, DL.oEq_brf, DL.oEq_dbf, DL.oEq_idf, DL.oEq_iof, DL.oEq_irf, DL.oEq_dif, DL.oEq_ldf, DL.oEq_lof, DL.oEq_lrf, DL.oEq_dlf, DL.oEq_tdf, 
  DL.oEq_tof, DL.oEq_trf, DL.oEq_dtf, DL.oEq_kdf, DL.oEq_kof, DL.oEq_krf, DL.oEq_dkf, DL.oEq_odf, DL.oEq_oof, DL.oEq_orf, DL.oEq_dof, DL.oEq_rdf, DL.oEq_rof, DL.oEq_rrf, DL.oEq_drf, 
  DL.oEq_sst, DL.oEq_ndt, DL.oEq_not, DL.oEq_nrt, DL.oEq_dnt, DL.oEq_bdt, DL.oEq_bot, DL.oEq_brt, DL.oEq_dbt, DL.oEq_idt, DL.oEq_iot, DL.oEq_irt, DL.oEq_dit, DL.oEq_ldt, DL.oEq_lot, 
  DL.oEq_lrt, DL.oEq_dlt, DL.oEq_tdt, DL.oEq_tot, DL.oEq_trt, DL.oEq_dtt, DL.oEq_kdt, DL.oEq_kot, DL.oEq_krt, DL.oEq_dkt, DL.oEq_odt, DL.oEq_oot, DL.oEq_ort, DL.oEq_dot, DL.oEq_rdt, 
  DL.oEq_rot, DL.oEq_rrt, DL.oEq_drt, DL.oI_i, DL.oC_i, DL.oAdd_i, DL.oAdd_s, DL.oAdd_t, DL.oAdd_ll, DL.oAdd_lo, DL.oAdd_lb, DL.oAdd_ol, 
  DL.oAdd_oo, DL.oAdd_ob, DL.oAdd_bl, DL.oAdd_bo, DL.oAdd_bb, DL.oMul_i, DL.oMul_l, DL.oMul_o, DL.oMul_b, DL.oNeg_i, DL.oIsN_nnf, DL.oIsN_if, DL.oIsN_bf, DL.oIsN_sf, DL.oIsN_tf, DL.oIsN_lf, DL.oIsN_of, DL.oIsN_rf, DL.oIsN_nnt, DL.oIsN_it, DL.oIsN_bt, 
  DL.oIsN_st, DL.oIsN_tt, DL.oIsN_lt, DL.oIsN_ot, DL.oIsN_rt, DL.oIx_t, DL.oLen_t, DL.oIx_l, DL.oLen_l, DL.oIx_o, DL.oLen_o, DL.oIx_b, DL.oLen_b, 
  DL.oLen_s, DL.oLen_x, DL.oAbs_i, DL.oMax2_i, DL.oMin2_i, DL.oInt_i, DL.oInt_b, DL.oTuple_t, DL.oTuple_l, DL.oTuple_o, DL.oTuple_b, DL.oInts_l, DL.oInts_o, DL.oInts_b, 
  DL.oIsi_d, DL.oIsi_o, DL.oIsi_b, DL.oSl_t, DL.oSl_l, DL.oSl_o, DL.oSl_b, DL.oSl_s, DL.oBack_t, DL.oBack_l, DL.oBack_o, DL.oBack_b, List.map_cons, List.map_nil, List.length_cons, 
  List.length_nil, List.replicate_succ, List.replicate_zero, List.cons_append, List.nil_append, List.append_nil, DL.ge0, DL.ges, List.set_cons_zero, List.set_cons_succ, Nat.reduceAdd, 
  Nat.reduceSub, Nat.reduceLT, Option.map_some, Option.map_none, and_true, true_and, List.getElem?_nil, forall_const, Bool.not_true, Bool.not_false, DL.at0, DL.at1, DL.at2, DL.at3, DL.at4, DL.at5, 
  Int.toNat_natCast, Int.toNat_one, Int.toNat_zero, DL.all_nil', DL.tf_t, DL.tf_f, DL.tf1, DL.tf2, DL.tf3, DL.tf4])
local macro_rules | `(tactic| walk_at "db") => `(tactic| simp only [DL.bodyD, DL.startD, List.map_cons, List.map_nil, List.length_cons, List.length_nil, List.replicate_succ, List.replicate_zero, List.cons_append, List.nil_append, List.append_nil, Nat.reduceAdd, Nat.reduceSub])
namespace DL
open PySem PySem.Spec L2
def GhEq (N : List Str) (sc : Scope) (σ σ' : L2.St) : Prop := σ'.length = σ.length ∧ ∀ (i : Nat) (x : Str), N[i]? = some x → Vis sc x → σ'[i]? = σ[i]?
theorem GhEq.refl {N : List Str} {sc : Scope} {σ : L2.St} : GhEq N sc σ σ := ⟨rfl, fun _ _ _ _ => rfl⟩
theorem GhEq.symm {N : List Str} {sc : Scope} {σ σ' : L2.St} (h : GhEq N sc σ σ') : GhEq N sc σ' σ := ⟨h.1.symm, fun i x a b => (h.2 i x a b).symm⟩
theorem GhEq.trans {N : List Str} {sc : Scope} {σ σ' σ2 : L2.St} (h : GhEq N sc σ σ') (h' : GhEq N sc σ' σ2) : GhEq N sc σ σ2 := ⟨h'.1.trans h.1, fun i x a b => (h'.2 i x a b).trans (h.2 i x a b)⟩
section
variable {X : Cx} {pins : List (Addr × Obj)} {σ σ' : L2.St} {H : Hp} {s : Shared} {st : Stmt} {sts : List Stmt} {e : Expr} {es : List Expr} {t : TS}
theorem inv_gh (h : GhEq X.N X.env.scope σ σ') (I : Inv X pins σ H s) : Inv X pins σ' H s := by
  refine { I with loc := ?_, len := h.1.trans I.len }
  obtain ⟨m, hn, hl⟩ := I.loc
  exact ⟨m, hn, fun i x v e1 e2 e3 => hl i x v e1 (by rw [← h.2 i x e1 e3]; exact e2) e3⟩
theorem PSs.pre (h : PSs X sts t) : PSs X sts fun D σ H => ∃ σ', GhEq X.N X.env.scope σ σ' ∧ t D σ' H := ⟨fun pins s σ H D I q => by
  obtain ⟨σ', g, q⟩ := q
  exact h.run pins s σ' H D (inv_gh g I) q⟩
theorem PE.pre {t : TE} (h : PE X e t) : PE X e fun σ H Q => ∃ σ', GhEq X.N X.env.scope σ σ' ∧ t σ' H Q := ⟨fun pins s σ H Q I q => by
  obtain ⟨σ', g, q⟩ := q
  exact thn (h.run pins s σ' H Q (inv_gh g I) q) fun u s' ⟨v, H', I', r, q'⟩ => ⟨v, H', inv_gh g.symm I', r, q'⟩⟩
theorem PA.pre {t : TA} (h : PA X es t) : PA X es fun σ H Q => ∃ σ', GhEq X.N X.env.scope σ σ' ∧ t σ' H Q := ⟨fun pos pins s σ H Q I q => by
  obtain ⟨σ', g, q⟩ := q
  exact thn (h.run pos pins s σ' H Q (inv_gh g I) q) fun u s' ⟨v, H', I', r, q'⟩ => ⟨v, H', inv_gh g.symm I', r, q'⟩⟩
theorem PT.pre {t : TT} (h : PT X e t) : PT X e fun σ H Q => ∃ σ', GhEq X.N X.env.scope σ σ' ∧ t σ' H Q := ⟨fun pins s σ H Q I q => by
  obtain ⟨σ', g, q⟩ := q
  exact thn (h.run pins s σ' H Q (inv_gh g I) q) fun u s' ⟨H', I', q'⟩ => ⟨H', inv_gh g.symm I', q'⟩⟩
theorem PG.pre {t : TG} (h : PG X e t) : PG X e fun v σ H Q => ∃ σ', GhEq X.N X.env.scope σ σ' ∧ t v σ' H Q := ⟨fun pins s σ H v u Q I r q => by
  obtain ⟨σ', g, q⟩ := q
  exact h.run pins s σ' H v u Q (inv_gh g I) r q⟩
end
def keepI : Option DV → Option DV
  | some (.ins a nm fs) => some (.ins a nm fs)
  | _ => none
theorem Good.dropL {G : Gm} {F H : Hp} {A B : Env} {A' B' : L2.St} (hl : A.length = A'.length) (g : Good G F (A ++ B) (A' ++ B') H) : Good G F B B' H := by
  have up : ∀ {i : Nat} {x : DV}, B[i]? = some (some x) → (A ++ B)[A.length + i]? = some (some x) := fun {i x} e => by
    rw [List.getElem?_append_right (Nat.le_add_right _ _), Nat.add_sub_cancel_left]; exact e
  have dn : ∀ {i : Nat}, (A' ++ B')[A.length + i]? = B'[i]? := fun {i} => by
    rw [hl, List.getElem?_append_right (Nat.le_add_right _ _), Nat.add_sub_cancel_left]
  refine ⟨g.g, by have := g.len; simp at this; omega, g.f0, g.fh, g.fr, g.bh, g.cf, g.jh, fun i x e => ?_, fun i j x y l hx hy e1 e2 e3 e4 => ?_⟩
  · obtain ⟨v, e1, e2⟩ := g.sl _ x (up e)
    rw [dn] at e1
    exact ⟨v, e1, e2⟩
  · have := g.di (A.length + i) (A.length + j) x y l hx hy (up e1) (up e2) (by rw [dn]; exact e3) (by rw [dn]; exact e4)
    omega
section
variable {G : Gm} {F F' H H' : Hp} {A O O2 T R2 : Env} {A' gs gs2 T' Rv : L2.St} {u : Nat}
end
end DL
namespace DL
open PySem PySem.Spec L2
abbrev MFO := List DV → Env → (DV → Env → Prop) → (DExc → Env → Prop) → Prop
abbrev ME2 := XD → Env → (DV → Env → Prop) → Prop
abbrev MA2 := XD → Env → (List DV → Env → Prop) → Prop
abbrev MT2 := XD → Env → (Bool → Env → Prop) → Prop
def liftM2 (X : Cx) (W : WC) (u : Nat) (m : ME2) : TE := fun σ H Q => ∃ (ex : XD) (G : Gm) (F : Hp) (δ τ : Env) (ts : L2.St) (τ1 : Env) (ts1 : L2.St) (R : DV → Env → Prop), Now X.K X.mg W u ex G F δ σ τ ts τ1 ts1 H ∧ m ex δ R ∧
  ∀ r δ', R r δ' → ∀ v σ' F' H', GhEq X.N X.env.scope σ σ' → δ'.length = δ.length → (NoBor δ → NoBor δ') → Good (G.up u) F' (δ' ++ τ ++ τ1 ++ [some r]) (σ' ++ ts ++ ts1 ++ [some v]) H' → Q v H'
def liftA2 (X : Cx) (W : WC) (u : Nat) (m : MA2) : TA := fun σ H Q => ∃ (ex : XD) (G : Gm) (F : Hp) (δ τ : Env) (ts : L2.St) (τ1 : Env) (ts1 : L2.St) (R : List DV → Env → Prop), Now X.K X.mg W u ex G F δ σ τ ts τ1 ts1 H ∧ m ex δ R ∧
  ∀ rs δ', R rs δ' → ∀ (vs : List V) σ' F' H', rs.length = vs.length → GhEq X.N X.env.scope σ σ' → δ'.length = δ.length → (NoBor δ → NoBor δ') → Good (G.up u) F' (δ' ++ τ ++ τ1 ++ rs.map some) (σ' ++ ts ++ ts1 ++ vs.map some) H' → Q vs H'
def liftT2 (X : Cx) (W : WC) (u : Nat) (m : MT2) : TT := fun σ H Q => ∃ (ex : XD) (G : Gm) (F : Hp) (δ τ : Env) (ts : L2.St) (τ1 : Env) (ts1 : L2.St) (R : Bool → Env → Prop), Now X.K X.mg W u ex G F δ σ τ ts τ1 ts1 H ∧ m ex δ R ∧
  ∀ r δ', R r δ' → ∀ σ' F' H', GhEq X.N X.env.scope σ σ' → δ'.length = δ.length → (NoBor δ → NoBor δ') → Good (G.up u) F' (δ' ++ τ ++ τ1) (σ' ++ ts ++ ts1) H' → Q r H'
structure DO2 (X : Cx) (W : WC) (e : Expr) (m : ME2) (u : Nat) : Prop where
  pe : PE X e (liftM2 X W u m)
structure DAO (X : Cx) (W : WC) (es : List Expr) (m : MA2) (u : Nat) : Prop where
  pa : PA X es (liftA2 X W u m)
structure DTO (X : Cx) (W : WC) (e : Expr) (m : MT2) (u : Nat) : Prop where
  pt : PT X e (liftT2 X W u m)
section
variable {X : Cx} {W : WC} {e o : Expr} {es : List Expr} {pos p apos : Pos} {u u1 u2 u3 : Nat} {me : ME} {me2 m2' : ME2} {mas : MA} {mao : MA2} {mt : MT} {mt2 : MT2}
theorem Now.moved {ex : XD} {G : Gm} {F F' : Hp} {δ δ' τ τ1 : Env} {σ σ' ts ts1 : L2.St} {H H' : Hp} {rs : Env} {vs : L2.St} (n : Now X.K X.mg W (u1 + u2) ex G F δ σ τ ts τ1 ts1 H) (hg : GhEq X.N X.env.scope σ σ') (hd : δ'.length = δ.length) (g : Good (G.up u1) F' (δ' ++ τ ++ τ1 ++ rs) (σ' ++ ts ++ ts1 ++ vs) H') :
    Now X.K X.mg W u2 ex (G.up u1) F' δ' σ' τ ts (τ1 ++ rs) (ts1 ++ vs) H' := ⟨n.k, by rw [hd, hg.1]; exact n.l1, n.l2, by rw [← List.append_assoc (δ' ++ τ), ← List.append_assoc (σ' ++ ts)]; exact g,
  fun b F δ σ H τ1 ts1 e cls d hb h1 h2 h3 h4 => n.link (u1 + b) F δ σ H τ1 ts1 e cls d (Nat.add_le_add_left hb _) h1 (by rw [← up_up]; exact h2) h3 h4, n.ck.1, by have := n.ck.2; show G.n + u1 + u2 ≤ G.lim; omega⟩
end
end DL
namespace DL
open PySem PySem.Spec L2
def getV (f : Str) : List (Str × FV) → Option FV
  | [] => none
  | (g, x) :: r => if g = f then some x else getV f r
def putV (f : Str) (x : FV) : List (Str × FV) → List (Str × FV)
  | [] => [(f, x)]
  | (g, y) :: r => if g = f then (g, x) :: r else (g, y) :: putV f x r
def fvD : FV → DV
  | .d x => .d x
  | .r a => .raw (.ref a)
theorem AtFs.get {K : PySem.W.Frag} {F : Hp} {f : Str} {x : FV} : ∀ {vs : List (Str × V)} {fs : List (Str × FV)}, AtFs K F vs fs → getV f fs = some x → ∃ v, vs.lookup f = some v ∧ AtF K F v x ∧ ∃ p ∈ vs, p.1 = f
  | _, _, .nil, e => by cases e
  | _, _, @AtFs.cons _ _ g v r y ys h t, e => by
    unfold getV at e
    split at e
    · rename_i q
      cases e
      subst q
      exact ⟨v, by simp [List.lookup], h, _, List.mem_cons_self .., rfl⟩
    · rename_i q
      obtain ⟨w, e1, e2, p, hp, e3⟩ := AtFs.get t e
      exact ⟨w, by rw [List.lookup_cons, show (f == g) = false from beq_eq_false_iff_ne.mpr (Ne.symm q)]; exact e1, e2, p, List.mem_cons_of_mem _ hp, e3⟩
theorem AtFs.put {K : PySem.W.Frag} {F : Hp} {f : Str} {v : V} {x : FV} (hx : AtF K F v x) : ∀ {vs : List (Str × V)} {fs : List (Str × FV)}, AtFs K F vs fs → AtFs K F (putF f v vs) (putV f x fs)
  | _, _, .nil => .cons hx .nil
  | _, _, @AtFs.cons _ _ g w r y ys h t => by
    unfold putF putV
    by_cases q : g = f
    · rw [if_pos q, if_pos q]; exact .cons hx t
    · rw [if_neg q, if_neg q]; exact .cons h (AtFs.put hx t)
theorem AtFs.len {K : PySem.W.Frag} {F : Hp} : ∀ {vs : List (Str × V)} {fs : List (Str × FV)}, AtFs K F vs fs → vs.length = fs.length
  | _, _, .nil => rfl
  | _, _, .cons _ t => by rw [List.length_cons, List.length_cons, AtFs.len t]
section
variable {X : Cx} {W : WC} {e o : Expr} {es : List Expr} {pos p apos : Pos} {u u1 u2 u3 : Nat} {me : ME} {me2 : ME2} {mas : MA} {f : Str}
structure DCon (K : PySem.W.Frag) (nm f : Str) (c : PyData) : Prop where
  ex : ∃ C v u, ObjC K nm C ∧ Con K C f v u ∧ ∀ F, At K F v c
structure DNo (K : PySem.W.Frag) (nm f : Str) : Prop where
  ex : ∃ C, ObjC K nm C ∧ NoAttr K C f
end
def spO (K : PySem.W.Frag) (mg : Str → Option Value) (CK : CKT) (u n g : Nat) (mf : MFO) : Sp := fun vs H Q E => vs.length = n ∧ ∃ (G : Gm) (F : Hp) (as : List DV) (os : Env) (gs : L2.St) (R : DV → Env → Prop) (ex : DExc → Env → Prop), G.K = K ∧ (CK G.C G.cv G.J G.lim ∧ G.n + u ≤ G.lim) ∧ as.length = vs.length ∧ (∀ x ∈ as, x.arg = true) ∧ os.length = g ∧ gs.length = g ∧ os.map keepI = os ∧
  Good G F (as.map some ++ os) (vs.map some ++ gs) H ∧ mf as os R ex ∧
  (∀ r os', R r os' → r.arg = true → os'.length = g → ∀ v gs' F' H', gs'.length = g → Good (G.up u) F' (os' ++ [some r]) (gs' ++ [some v]) H' → Q v H') ∧
  (∀ e os', ex e os' → os'.length = g → ∀ b gs' cls d F' H', b ≤ u → gs'.length = g → Good (G.up b) F' os' gs' H' → ExcAt K mg F' H' e cls d → E cls d H')
structure DFnO (P : Program) (w : World) (K : PySem.W.Frag) (mg : Str → Option Value) (base : Heap) (CK : CKT) (x : Str) (k u n g : Nat) (mf : MFO) : Prop where
  ex : ∃ f fd ps, mg x = some (.ref f) ∧ PySem.W.keepIn K (.ref f) = true ∧ Binds K fd ps [] ∧ ps.length = n ∧ FnG P w K mg base k f fd ps (spO K mg CK u n g mf)
structure DMtO (P : Program) (w : World) (K : PySem.W.Frag) (mg : Str → Option Value) (base : Heap) (CK : CKT) (nm m : Str) (k u n g : Nat) (mf : MFO) : Prop where
  ex : ∃ C f fd ps, ObjC K nm C ∧ Meth K C m f ∧ Binds K fd ps [] ∧ ps.length = n ∧ FnG P w K mg base k f fd ps (spO K mg CK u n g mf)
structure GhN (N : List Str) (sc : Scope) (g : Nat) : Prop where
  le : g ≤ N.length
  no : ∀ (i : Nat) (x : Str), N.length - g ≤ i → N[i]? = some x → ¬ Vis sc x
section
variable {P : Program} {w : World} {K : PySem.W.Frag} {mg : Str → Option Value} {base : Heap} {g : Nat}
theorem spO_le {u u' n : Nat} {CK : CKT} {mf : MFO} (hu : u ≤ u') (vs : List V) (H : Hp) (Q : VK) (E : XK) (q : spO K mg CK u' n g mf vs H Q E) : spO K mg CK u n g mf vs H Q E := by
  obtain ⟨q1, G, F, as, os, gs, R, ex, q2, q3, q4, q5, q6, q7, q8, q9, q10, q11, q12⟩ := q
  exact ⟨q1, G, F, as, os, gs, R, ex, q2, ⟨q3.1, Nat.le_trans (Nat.add_le_add_left hu _) q3.2⟩, q4, q5, q6, q7, q8, q9, q10, fun r os' hr ha hl v gs' F' H' hg k => q11 r os' hr ha hl v gs' F' H' hg (k.mono hu), fun e os' he hl b gs' cls d F' H' hb => q12 e os' he hl b gs' cls d F' H' (Nat.le_trans hb hu)⟩
theorem DFnO.le {x : Str} {k u u' n : Nat} {mf : MFO} {CK : CKT} (h : DFnO P w K mg base CK x k u n g mf) (hu : u ≤ u') : DFnO P w K mg base CK x k u' n g mf := by
  obtain ⟨f, fd, ps, h1, h2, h3, h4, h5⟩ := h
  exact ⟨f, fd, ps, h1, h2, h3, h4, h5.imp (spO_le hu)⟩
theorem DMtO.le {nm x : Str} {k u u' n : Nat} {mf : MFO} {CK : CKT} (h : DMtO P w K mg base CK nm x k u n g mf) (hu : u ≤ u') : DMtO P w K mg base CK nm x k u' n g mf := by
  obtain ⟨f, fd, ps, h1, h2, h3, h4, h5, h6⟩ := h
  exact ⟨f, fd, ps, h1, h2, h3, h4, h5, h6.imp (spO_le hu)⟩
end
section
variable {X : Cx} {W : WC} {e o : Expr} {es : List Expr} {pos p apos : Pos} {u u1 u2 u3 j k n g : Nat} {me : ME} {me2 : ME2} {mas : MA} {mao : MA2} {x nm m : Str} {mf : MFO}
end
end DL
namespace DL
open PySem PySem.Spec L2
section
variable {X : Cx} {W : WC} {e o : Expr} {es : List Expr} {pos p apos : Pos} {u u1 u2 u3 j k n g : Nat} {me : ME} {me2 : ME2} {mas : MA} {mao : MA2} {x nm m : Str} {mf : MFO}
structure DPrO (P : Program) (w : World) (K : PySem.W.Frag) (mg : Str → Option Value) (base : Heap) (CK : CKT) (nm m : Str) (k u g : Nat) (mf : MFO) : Prop where
  ex : ∃ C p f fd ps, ObjC K nm C ∧ PropOf K C m p f ∧ Binds K fd ps [] ∧ ps.length = 1 ∧ FnG P w K mg base k f fd ps (spO K mg CK u 1 g mf)
end
end DL
namespace DL
open PySem PySem.Spec L2
structure DMkO (P : Program) (w : World) (K : PySem.W.Frag) (mg : Str → Option Value) (base : Heap) (CK : CKT) (nm : Str) (k u n g : Nat) (mf : MFO) : Prop where
  ex : ∃ C fI fd ps, mg nm = some (.ref C) ∧ Mk K C fI ∧ ObjC K nm C ∧ FnG P w K mg base k fI fd ps (spO K mg CK u (n + 1) g mf) ∧ Binds K fd ps [] ∧ ps.length = n + 1
section
variable {X : Cx} {W : WC} {e o : Expr} {es : List Expr} {pos p apos : Pos} {u u1 u2 u3 j k n g i : Nat} {me : ME} {me2 : ME2} {mas : MA} {mao : MA2} {x nm m : Str} {mf : MFO}
end
def gsV : List MG → List FV → Env → (Env → Prop) → Prop
  | [], [], δ, R => R δ
  | g :: gs, d :: ds, δ, R => g (fvD d) δ fun δ' => gsV gs ds δ' R
  | _, _, _, _ => False
def liftGsV (K : PySem.W.Frag) (dom : List Nat) (gs : List MG) : TGs := fun vs σ H Q => ∃ (G : Gm) (F : Hp) (δ τ : Env) (ts : L2.St) (ds : List FV) (R : Env → Prop), G.K = K ∧ δ.length = σ.length ∧ τ.length = ts.length ∧ Good G F (δ ++ τ) (σ ++ ts) H ∧ AtFl G.K F vs ds ∧ gsV gs ds δ R ∧
  ∀ δ', R δ' → ∀ σ' F' H', δ'.length = δ.length → σ'.length = σ.length → (∀ j, j ∉ dom → σ'[j]? = σ[j]?) → (NoBor δ → NoBor δ') → Good G F' (δ' ++ τ) (σ' ++ ts) H' → Q σ' H'
structure DGsV (X : Cx) (tgs : List Expr) (dom : List Nat) (gs : List MG) : Prop where
  pgs : PGs X tgs (liftGsV X.K dom gs)
theorem AtFl.length {K : PySem.W.Frag} {F : Hp} : ∀ {vs : List V} {ds : List FV}, AtFl K F vs ds → vs.length = ds.length
  | _, _, .nil => rfl
  | _, _, .cons _ h => by rw [List.length_cons, List.length_cons, AtFl.length h]
section
variable {X : Cx} {e : Expr} {pos : Pos} {dom : List Nat} {mg : MG}
theorem AtL.fl {K : PySem.W.Frag} {F : Hp} : ∀ {vs : List V} {ds : List PyData}, AtL K F vs ds → AtFl K F vs (ds.map .d)
  | _, _, .nil => .nil
  | _, _, .cons h t => .cons (.d h) (AtL.fl t)
end
end DL
namespace DL
open PySem PySem.Spec L2
structure DSpO (P : Program) (w : World) (K : PySem.W.Frag) (mg : Str → Option Value) (base : Heap) (CK : CKT) (nm m : Str) (k u g : Nat) (mf : MFO) : Prop where
  ex : ∃ C f fd ps, ObjC K nm C ∧ PySem.W.findIn K (.ref C) m = some (some (.ref f)) ∧ PySem.W.isFn K (.ref f) = true ∧ Binds K fd ps [] ∧ ps.length = 1 ∧ FnG P w K mg base k f fd ps (spO K mg CK u 1 g mf)
section
variable {X : Cx} {W : WC} {e o : Expr} {es : List Expr} {pos p apos : Pos} {u u1 u2 u3 j k n g : Nat} {me : ME} {mas : MA} {x nm m : Str} {mf : MFO}
structure SInst (K : PySem.W.Frag) (C : Addr) (m : Str) (p f : Addr) : Prop where
  ic : PySem.W.isClsIn K C = true
  at_ : PySem.W.findIn K (.ref C) m = some (some (.ref p))
  ty : PySem.W.typeIn K (.ref p) = some (.type "staticmethod")
  get : PySem.W.specialIn K (.ref p) "__get__" = some (some (.builtin "staticmethod.__get__"))
  tk : PySem.W.takesIn K (.ref p) = some false
  cp : PySem.W.copiedNames.contains m = false
  rc : ∃ rest, PySem.W.recIn K p "staticmethod" = some (.ref f :: rest)
  kp : PySem.W.keepIn K (.ref f) = true
structure DSmO (P : Program) (w : World) (K : PySem.W.Frag) (mg : Str → Option Value) (base : Heap) (CK : CKT) (nm m : Str) (k u n : Nat) (mf : MF) : Prop where
  ex : ∃ C p f fd ps, ObjC K nm C ∧ SInst K C m p f ∧ Binds K fd ps [] ∧ ps.length = n ∧ FnG P w K mg base k f fd ps (spD K mg CK u n mf)
end
end DL
namespace DL
open PySem PySem.Spec L2
structure DMtB (K : PySem.W.Frag) (nm m : Str) : Prop where
  gf : ∀ C g, ObjC K nm C → Meth K C m g → PySem.W.specialIn K (.ref g) "__get__" = some (some (.builtin "function.__get__")) ∧ PySem.W.takesIn K (.ref g) = some false ∧ PySem.W.fnIn K g = true
  cp : PySem.W.copiedNames.contains m = false
section
variable {X : Cx} {W : WC} {e o : Expr} {es : List Expr} {pos p apos : Pos} {u u1 u2 u3 j k n g : Nat} {me mv : ME} {me2 : ME2} {mas : MA} {mao : MA2} {x nm m : Str} {mf : MFO}
end
structure DMtD (P : Program) (w : World) (K : PySem.W.Frag) (mg : Str → Option Value) (base : Heap) (CK : CKT) (nm m : Str) (k u n g : Nat) (dd : List PyData) (mf : MFO) : Prop where
  ex : ∃ C f fd ps ds dvs, ObjC K nm C ∧ Meth K C m f ∧ Binds K fd ps ds ∧ Vals dvs ds ∧ (∀ F, AtL K F dvs dd) ∧ ps.length = n ∧ FnG P w K mg base k f fd ps (spO K mg CK u n g mf)
section
variable {X : Cx} {W : WC} {o : Expr} {pos p apos : Pos} {u1 u2 j k n g : Nat} {me : ME} {nm m : Str} {mf : MFO} {dd : List PyData}
end
end DL
namespace DL
open PySem PySem.Spec L2
section
variable {X : Cx} {pos : Pos} {t : TGs} {e1 e2 : Expr} {es : List Expr} {k : Nat}
end
end DL
namespace DL
open PySem PySem.Spec PyProof.Rows L2
section
variable {X : Cx} {W : WC} {k u1 u2 : Nat} {pos : Pos}
end
end DL
namespace DL
open PySem PySem.Spec L2 StX
def spOS (K : PySem.W.Frag) (mg : Str → Option Value) (CK : CKT) (u g : Nat) (mf : MFO) : Sp := fun vs H Q E => spO K mg CK u vs.length g mf vs H Q E
structure DMtOS (P : Program) (w : World) (K : PySem.W.Frag) (mg : Str → Option Value) (base : Heap) (CK : CKT) (nm m : Str) (k u g : Nat) (mf : MFO) : Prop where
  ex : ∃ C f, ObjC K nm C ∧ Meth K C m f ∧ FnS P w K mg base k f (spOS K mg CK u g mf)
section
variable {P : Program} {w : World} {K : PySem.W.Frag} {mg : Str → Option Value} {base : Heap} {g : Nat}
end
section
variable {X : Cx} {W : WC} {e o : Expr} {es : List Expr} {pos p apos : Pos} {u u1 u2 u3 j k g : Nat} {me : ME} {me2 : ME2} {mas : MA} {mao : MA2} {x nm m : Str} {mf : MFO}
end
end DL
namespace DL
open PySem PySem.Spec L2
section
variable {X : Cx} {W : WC} {pos : Pos} {x : Str} {a b c : Expr} {u1 : Nat} {mao : MA2}
end
section
variable {X : Cx} {W : WC} {pos pos2 p1 ap cp : Pos} {y : Str} {a tg : Expr} {u1 : Nat} {ma : ME} {dom : List Nat} {mg : MG}
end
end DL
namespace DL
open PySem PySem.Spec L2
section
variable {δ O : Env} {x y z : Option DV} {a b : Addr} {nm f : Str} {fs : List (Str × FV)} {d : PyData} {xs : List PyData} {v : V} {ks : List (PyData × PyData)} {w : FV}
theorem keepI_n : keepI none = none := rfl
theorem keepI_i : keepI (some (.ins a nm fs)) = some (.ins a nm fs) := rfl
theorem omap_s {α β : Type} {f : α → β} {x : α} : Option.map f (some x) = some (f x) := rfl
theorem omap_n {α β : Type} {f : α → β} : Option.map f (none : Option α) = none := rfl
theorem fvD_d : fvD (.d d) = .d d := rfl
theorem fvD_r : fvD (.r a) = .raw (.ref a) := rfl
theorem fix_raw : DV.fix (.raw v) = .raw v := rfl
theorem fix_fvs {t : Bool} {us : List FV} : DV.fix (.fvs t us) = .fvs t us := rfl
theorem isBor_raw : DV.isBor (.raw v) = false := rfl
theorem seen_raw : DV.seen (.raw v) = .raw v := rfl
theorem seen_i : DV.seen (.ins a nm fs) = .raw (.ref a) := rfl
theorem isBor_i : DV.isBor (.ins a nm fs) = false := rfl
theorem isBor_fvs {t : Bool} {us : List FV} : DV.isBor (.fvs t us) = false := rfl
theorem argsD_raw {us : List DV} : argsD (.raw v :: us) = match argsD us with
  | some as => some (.raw v :: as)
  | none => none := by
  conv => lhs; unfold argsD
  cases argsD us <;> rfl
theorem argsD_c {us : List DV} : argsD (.cask :: us) = match argsD us with
  | some as => some (.cask :: as)
  | none => none := by
  conv => lhs; unfold argsD
  cases argsD us <;> rfl
theorem vals_rc {us : List DV} : vals (.raw v :: us) = none := rfl
end
end DL
local macro_rules | `(tactic| walk_at "dyb") => `(tactic| simp only [List.map_cons, List.map_nil, List.length_cons, List.length_nil, List.replicate_succ, List.replicate_zero, List.cons_append, List.nil_append, List.append_nil, Nat.reduceAdd, Nat.reduceSub])
local macro_rules | `(tactic| walk_at "dyo") => `(tactic| simp only [DL.mSeq, DL.mNext, DL.mIfS, DL.mB, DL.mNot, DL.mAnd, DL.mOr, DL.mVar, DL.mCons, DL.mNil, DL.mC, DL.gsV, DL.gN, DL.keepI_n, DL.keepI_i, DL.fvD_d, DL.fvD_r, DL.fix_raw, DL.fix_fvs, DL.isBor_raw, DL.seen_raw, DL.seen_i, DL.isBor_i, DL.isBor_fvs, DL.argsD_raw, DL.argsD_c, DL.vals_rc, DL.seen_d, DL.seen_o, DL.seen_c, DL.fix_d, DL.fix_o, DL.isBor_d, DL.isBor_o, DL.isBor_c, DL.vals_nil, DL.vals_dc, DL.vals_oc, List.map_cons, List.map_nil, List.length_cons, List.length_nil, List.replicate_succ, List.replicate_zero, List.cons_append, List.nil_append, List.append_nil, List.set_cons_zero, List.set_cons_succ, List.getElem?_nil, DL.at0, DL.at1, DL.at2, DL.at3, DL.at4, DL.at5, DL.ge0, DL.ges, Nat.reduceAdd, Nat.reduceSub, Nat.reduceLT, Nat.reduceLeDiff, Nat.le_refl, and_true, true_and, forall_const, ite_true, eq_self_iff_true, DL.omap_s, DL.omap_n])
local macro_rules | `(tactic| walk_at "dy") => `(tactic| first | (walk_at "dyo"; try walk_at "dx") | walk_at "dx")
namespace DL
open PySem PySem.Spec L2 PySem.W
section
variable {G : Gm} {F F' H H' : Hp} {B D : Env} {B' D' : L2.St}
end
def E1s (K : Frag) (mg : Str → Option Value) (L : List Str) (tE : DExc → (DV → Prop) → Prop) (Q : VK) : XK := fun cls d H' => ∃ (G : Gm) (F : Hp) (er : DExc) (R : DV → Prop), ExcAt K mg F H' er cls d ∧ er.cls ∈ L ∧ G.K = K ∧ G.n ≤ G.lim ∧ Good G F [] [] H' ∧ tE er R ∧
  ∀ r, R r → r.arg = true → ∀ v F' H'', Good G F' [some r] [some v] H'' → Q v H''
def TTs (K : Frag) (mg : Str → Option Value) (L : List Str) (tE : DExc → (DV → Prop) → Prop) : (XK → Hp → VK → Prop) → Hp → VK → Prop := fun tl H Q => ∀ (E' : XK) (Q' : VK), (∀ cls d H', E1s K mg L tE Q cls d H' → E' cls d H') → (∀ v H3, Q v H3 → Q' v H3) → tl E' H Q'
section
variable {K : Frag} {mg : Str → Option Value} {L : List Str} {sub : Str → Str → Bool} {xn : Str} {tE : DExc → (DV → Prop) → Prop} {ms : Addr → Addr → Option Addr → MS}
end
open LamX
structure DTried (P : Program) (w : World) (K : Frag) (mg : Str → Option Value) (base : Heap) (L : List Str) (x : Str) (k : Nat) (tE : DExc → (DV → Prop) → Prop) : Prop where
  ex : ∃ (g : Addr) (oc : Value) (od an : Option Addr) (pg : Arguments) (bg : List Stmt) (sg : Scope) (dV kV doc pm cdv ct : Value) (osl : Array (Option Value)) (Ng : List Str) (a : Str),
    mg x = some (.ref g) ∧ keepIn K (.ref g) = true ∧ K.lookup g = some ⟨oc, od, .func (fnOf x x pg bg sg dV kV doc pm an cdv ct), osl⟩ ∧ codeIn K cdv x = true ∧ L2.Binds K (fnOf x x pg bg sg dV kV doc pm an cdv ct) [a] [] ∧
    FnScope Ng [a] sg ∧ Ng[0]? = some a ∧ Vis sg a ∧ (a == ("__debug__" : Str)) = false ∧ (a == ("__classdict__" : Str)) = false ∧
    ∀ (A : Around) (stack : List PySem.Env) (q : Str), A.guards = some [] → Room k A → GivesD P w K mg base A stack Ng x sg g cdv bg a q (TTs K mg L tE)
section
variable {X : Cx} {W : WC} {L : List Str} {x : Str} {tE : DExc → (DV → Prop) → Prop} {P c : Addr} {T : List (Addr × Str)} {params : Arguments} {body : Expr} {scope : Scope} {p lpos pos : Pos} {m : ME2} {j k k2 u g : Nat}
end
section
variable {X : Cx} {W : WC} {pos p : Pos} {u u2 j k g : Nat} {x : Str} {mf : MFO}
end
section
variable {g : Nat} {δ : Env} {x y : Option DV} {d : PyData} {v : V} {a : Addr} {nm : Str} {fs : List (Str × FV)} {z : Option PyData}
theorem dr_m : dropO [z.map DV.d] = [z.map DV.d] := by cases z <;> rfl
theorem dr1_n : dropO [none] = [none] := rfl
theorem dr1_d : dropO [some (.d d)] = [some (.d d)] := rfl
theorem dr1_c : dropO [some .cask] = [some .cask] := rfl
theorem dr1_r : dropO [some (.raw v)] = [some (.raw v)] := rfl
theorem dr1_o {xs : List PyData} : dropO [some (.own xs)] = [none] := rfl
theorem arg_d : DV.arg (.d d) = true := rfl
theorem arg_r : DV.arg (.raw v) = true := rfl
end
section
variable {X : Cx} {W : WC} {u1 u2 : Nat} {e1 e2 : Expr} {m1 m2 : ME} {x1 x2 : Str} {j1 j2 : Nat} {p1 p2 pos : Pos}
end
section
variable {X : Cx} {W : WC} {e a b : Expr} {rest : List Expr} {m ma mb : ME2} {u u1 u2 g : Nat} {pos : Pos}
end
end DL
local macro_rules | `(tactic| walk_at "dyq") => `(tactic| simp only [DL.num_i, DL.dr_m, DL.dr1_n, DL.dr1_d, DL.dr1_c, DL.dr1_r, DL.dr1_o, DL.arg_d, DL.arg_r, DL.keepI_i, DL.keepI_n, List.cons_append, List.nil_append, true_and, and_true])
namespace DL
open PySem PySem.Spec L2 PySem.W LamX
section
variable {P : Program} {w : World} {K : Frag} {mg mb : Str → Option Value} {k : Nat} {fa a : Addr} {Ts : List (Addr × Addr)} {fd : FuncData} {x : Str} {sp : Sp} {s₁ : Shared} {vs : List Value} {ns : List Int}
end
section
variable {P : Program} {w : World} {K : PySem.W.Frag} {mg : Str → Option Value} {base : Heap} {g : Nat}
end
end DL
namespace DL
open PySem PySem.Spec L2 PyProof.Rows GenW
def cutH (h : Heap) (n : Nat) : Heap := { h with objs := h.objs.extract 0 n }
def cutS (s : Shared) (n : Nat) : Shared := { s with heap := cutH s.heap n }
section
variable {h : Heap} {n b : Nat} {o : Obj}
theorem cut_idx (hb : b < n) : (cutH h n).objs[b]? = h.objs[b]? := by
  unfold cutH
  simp only [Array.getElem?_extract]
  split
  · congr 1; omega
  · rename_i c
    have : h.objs.size ≤ b := by omega
    rw [Array.getElem?_eq_none this]
theorem cut_get (hb : b < n) : (cutH h n).get? b = h.get? b := by
  unfold Heap.get?
  rw [cut_idx hb]
theorem cut_size (hn : n ≤ h.objs.size) : (cutH h n).objs.size = n := by
  unfold cutH
  simp only [Array.size_extract]
  omega
theorem cut_le : (cutH h n).objs.size ≤ n := by
  unfold cutH
  simp only [Array.size_extract]
  omega
theorem of_cut (e : (cutH h n).get? b = some o) : b < n ∧ h.get? b = some o := by
  have hb : b < n := Nat.lt_of_lt_of_le (Heap.lt_size e) cut_le
  rw [cut_get hb] at e
  exact ⟨hb, e⟩
end
@[reducible] def atE (X : Cx) (v : Shared) (H : Hp) : Cx := { X with s_0 := v, H_0 := H, xe := fun _ _ => False }
abbrev Po := Addr × Obj
abbrev WkT := Nat → Hp → Gm → Hp → Hp → Shared → List Po → Shared → Prop
structure Awake (X : Cx) (W : WC) (Fy : Hp) (G : Gm) (F H : Hp) (v : Shared) (pr : List Po) (s : Shared) : Prop where
  sm : Same Fy F
  g : Good G F [] [] H
  k : G.K = X.K
  ck : W.ck G.C G.cv G.J G.lim ∧ G.n ≤ G.lim
  ok : (atE X v H).Ok
  os : s.os = v.os
  bare : AllBare s.gens
  keep : ∀ b o, v.heap.get? b = some o → s.heap.get? b = some o
  hok : HOk X.prog X.w H s.heap
  ob : ∀ p ∈ pr, s.heap.get? p.1 = some p.2 ∧ H p.1 = none ∧ p.1 ∉ X.fs
  yg : ∀ p ∈ pr, v.heap.objs.size ≤ p.1
theorem wake_inv {X : Cx} {W : WC} {Fy : Hp} {G : Gm} {F H H₀ : Hp} {v v₀ : Shared} {pr ip : List Po} {s s₀ : Shared} {σ : L2.St} {lo : Obj} (a : Awake X W Fy G F H v pr s) {H₁ : Hp} (I : Inv (atE X v₀ H₀) ip σ H₁ s₀) (hc : ∀ x, X.env.cells.lookup x = none)
    (hl : s₀.heap.get? X.env.locals = some lo) (hm : (X.env.locals, lo) ∈ pr) (hp : ∀ p ∈ X.pn ++ ip, p ∈ pr) : Inv (atE X v H) ip σ H s := by
  obtain ⟨l1, l2, l3⟩ := a.ob _ hm
  refine ⟨a.ok, a.os, a.bare, Un.kept a.keep, ?_, fun x c e => ?_, l2, fun x c e => ?_, fun p q => ?_, a.hok, I.len⟩
  · obtain ⟨m, ⟨o, es, ep, ho, r⟩, look⟩ := I.loc
    have ho' : s₀.heap.get? X.env.locals = some o := ho
    rw [hl] at ho'
    cases ho'
    refine ⟨m, ⟨_, es, ep, l1, r⟩, fun i x w e1 e2 e3 => ?_⟩
    obtain ⟨u, h1, h2⟩ := look i x w e1 e2 e3
    refine ⟨u, h1, ?_⟩
    rcases h2 with h2 | ⟨_, c, e, _⟩
    · exact .inl h2
    · rw [show (atE X v₀ H₀).env.cells.lookup x = X.env.cells.lookup x from rfl, hc x] at e
      cases e
  · rw [show (atE X v H).env.cells.lookup x = X.env.cells.lookup x from rfl, hc x] at e
    cases e
  · rw [show (atE X v H).env.cells.lookup x = X.env.cells.lookup x from rfl, hc x] at e
    cases e
  · obtain ⟨q1, q2, q3⟩ := a.ob p (hp p q)
    obtain ⟨_, _, q4, _, q5⟩ := I.pin p q
    exact ⟨q1, q2, q4, q3, q5⟩
structure GP where
  X : Cx
  W : WC
  Wk : WkT
  out : List PyData
  okP : Prop
  Er : Value → Shared → Prop
  A : Around
structure GP.Ok (p : GP) : Prop where
  aw : ∀ j Fy G F H v pr s, p.Wk j Fy G F H v pr s → Awake p.X p.W Fy G F H v pr s
  nc : ∀ x, p.X.env.cells.lookup x = none
  ex : p.X.ex = []
  calm : p.X.calm = true
structure Left (P : Program) (w : World) (fs : List Addr) (H₀ : Hp) (v : Shared) (pr : List Po) (H : Hp) (s : Shared) : Prop where
  os : s.os = v.os
  bare : AllBare s.gens
  un : Un fs [] H₀ H v.heap s.heap
  hok : HOk P w H s.heap
  ob : ∀ q ∈ pr, s.heap.get? q.1 = some q.2 ∧ H q.1 = none ∧ q.1 ∉ fs ∧ v.heap.objs.size ≤ q.1 ∧ ∀ z, q.2.data ≠ .cell z
def GP.Y (p : GP) : Protocol := fun n s₀ u s kap => ∃ j Fy G F₀ H₀ v pr₀, j + n = p.out.length ∧ p.Wk j Fy G F₀ H₀ v pr₀ s₀ ∧ p.okP ∧ ∃ d x F H pr, p.out[j]? = some d ∧ RelV x u ∧ Good (G.into F₀ H₀) F [some (.d d)] [some x] H ∧ Left p.X.prog p.X.w p.X.fs H₀ v pr H s ∧ (∀ q ∈ p.X.pn, q ∈ pr) ∧
  ∀ G' F' H' v' s', p.Wk (j + 1) F G' F' H' v' pr s' → kap (.send .none) s' ∧ kap (.send (.int 0 0)) s'
def GP.R (p : GP) : GenEnd := fun _ s₀ r s => ((r = .ok (.ret .none) ∨ r = .ok .next) ∧ ∃ j Fy G F₀ H₀ v pr₀, j = p.out.length ∧ p.Wk j Fy G F₀ H₀ v pr₀ s₀ ∧ p.okP ∧ ∃ F H, Good (G.into F₀ H₀) F [] [] H ∧ Left p.X.prog p.X.w p.X.fs H₀ v p.X.pn H s) ∨ ∃ e, r = .error e ∧ p.Er e s
abbrev GP.Sg (p : GP) (n : Nat) (s₀ : Shared) (c : Code) (t : Sem PySem.Fin) (fs : List Frame) (s : Shared) : Prop := Seg (model p.X.prog p.X.w) p.A p.R p.Y n s₀ c t fs s
def sleepy (δ : Env) : Bool := δ.all fun x => match x with
  | none => true
  | some (.d _) => true
  | some (.raw _) => true
  | _ => false
theorem sleepy_get {δ : Env} {i : Nat} {x : DV} (h : sleepy δ = true) (e : δ[i]? = some (some x)) : (∃ d, x = .d d) ∨ ∃ u, x = .raw u := by
  have := List.all_eq_true.mp h _ (List.mem_of_getElem? e)
  cases x with
  | d d => exact .inl ⟨d, rfl⟩
  | raw u => exact .inr ⟨u, rfl⟩
  | _ => cases this
theorem sleepy_app {A B : Env} (h1 : sleepy A = true) (h2 : sleepy B = true) : sleepy (A ++ B) = true := by
  unfold sleepy at *
  rw [List.all_append, h1, h2]; rfl
theorem Good.woken {G G' : Gm} {F F' H H' : Hp} {δ : Env} {σ : L2.St} (g : Good G F δ σ H) (hs : sleepy δ = true) (sm : Same F F') (g' : Good G' F' [] [] H') (hK : G'.K = G.K) : Good (G'.into F' H') F' δ σ H' := by
  refine ⟨⟨g'.g.js, g'.g.jm, g'.g.jn, fun q c => g'.g.jn _ H' g'.jh q c, g'.g.jt⟩, g.len, Same.refl F', g'.fh, fun q a b => absurd b a, fun q u _ e => e, g'.cf, g'.jh, fun i x e => ?_, fun i j x y l hx _ e1 _ _ _ => ?_⟩
  · obtain ⟨u, e1, h⟩ := g.sl i x e
    refine ⟨u, e1, ?_⟩
    rcases sleepy_get hs e with ⟨d, rfl⟩ | ⟨w, rfl⟩
    · show At (G'.into F' H').K F' u d
      have h : At G.K F u d := h
      rw [show (G'.into F' H').K = G.K from hK]
      exact At.mono sm _ _ h
    · exact h
  · rcases sleepy_get hs e1 with ⟨d, rfl⟩ | ⟨w, rfl⟩ <;> cases hx
structure Rn (p : GP) (n j : Nat) (s₀ : Shared) (ip : List Po) (τ : Env) (ts : L2.St) (G : Gm) (F₀ H₀ : Hp) (v : Shared) (δ : Env) (σ : L2.St) (F H : Hp) (s : Shared) : Prop where
  wk : ∃ Fy pr₀, p.Wk j Fy G F₀ H₀ v pr₀ s₀
  cnt : j + n = p.out.length + 1
  inv : Inv (atE p.X v H₀) ip σ H s
  yg : ∀ q ∈ p.X.pn ++ ip, v.heap.objs.size ≤ q.1
  g : Good (G.into F₀ H₀) F (δ ++ τ) (σ ++ ts) H
  nb : NoBor (δ ++ τ)
  l1 : δ.length = σ.length
  l2 : τ.length = ts.length
  sl : sleepy τ = true
structure GnE where
  nx : Nat → Env → Prop
  bk : Nat → Env → Prop := fun _ _ => False
  ct : Nat → Env → Prop := fun _ _ => False
  out : List PyData
  ok : Prop
abbrev MGn := GnE → Nat → Env → Prop
def GnE.fl (D : GnE) (j : Nat) (δ : Env) : Flow → Prop
  | .next => D.nx j δ
  | .brk => D.bk j δ
  | .cont => D.ct j δ
  | .ret _ => False
structure CtG (p : GP) (c : Code) (fs : List Frame) (gd : Bool → Bool) : Prop where
  over : p.A.over c fs = p.X.A
  split : splitAtGen fs = none
  guard : fs.any Frame.guarded = false
  gd : gd false = false
def KG (p : GP) (c : Code) (fs : List Frame) (K : Flow → Sem PySem.Fin) (D : GnE) (ip : List Po) (τ : Env) (ts : L2.St) : Prop :=
  ∀ n j s₀ G F₀ H₀ v δ σ F H s f, Rn p n j s₀ ip τ ts G F₀ H₀ v δ σ F H s → D.fl j δ f → p.Sg n s₀ c (K f) fs s
structure DY (X : Cx) (W : WC) (st : Stmt) (m : MGn) : Prop where
  run : ∀ (p : GP), p.X = X → p.W = W → p.Ok → ∀ c fs gd lv K J ip τ ts (D : GnE), (D.out = p.out ∧ D.ok = p.okP) → CtG p c fs gd → KG p c fs K D ip τ ts → ∀ n j s₀ G F₀ H₀ v δ σ F H s, Rn p n j s₀ ip τ ts G F₀ H₀ v δ σ F H s → m D j δ →
    p.Sg n s₀ c ((exec st X.env).wrap K J gd lv) fs s
structure DYs (X : Cx) (W : WC) (st : List Stmt) (m : MGn) : Prop where
  run : ∀ (p : GP), p.X = X → p.W = W → p.Ok → ∀ c fs gd lv K J ip τ ts (D : GnE), (D.out = p.out ∧ D.ok = p.okP) → CtG p c fs gd → KG p c fs K D ip τ ts → ∀ n j s₀ G F₀ H₀ v δ σ F H s, Rn p n j s₀ ip τ ts G F₀ H₀ v δ σ F H s → m D j δ →
    p.Sg n s₀ c ((execs st X.env).wrap K J gd lv) fs s
def GnE.at (D : GnE) (j : Nat) : DEnds := { nx := D.nx j, ct := D.ct j, bk := D.bk j, rt := fun _ => False, ro := fun _ _ => False }
section
variable {X : Cx} {W : WC} {st : Stmt} {rest : List Stmt}
theorem rn_now {p : GP} {n j : Nat} {s₀ s : Shared} {ip : List Po} {τ : Env} {ts : L2.St} {G : Gm} {F₀ H₀ F H : Hp} {v : Shared} {δ : Env} {σ : L2.St} (ok : p.Ok) (r : Rn p n j s₀ ip τ ts G F₀ H₀ v δ σ F H s) : Now p.X.K p.X.mg p.W 0 ex0 (G.into F₀ H₀) F δ σ τ ts [] [] H := by
  obtain ⟨Fy, pr₀, hw⟩ := r.wk
  have a := ok.aw _ _ _ _ _ _ _ _ hw
  exact ⟨a.k, r.l1, r.l2, by simpa using r.g, fun _ _ _ _ _ _ _ _ _ _ _ _ _ _ z => z.elim, a.ck⟩
def mG0 : MGn := fun D j δ => D.nx j δ
theorem dys_nil : DYs X W [] mG0 := by
  refine ⟨fun p hX hW ok c fs gd lv K J ip τ ts D ho cg kk n j s₀ G F₀ H₀ v δ σ F H s r q => ?_⟩
  exact seg_execs_nil (kk n j s₀ G F₀ H₀ v δ σ F H s .next r q)
def mGSeq (a b : MGn) : MGn := fun D j δ => a { D with nx := b D } j δ
theorem dys_cons {a b : MGn} (h1 : DY X W st a) (h2 : DYs X W rest b) : DYs X W (st :: rest) (mGSeq a b) := by
  refine ⟨fun p hX hW ok c fs gd lv K J ip τ ts D ho cg kk n j s₀ G F₀ H₀ v δ σ F H s r q => ?_⟩
  refine seg_execs_cons ?_
  refine h1.run p hX hW ok c fs gd lv _ J ip τ ts { D with nx := b D } ho cg (fun n j s₀ G F₀ H₀ v δ σ F H s f r q => ?_) n j s₀ G F₀ H₀ v δ σ F H s r q
  cases f with
  | next => exact h2.run p hX hW ok c fs gd lv K J ip τ ts D ho cg kk n j s₀ G F₀ H₀ v δ σ F H s r q
  | brk => exact kk n j s₀ G F₀ H₀ v δ σ F H s .brk r q
  | cont => exact kk n j s₀ G F₀ H₀ v δ σ F H s .cont r q
  | ret u => exact q.elim
theorem dys_one {a : MGn} (h1 : DY X W st a) : DYs X W [st] (mGSeq a mG0) := dys_cons h1 dys_nil
def mGYield (me : ME) : MGn := fun D j δ => D.ok ∧ ∃ d, D.out[j]? = some d ∧ me ex0 δ fun r => r = .d d ∧ sleepy δ = true ∧ D.nx (j + 1) δ
theorem dy_yield {e : Expr} {yp pos : Pos} {me : ME} (h : ∀ v H, DE (atE X v H) W e me 0) (hco : X.env.scope.isCoroutine = false := by rfl) (hi : interactive X.env = false := by rfl) : DY X W (.Expr (.Yield (some e) yp) pos) (mGYield me) := by
  refine ⟨fun p hX hW ok c fs gd lv K J ip τ ts D ho cg kk n j s₀ G F₀ H₀ v δ σ F H s r q => ?_⟩
  subst hX hW
  obtain ⟨hok, d, hd, hq⟩ := q
  have nw := rn_now ok r
  have post : wpAny (model p.X.prog p.X.w) p.X.A (eval e p.X.env) (fun u s' => ∃ x H', Inv (atE p.X v H₀) ip σ H' s' ∧ RelV x u ∧ ∃ F', sleepy δ = true ∧ D.nx (j + 1) δ ∧ Good (G.into F₀ H₀) F' (δ ++ τ ++ [] ++ [some (.d d)]) (σ ++ ts ++ [] ++ [some x]) H') (fun _ _ => False) s := by
    refine wpAny_mono ((h v H₀).pe.run ip s σ H (fun x H' => ∃ F', sleepy δ = true ∧ D.nx (j + 1) δ ∧ Good (G.into F₀ H₀) F' (δ ++ τ ++ [] ++ [some (.d d)]) (σ ++ ts ++ [] ++ [some x]) H') r.inv ⟨ex0, G.into F₀ H₀, F, δ, τ, ts, [], [], _, nw, hq, fun y hy u F' H' g' => ?_⟩) (fun u s' z => ?_) fun _ _ z => z
    · obtain ⟨rfl, h2, h3⟩ := hy
      exact ⟨F', h2, h3, g'⟩
    · obtain ⟨x, H', I', rv, z'⟩ := z
      exact ⟨x, H', I', rv, z'⟩
  cases n with
  | zero =>
    have := (List.getElem?_eq_some_iff.mp hd).1
    have := r.cnt
    rw [ho.1] at *
    omega
  | succ n =>
    refine seg_Expr_Yield cg.split cg.gd cg.guard ?_ hco hi
    rw [cg.over]
    refine wpAny_mono post (fun u s' hv => ?_) fun _ _ z => z.elim
    obtain ⟨x, H1, I1, rv, F1, hs, hnx, g1⟩ := hv
    intro kap hk
    obtain ⟨Fy, pr₀, hw⟩ := r.wk
    have a := ok.aw _ _ _ _ _ _ _ _ hw
    obtain ⟨m, ⟨lo, es, ep, hlo, hdat⟩, look⟩ := id I1.loc
    have hfs : ∀ b ∈ p.X.fs, b < v.heap.objs.size := fun b hb => by
      obtain ⟨_, o, e1, _⟩ := a.ok.funs.mem hb
      exact Heap.lt_size e1
    have hgd : Good (G.into F₀ H₀) F1 (δ ++ τ) (σ ++ ts) H1 := by simpa using g1.pop
    refine ⟨j, Fy, G, F₀, H₀, v, pr₀, by have := r.cnt; omega, hw, by rw [← ho.2]; exact hok, d, x, F1, H1, (p.X.env.locals, lo) :: (p.X.pn ++ ip), by rw [← ho.1]; exact hd, rv, ?_, ⟨I1.os, I1.bare, ?_, I1.hok, fun q hq => ?_⟩, fun q hq => by simp [hq], fun G' F' H' v' s'' hw' => ?_⟩
    · have := Good.dropL (A := δ ++ τ ++ []) (A' := σ ++ ts ++ []) (by simp [r.l1, r.l2]) g1
      exact this
    · have := I1.base
      rw [show (atE p.X v H₀).ex = [] from ok.ex] at this
      exact this
    · rcases List.mem_cons.mp hq with rfl | hq
      · refine ⟨hlo, I1.free, fun hb => ?_, a.ok.above, fun z e => by rw [hdat.1] at e; cases e⟩
        have := hfs _ hb
        have := a.ok.above
        exact absurd (show p.X.env.locals < p.X.env.locals by first | omega | exact Nat.lt_of_lt_of_le ‹_› ‹_›) (Nat.lt_irrefl _)
      · obtain ⟨q1, q2, _, q4, q5⟩ := I1.pin q hq
        exact ⟨q1, q2, q4, r.yg q hq, q5⟩
    · have a' := ok.aw _ _ _ _ _ _ _ _ hw'
      refine (fun q => ⟨hk .none s'' q, hk (.int 0 0) s'' q⟩ : p.Sg n s'' c (K .next) fs s'' → _) ?_
      refine kk n (j + 1) s'' G' F' H' v' δ σ F' H' s'' .next ⟨⟨_, _, hw'⟩, by have := r.cnt; omega, ?_, fun q hq => a'.yg q (List.mem_cons_of_mem _ hq), ?_, r.nb, r.l1, r.l2, r.sl⟩ hnx
      · exact wake_inv a' I1 ok.nc hlo List.mem_cons_self fun q hq => List.mem_cons_of_mem _ hq
      · exact hgd.woken (sleepy_app hs r.sl) a'.sm a'.g (by rw [a'.k]; exact a.k.symm)
end
end DL
namespace DL
open PySem PySem.Spec L2 PyProof.Rows GenW
def ItAll (K : PySem.W.Frag) (it : DIt) (ts : List V) (J : It) : Prop := ∀ G : Gm, G.K = K → ItOk G it ts J
def liftIy (K : PySem.W.Frag) (mg : Str → Option Value) (W : WC) (m : MI) : TI := fun σ H Q => ∃ (ex : XD) (G : Gm) (F : Hp) (δ τ : Env) (ts : L2.St) (τ1 : Env) (ts1 : L2.St) (R : DIt → Prop), Now K mg W 0 ex G F δ σ τ ts τ1 ts1 H ∧ m ex δ R ∧
  ∀ it, R it → ∀ (vs : List V) F' H' J, it.tmp.length = vs.length → Good G F' (δ ++ τ ++ τ1 ++ it.tmp.map some) (σ ++ ts ++ ts1 ++ vs.map some) H' → ItAll K it vs J → Q J H'
structure DIy (X : Cx) (W : WC) (tg e : Expr) (m : MI) : Prop where
  pi : PI X tg e (liftIy X.K X.mg W m)
section
variable {X : Cx} {W : WC} {tg e a b : Expr} {me : ME} {mas : MA} {elts : List Expr} {kk : Nat} {tpos p pos : Pos}
theorem diy_range2 (hg : Gl X "range") (hm : X.mg "range" = none) (ha : DA X W [a, b] mas 0) (hs : starEach [a, b] X.env = [(false, eval a X.env), (false, eval b X.env)] := by rfl) (hs2 : starEach [b] X.env = [(false, eval b X.env)] := by rfl) : DIy X W tg (.Call (.Name "range" p) [a, b] [] pos) (mR2 mas) :=
  ⟨PI.imp (pi_range2 hg hm ha.pa hs hs2) fun σ H Q q => by
    obtain ⟨ex, G, F, δ, τ, ts, τ1, ts1, R, n, m, k⟩ := q
    refine ⟨ex, G, F, δ, τ, ts, τ1, ts1, _, n, m, fun xs hxs vs F1 H1 hl g1 => ?_⟩
    match xs, hxs, hl, g1 with
    | [.d (.int i), .d (.int j)], hxs, hl, g1 =>
      obtain ⟨h1, hR⟩ := hxs
      obtain ⟨v, u, rfl, hv, hu, g⟩ := two_of hl g1
      cases int_of hv
      cases int_of hu
      have g0 : Good G F1 (δ ++ τ ++ τ1) (σ ++ ts ++ ts1) H1 := g
      exact ⟨i, j, rfl, h1, k _ hR [] F1 H1 _ rfl (by simpa using g0) fun G2 _ => itr_ok G2 i (j - i).toNat⟩⟩
end
def forGn (g : MG) (b : MGn) (D : GnE) : List PyData → Nat → Env → Prop
  | [], j, δ => D.nx j δ
  | d :: ds, j, δ => g (.d d) δ fun δ' => b { D with nx := forGn g b D ds, ct := forGn g b D ds, bk := D.nx } j δ'
def mGFor (mi : MI) (g : MG) (b : MGn) : MGn := fun D j δ => mi ex0 δ fun it => (∀ x ∈ it.tmp, ∃ d, x = .d d) ∧ forGn g b D it.items j δ
structure ItS (p : GP) (ip : List Po) (fp : List Addr) : Prop where
  nl : ∀ b ∈ fp, b ≠ p.X.env.locals
  nf : ∀ b ∈ fp, b ∉ p.X.fs
  np : ∀ b ∈ fp, ∀ q ∈ p.X.pn ++ ip, q.1 ≠ b
theorem fp_ok {p : GP} {ip : List Po} {fp : List Addr} {v : Shared} {H₀ H : Hp} (ok : p.Ok) (S : ItS p ip fp) (h1 : ∀ b ∈ fp, H b = none) (h2 : ∀ b ∈ fp, v.heap.objs.size ≤ b) : ∀ b ∈ fp, FpOk (atE p.X v H₀) ip H b := fun b hb =>
  ⟨h1 b hb, S.nl b hb, S.nf b hb, .inr (h2 b hb), fun x c e => (by rw [show (atE p.X v H₀).env.cells.lookup x = p.X.env.cells.lookup x from rfl, ok.nc x] at e; cases e), S.np b hb⟩
theorem ctg_loop {p : GP} {c c' : Code} {fs : List Frame} {gd : Bool → Bool} {k : Result → Sem PySem.Fin} {l kp : List Value} {pp : Pos} (g : CtG p c fs gd) (hw : c'.weight = 0) (hu : c'.cUnits = 0) : CtG p c' (.ret k none (gd false) l c pp kp :: fs) id where
  over := (over_loop hw hu).trans g.over
  split := by
    show Option.map _ (splitAtGen fs) = none
    rw [g.split]; rfl
  guard := by
    show (gd false || fs.any Frame.guarded) = false
    rw [g.gd, g.guard]; rfl
  gd := rfl
section
variable {X : Cx} {W : WC} {tg e : Expr} {body : List Stmt} {pos : Pos} {mi : MI} {mg : MG} {mb : MGn} {dom : List Nat}
theorem dy_for (hi : ∀ v H, DIy (atE X v H) W tg e mi) (hg : ∀ v H, DG (atE X v H) tg dom mg) (hb : DYs X W body mb) (hs : ∀ x, foldedSetIterable e X.env x = pure x := by intro _; rfl) : DY X W (.For tg e body [] pos) (mGFor mi mg mb) := by
  refine ⟨fun p hX hW ok c fs gd lv K J ip τ ts D ho cg kk n j s₀ G F₀ H₀ v δ σ F H s r q => ?_⟩
  subst hX hW
  rw [exec_For]
  refine seg_at ?_
  show p.Sg n s₀ c ((eval e p.X.env >>= fun x => foldedSetIterable e p.X.env x >>= fun y => standAt e.pos >>= fun _ => holding [y] (pyIter y) >>= fun itv => runOwn (.forLoop tg itv body [] p.X.env) p.X.env).wrap K J gd lv) fs s
  refine seg_bind_wrap ?_
  rw [cg.over]
  have lift : liftIy p.X.K p.X.mg p.W mi σ H fun J' H' => ∃ (it : DIt) (vs : List V) (F' : Hp), (∀ x ∈ it.tmp, ∃ d, x = DV.d d) ∧ forGn mg mb D it.items j δ ∧ it.tmp.length = vs.length ∧ Good (G.into F₀ H₀) F' (δ ++ (τ ++ it.tmp.map some)) (σ ++ (ts ++ vs.map some)) H' ∧ ItAll p.X.K it vs J' :=
    ⟨ex0, G.into F₀ H₀, F, δ, τ, ts, [], [], _, rn_now ok r, q, fun it h vs F' H' J' hl g' ia => ⟨it, vs, F', h.1, h.2, hl, by simpa only [List.append_nil, List.append_assoc] using g', ia⟩⟩
  refine wpAny_mono ((hi v H₀).pi.run ip s σ H _ r.inv lift) (fun x s1 h1 => ?_) fun _ _ z => z.elim
  refine seg_bind_wrap (wpAny_of_eq (hs x) ?_)
  refine seg_bind_wrap (wpAny_standAt ?_)
  refine seg_bind_wrap (wpAny_holding ?_)
  rw [cg.over]
  refine wpAny_mono h1 (fun itv s2 h2 => ?_) fun _ _ z => z.elim
  obtain ⟨ia, fp, tn, J', H', rfl, I2, T, st2, f2, it, vs, F', htmp, hrun, hl, g2, iall⟩ := h2
  refine seg_call (k := fun r => ((match r with | .ok f => (.pure f : Sem Flow) | .error e => .raise e).onRaise (cameBack p.X.env)).wrap K J gd lv) fun pp => ?_
  have S : ItS p ip fp := ⟨fun b hb => (f2 b hb).2.1, fun b hb => (f2 b hb).2.2.1, fun b hb => (f2 b hb).2.2.2.2.2⟩
  have yg2 : ∀ b ∈ fp, v.heap.objs.size ≤ b := fun b hb => by
    rcases (f2 b hb).2.2.2.1 with z | z
    · rw [show (atE p.X v H₀).ex = [] from ok.ex] at z; cases z
    · exact z
  have slt : sleepy (it.tmp.map some) = true := by
    unfold sleepy
    rw [List.all_map]
    exact List.all_eq_true.mpr fun x hx => by
      obtain ⟨d, rfl⟩ := htmp x hx
      rfl
  have nbt : NoBor (it.tmp.map some) := fun i x ex => by
    rw [List.getElem?_map] at ex
    cases q : it.tmp[i]? with
    | none => rw [q] at ex; cases ex
    | some y =>
      rw [q] at ex
      cases ex
      obtain ⟨d, rfl⟩ := htmp _ (List.mem_of_getElem? q)
      rfl
  have lt : (it.tmp.map some).length = (vs.map some).length := by simpa using hl
  have cg2 := fun (c' : Code) (hw : c'.weight = 0) (hu : c'.cUnits = 0) => ctg_loop (p := p) (c' := c') (k := fun r => ((match r with | .ok f => (.pure f : Sem Flow) | .error e => .raise e).onRaise (cameBack p.X.env)).wrap K J gd lv) (l := lv []) (kp := []) (pp := pp) cg hw hu
  have hl2 := r.l2
  have hsl := r.sl
  have hcut : ∀ {n j : Nat} {s₀ s : Shared} {G : Gm} {F₀ H₀ F H : Hp} {v : Shared} {δ : Env} {σ : L2.St}, Rn p n j s₀ ip (τ ++ it.tmp.map some) (ts ++ vs.map some) G F₀ H₀ v δ σ F H s → ∀ s', Inv (atE p.X v H₀) ip σ H s' → Rn p n j s₀ ip τ ts G F₀ H₀ v δ σ F H s' := fun r s' I =>
    ⟨r.wk, r.cnt, I, r.yg, Good.cut lt (by simpa only [List.append_assoc] using r.g), nb_left (B := it.tmp.map some) (by simpa only [List.append_assoc] using r.nb), r.l1, hl2, hsl⟩
  have loop : ∀ (rest : List PyData) (i n j : Nat) (s₀ : Shared) (G : Gm) (F₀ H₀ : Hp) (v : Shared) (δ : Env) (σ : L2.St) (F H : Hp) (s : Shared), it.items.drop i = rest → Rn p n j s₀ ip (τ ++ it.tmp.map some) (ts ++ vs.map some) G F₀ H₀ v δ σ F H s → tn i s.heap → (∀ b ∈ fp, H b = none) → (∀ b ∈ fp, v.heap.objs.size ≤ b) → forGn mg mb D rest j δ →
      p.Sg n s₀ (.forLoop tg (.ref ia) body [] p.X.env) ((model p.X.prog p.X.w).den (.forLoop tg (.ref ia) body [] p.X.env)) (.ret (fun r => ((match r with | .ok f => (.pure f : Sem Flow) | .error e => .raise e).onRaise (cameBack p.X.env)).wrap K J gd lv) none (gd false) (lv []) c pp [] :: fs) s := by
    intro rest
    induction rest with
    | nil =>
      intro i n j s₀ G F₀ H₀ v δ σ F H s hd r st h1 h2 hq
      obtain ⟨Fy, pr₀, hw⟩ := r.wk
      have aw := ok.aw _ _ _ _ _ _ _ _ hw
      have hlen : it.items.length ≤ i := by
        have := congrArg List.length hd
        rw [List.length_drop] at this
        simp at this
        omega
      have g3 : Good (G.into F₀ H₀) F ((δ ++ τ) ++ it.tmp.map some ++ []) ((σ ++ ts) ++ vs.map some ++ []) H := by simpa only [List.append_nil, List.append_assoc] using r.g
      have stop := ((iall (G.into F₀ H₀) aw.k) 0 i F (δ ++ τ) [] (σ ++ ts) [] H (by
        have h := r.l2
        simp at h
        simp
        have := r.l1
        omega) rfl g3).1 hlen
      show Seg _ _ _ _ n s₀ _ ((forTurn tg (.ref ia) body [] p.X.env).onRaise (fun x => do noteFrame x p.X.env; theTreesLotGoes x)) _ s
      rw [Sem.onRaise_eq_wrap]
      simp only [forTurn]
      refine seg_bind_wrap (wpAny_standAt ?_)
      refine seg_bind_wrap ?_
      rw [(cg2 (.forLoop tg (.ref ia) body [] p.X.env) rfl rfl).over]
      refine wpAny_onRaise (wpAny_mono (T.done (atE p.X v H₀) rfl rfl rfl ok.calm i ip s σ H (fun _ _ => False) r.inv (fp_ok ok S h1 h2) st stop) (fun o s1 hs1 => ?_) fun _ _ z => z.elim)
      obtain ⟨rfl, I1⟩ := hs1
      refine seg_again rfl ?_
      refine seg_leaf (.ok .next) ?_
      exact kk n j s₀ G F₀ H₀ v δ σ F H s1 .next (hcut r s1 I1) hq
    | cons d rest ih =>
      intro i n j s₀ G F₀ H₀ v δ σ F H s hd r st h1 h2 hq
      obtain ⟨Fy, pr₀, hw⟩ := r.wk
      have aw := ok.aw _ _ _ _ _ _ _ _ hw
      have hit : it.items[i]? = some d := by
        have := congrArg (fun l => l[0]?) hd
        simpa using this
      have hd' : it.items.drop (i + 1) = rest := by
        have := congrArg List.tail hd
        simpa using this
      have g3 : Good (G.into F₀ H₀) F ((δ ++ τ) ++ it.tmp.map some ++ []) ((σ ++ ts) ++ vs.map some ++ []) H := by simpa only [List.append_nil, List.append_assoc] using r.g
      have hAl : (δ ++ τ).length = (σ ++ ts).length := by
        have := r.l1
        simp
        omega
      obtain ⟨go, yl⟩ := ((iall (G.into F₀ H₀) aw.k) 0 i F (δ ++ τ) [] (σ ++ ts) [] H hAl rfl g3).2 d hit
      show Seg _ _ _ _ n s₀ _ ((forTurn tg (.ref ia) body [] p.X.env).onRaise (fun x => do noteFrame x p.X.env; theTreesLotGoes x)) _ s
      rw [Sem.onRaise_eq_wrap]
      simp only [forTurn]
      refine seg_bind_wrap (wpAny_standAt ?_)
      refine seg_bind_wrap ?_
      have cgl := cg2 (.forLoop tg (.ref ia) body [] p.X.env) rfl rfl
      rw [cgl.over]
      refine wpAny_onRaise (wpAny_mono (T.item (atE p.X v H₀) rfl rfl rfl ok.calm i ip s σ H (fun _ _ => False) r.inv (fp_ok ok S h1 h2) st go) (fun o s1 hs1 => ?_) fun _ _ z => z.elim)
      obtain ⟨u, rfl, hs1⟩ := hs1
      refine seg_bind_wrap ?_
      rw [cgl.over]
      refine wpAny_mono hs1 (fun _ s2 hs2 => ?_) fun _ _ z => z.elim
      obtain ⟨x, H2, I2, rv, hy, st2, hn2⟩ := hs2
      obtain ⟨F2, g4⟩ := yl x H2 hy
      have I3 := I2.pinned (fp_ok ok S hn2 h2) (T.obj _ _ st2)
      refine seg_bind_wrap ?_
      rw [cgl.over]
      have lg : liftG p.X.K dom mg x σ H2 fun σ' H' => ∃ δ' F', (NoBor δ → NoBor δ') ∧ δ'.length = σ'.length ∧ Good (G.into F₀ H₀) F' (δ' ++ (τ ++ it.tmp.map some)) (σ' ++ (ts ++ vs.map some)) H' ∧ mb { D with nx := forGn mg mb D rest, ct := forGn mg mb D rest, bk := D.nx } j δ' := by
        refine ⟨G.into F₀ H₀, F2, δ, τ ++ it.tmp.map some, ts ++ vs.map some, .d d, _, aw.k, r.l1, by simp [hl2, hl], ?_, hq, fun δ' h σ' F' H' k1 k2 _ k4 g' => ⟨δ', F', k4, by rw [k1, k2]; exact r.l1, g', h⟩⟩
        have g4' : Good (G.into F₀ H₀) F2 (δ ++ τ ++ it.tmp.map some ++ [] ++ [some (.d d)]) (σ ++ ts ++ vs.map some ++ [] ++ [some x]) H2 := g4
        simpa only [List.append_nil, List.append_assoc] using g4'
      refine wpAny_mono ((hg v H₀).pg.run (ip ++ pinsAt fp s2.heap) s2 σ H2 x u _ I3 rv lg) (fun _ s3 hs3 => ?_) fun _ _ z => z.elim
      obtain ⟨σ4, H4, I4, δ4, F4, nb4, l4, g5, hm⟩ := hs3
      rw [Sem.bind_eq_wrap', Sem.wrap_wrap]
      have yg3 : ∀ q ∈ p.X.pn ++ (ip ++ pinsAt fp s2.heap), v.heap.objs.size ≤ q.1 := fun q hq => by
        rcases List.mem_append.mp hq with z | z
        · exact r.yg q (List.mem_append_left _ z)
        rcases List.mem_append.mp z with z | z
        · exact r.yg q (List.mem_append_right _ z)
        · exact h2 _ (of_pinsAt z).1
      have nb5 : NoBor (δ4 ++ (τ ++ it.tmp.map some)) := nb_app (nb_mk (nb4 (nb_left r.nb)) (nb_left (nb_right r.nb))) nbt
      refine hb.run p rfl rfl ok (.forLoop tg (.ref ia) body [] p.X.env) _ _ _ _ _ (ip ++ pinsAt fp s2.heap) (τ ++ it.tmp.map some) (ts ++ vs.map some) { D with nx := forGn mg mb D rest, ct := forGn mg mb D rest, bk := D.nx } ho ⟨cgl.over, cgl.split, cgl.guard, rfl⟩ (fun n' j' s₀' G' F₀' H₀' v' δ' σ' F' H' s' f r' q' => ?_) n j s₀ G F₀ H₀ v δ4 σ4 F4 H4 s3 ⟨r.wk, r.cnt, I4, yg3, g5, nb5, l4, r.l2, r.sl⟩ hm
      have un : Rn p n' j' s₀' ip (τ ++ it.tmp.map some) (ts ++ vs.map some) G' F₀' H₀' v' δ' σ' F' H' s' := ⟨r'.wk, r'.cnt, r'.inv.unpinned, fun q hq => r'.yg q (by rcases List.mem_append.mp hq with z | z <;> simp [z]), r'.g, r'.nb, r'.l1, r'.l2, r'.sl⟩
      have at' : ∀ b ∈ fp, ∃ o, (b, o) ∈ p.X.pn ++ (ip ++ pinsAt fp s2.heap) ∧ s2.heap.get? b = some o := fun b hb => by
        obtain ⟨o, e, _⟩ := T.obj _ _ st2 b hb
        exact ⟨o, List.mem_append_right _ (List.mem_append_right _ (mem_pinsAt hb e)), e⟩
      have goOn : forGn mg mb D rest j' δ' → p.Sg n' s₀' (.forLoop tg (.ref ia) body [] p.X.env) (.pure (.again (.forLoop tg (.ref ia) body [] p.X.env))) (.ret (fun r => ((match r with | .ok f => (.pure f : Sem Flow) | .error e => .raise e).onRaise (cameBack p.X.env)).wrap K J gd lv) none (gd false) (lv []) c pp [] :: fs) s' := fun hq' => by
        refine seg_again rfl (ih (i + 1) n' j' s₀' G' F₀' H₀' v' δ' σ' F' H' s' hd' un (T.keep _ _ _ st2 fun b hb o e => ?_) (fun b hb => ?_) (fun b hb => ?_) hq')
        · obtain ⟨o', m', e'⟩ := at' b hb
          rw [e] at e'
          cases e'
          exact (r'.inv.pin _ m').1
        · obtain ⟨o', m', _⟩ := at' b hb
          exact (r'.inv.pin _ m').2.1
        · obtain ⟨o', m', _⟩ := at' b hb
          exact r'.yg _ m'
      cases f with
      | next => exact goOn q'
      | cont => exact goOn q'
      | brk =>
        refine seg_leaf (.ok .next) ?_
        exact kk n' j' s₀' G' F₀' H₀' v' δ' σ' F' H' s' .next (hcut un s' un.inv) q'
      | ret u => exact q'.elim
  refine loop it.items 0 n j s₀ G F₀ H₀ v δ σ F' H' s2 rfl ⟨r.wk, r.cnt, I2, r.yg, g2, ?_, r.l1, by simp [r.l2, hl], sleepy_app r.sl slt⟩ st2 (fun b hb => (f2 b hb).1) yg2 hrun
  rw [← List.append_assoc]
  exact nb_mk r.nb nbt
end
end DL
namespace DL
open PySem PySem.Spec L2 PyProof.Rows GenW
structure Gnd where
  P : Program
  w : World
  K : PySem.W.Frag
  mg : Str → Option Value
  base : Heap
  outer : List PySem.Env
  L : Nat
  ck : CKT
structure AwC (y : Gnd) (Fy : Hp) (G : Gm) (F H : Hp) (v : Shared) (pr : List Po) (s : Shared) : Prop where
  sm : Same Fy F
  g : Good G F [] [] H
  k : G.K = y.K
  ck : y.ck G.C G.cv G.J G.lim ∧ G.n ≤ G.lim
  bs : ∀ b o, y.base.get? b = some o → v.heap.get? b = some o ∧ H b = none
  bsz : y.base.objs.size ≤ v.heap.objs.size
  vsz : v.heap.objs.size ≤ y.L
  funs : v.heap.FunFrames y.base y.outer
  frf : ∀ b ∈ frs y.outer, H b = none
  os : s.os = v.os
  bare : AllBare s.gens
  keep : ∀ b o, v.heap.get? b = some o → s.heap.get? b = some o
  hok : HOk y.P y.w H s.heap
  ob : ∀ q ∈ pr, s.heap.get? q.1 = some q.2 ∧ H q.1 = none ∧ q.1 ∉ frs y.outer
  yg : ∀ q ∈ pr, v.heap.objs.size ≤ q.1
def CY (g : Gnd) (pn : List Po) (Wk : WkT) (out : List PyData) (okP : Prop) : Protocol := fun n s₀ u s kap => ∃ j Fy G F₀ H₀ v pr₀, j + n = out.length ∧ Wk j Fy G F₀ H₀ v pr₀ s₀ ∧ okP ∧ ∃ d x F H pr, out[j]? = some d ∧ RelV x u ∧ Good (G.into F₀ H₀) F [some (.d d)] [some x] H ∧ Left g.P g.w (frs g.outer) H₀ v pr H s ∧ (∀ q ∈ pn, q ∈ pr) ∧
  ∀ G' F' H' v' s', Wk (j + 1) F G' F' H' v' pr s' → kap (.send .none) s' ∧ kap (.send (.int 0 0)) s'
def XGen (K : PySem.W.Frag) (mg : Str → Option Value) (G : Gm) (Ex : DExc → Prop) : XK := fun cls d H' => ∃ e F', Ex e ∧ Good G F' [] [] H' ∧ ExcAt K mg F' H' e cls d
def CRgF (g : Gnd) (pn : List Po) (Wk : WkT) (out : List PyData) (okP : Prop) : Nat → Shared → Shared → Prop := fun _ s₀ s => ∃ j Fy G F₀ H₀ v pr₀, j = out.length ∧ Wk j Fy G F₀ H₀ v pr₀ s₀ ∧ okP ∧ ∃ F H, Good (G.into F₀ H₀) F [] [] H ∧ Left g.P g.w (frs g.outer) H₀ v pn H s
def CRgE (g : Gnd) (pn : List Po) (Wk : WkT) (Ex : DExc → Prop) : Value → Shared → Prop := fun e s => ∃ s₀ Fy G F₀ H₀ v pr₀, Wk 0 Fy G F₀ H₀ v pr₀ s₀ ∧ L2.CX g.P g.w g.outer H₀ v (XGen g.K g.mg (G.into F₀ H₀) Ex) e s ∧ ∀ q ∈ pn, s.heap.get? q.1 = some q.2
abbrev CRg (g : Gnd) (pn : List Po) (Wk : WkT) (out : List PyData) (okP : Prop) (Ex : DExc → Prop) : GenEnd := fun n s₀ r s => ((r = .ok (.ret .none) ∨ r = .ok .next) ∧ CRgF g pn Wk out okP n s₀ s) ∨ ∃ e, r = .error e ∧ CRgE g pn Wk Ex e s
def GenMade (g : Gnd) (k : Nat) (F H : Hp) (s : Shared) (R : List PyData → Prop) (ex : DExc → Prop) (u : Value) (s' : Shared) : Prop :=
  ∃ (a : Addr) (gi : Nat) (c : Code) (go : Obj) (pr : List Po), u = .ref a ∧ g.L < a ∧ a < s'.heap.objs.size ∧ (a, go) ∈ pr ∧ (∀ h : Heap, h.get? a = some go → h.IsGen a gi) ∧ s'.gens[gi]? = some (.fresh c) ∧ s'.os = s.os ∧ AllBare s'.gens ∧ (∀ b o, s.heap.get? b = some o → s'.heap.get? b = some o) ∧
    (∀ q ∈ pr, s'.heap.get? q.1 = some q.2 ∧ g.L ≤ q.1 ∧ ∀ z, q.2.data ≠ .cell z) ∧ ∃ out : List PyData,
    ∀ (A' : Around) (Wk : WkT), A'.guards = some [] → Room k A' → A'.frames = some g.outer → (∀ j Fy G F H v pr s, Wk j Fy G F H v pr s → AwC g Fy G F H v pr s) → ∀ G' F' H' v' s2, Wk 0 F G' F' H' v' pr s2 →
      Seg (model g.P g.w) A' (CRg g [(a, go)] Wk out (R out) ex) (CY g [(a, go)] Wk out (R out)) (out.length + 1) s2 c ((model g.P g.w).den c) [] s2
abbrev MG1 := List DV → (List PyData → Prop) → (DExc → Prop) → Prop
structure GenG (P : Program) (w : World) (K : PySem.W.Frag) (mg : Str → Option Value) (base : Heap) (CK : CKT) (k : Nat) (f : Addr) (fd : FuncData) (ps : List Str) (mf : MG1) : Prop where
  run : ∀ (A : Around) (outer : List PySem.Env) (s : Shared) (H : Hp) (args : Args) (us : List Value) (vs : List V) (G : Gm) (F : Hp) (as : List DV) (R : List PyData → Prop) (ex : DExc → Prop), A.guards = some [] → Room k A → Env0 P w K mg base A outer s H → BindsTo s fd args (ps.zip us) → Vals vs us → us.length = ps.length →
    G.K = K → (CK G.C G.cv G.J G.lim ∧ G.n ≤ G.lim) → as.length = vs.length → (∀ x ∈ as, x.arg = true) → sleepy (as.map some) = true → Good G F (as.map some) (vs.map some) H → mf as R ex →
    codeAny (model P w) A (.call (.ref f) args) (fun r s' => match r with | .ok (.ret u) => GenMade ⟨P, w, K, mg, base, outer, s.heap.objs.size, CK⟩ k F H s R ex u s' | _ => False) s
@[reducible] def gxE (P : Program) (w : World) (K : PySem.W.Frag) (mg : Str → Option Value) (base : Heap) (N : List Str) (qual : Str) (scope : Scope) (f : Addr) (cd : Value) (A : Around) (outer : List PySem.Env) (s : Shared) (E : XK) (pn : List Po) (v : Shared) (H : Hp) : Cx :=
  { gcxOf P w K mg base N qual scope f cd A outer s H E pn with
    s_0 := v
    xe := fun e s' => wpAny (model P w) (A.deeper (envOfC qual scope s.heap.objs.size f cd)) (leaving (envOfC qual scope s.heap.objs.size f cd) e) (fun _ s2 => L2.CX P w outer H v E e s2 ∧ ∀ q ∈ pn, s2.heap.get? q.1 = some q.2) (fun _ _ => False) s' }
section
variable {P : Program} {w : World} {K : PySem.W.Frag} {mg : Str → Option Value} {base : Heap} {N : List Str} {qual : Str} {scope : Scope} {f : Addr} {cd : Value} {A : Around} {outer : List PySem.Env} {s : Shared} {E : XK} {pn : List Po} {v : Shared} {H : Hp}
theorem takes_gxE : Takes (gxE P w K mg base N qual scope f cd A outer s E pn v H) (fun cls d _ H' => E cls d H') := fun u s' x =>
  XE.leaveG (X := gxE P w K mg base N qual scope f cd A outer s E pn v H) (W := fun cls d _ H' => E cls d H') (E := E) rfl rfl rfl (fun _ _ _ _ h => h) x
end
section
variable {P : Program} {w : World} {K : PySem.W.Frag} {mg : Str → Option Value} {base : Heap} {N ps : List Str} {qual : Str} {scope : Scope} {f : Addr} {cd : Value} {A : Around} {outer : List PySem.Env} {s : Shared} {E : XK} {pn : List Po} {CK : CKT}
theorem execs_app (a b : List Stmt) (env : PySem.Env) : execs (a ++ b) env = (execs a env >>= fun fl => match fl with
    | .next => execs b env
    | fl => pure fl) := by
  induction a with
  | nil => rfl
  | cons x a ih =>
    rw [List.cons_append, execs_cons, execs_cons, ih]
    simp only [bind_assoc]
    congr 1
    funext fl
    cases fl <;> rfl
theorem no_cells (n : Nat) : ∀ l : List (Str × NameKind), (∀ y ∈ l, y.2 ≠ .cell) → cellsFrom n l [] = []
  | [], _ => rfl
  | (x, kd) :: l, h => by
    have hk := h (x, kd) List.mem_cons_self
    have e : (kd == NameKind.cell) = false := by cases kd <;> first | rfl | exact absurd rfl hk
    unfold cellsFrom
    rw [e, if_neg Bool.false_ne_true]
    exact no_cells n l fun y hy => h y (List.mem_cons_of_mem _ hy)
theorem gx_ok (S : GScope N ps scope) (nc : ∀ y ∈ scope.names, y.2 ≠ .cell) (md : Mod K mg base) (hd : A.handled = none) (hfr : A.frames = some outer) {v : Shared} {H : Hp} (bs : ∀ b o, base.get? b = some o → v.heap.get? b = some o ∧ H b = none) (bsz : base.objs.size ≤ v.heap.objs.size)
    (vsz : v.heap.objs.size ≤ s.heap.objs.size) (funs : v.heap.FunFrames base outer) (frf : ∀ b ∈ frs outer, H b = none) : (atE (gcxOf P w K mg base N qual scope f cd A outer s H E pn) v H).Ok := by
  have nocell : ∀ x, (envOfC qual scope s.heap.objs.size f cd).cells.lookup x = none := fun x => by
    show (cellsFrom (s.heap.objs.size + 1) scope.names []).lookup x = none
    rw [no_cells _ _ nc]
    rfl
  have none_ex : ∀ b : Addr, b ∉ (atE (gcxOf P w K mg base N qual scope f cd A outer s H E pn) v H).ex := fun b z => absurd (show b ∈ ([] : List Addr) from z) (List.not_mem_nil)
  refine ⟨md, S.kind, rfl, rfl, vsz, fun x y c e _ => ?_, fun x hx => ?_, fun x c _ e => ?_, fun _ => hd, Around.frames_deeper hfr, .inr ⟨rfl, rfl⟩, fun b z => absurd z (none_ex b), bs, bsz, fun b _ _ => none_ex b, fun b z => absurd z (none_ex b), funs, frf⟩
  · have e : (envOfC qual scope s.heap.objs.size f cd).cells.lookup x = some c := e
    rw [nocell x] at e; cases e
  · have hx : scope.names.lookup x = some .cell ∨ scope.names.lookup x = some .free := hx
    rcases hx with hx | hx
    · exact absurd rfl (nc _ (PySem.mem_of_lookup hx))
    · exact absurd rfl (S.nofree _ (PySem.mem_of_lookup hx))
  · have e : (envOfC qual scope s.heap.objs.size f cd).cells.lookup x = some c := e
    rw [nocell x] at e; cases e
theorem inv_xe {X : Cx} {pins : List Po} {σ : L2.St} {H : Hp} {t : Shared} {xe : Value → Shared → Prop} (J : Inv X pins σ H t) : Inv { X with xe := xe } pins σ H t := by
  have o := J.ok
  exact { ok := ⟨o.mod, o.kind, o.glob, o.blt, o.above, o.inj, o.has, o.cab, o.hd, o.frames, o.stk, o.exf, o.bs, o.bsz, o.noex, o.exfs, o.funs, o.frf⟩, os := J.os, bare := J.bare, base := J.base, loc := J.loc, cell := J.cell, free := J.free, freeC := J.freeC, pin := J.pin, hok := J.hok, len := J.len }
end
section
variable {P : Program} {w : World} {K : PySem.W.Frag} {mg : Str → Option Value} {base : Heap} {CK : CKT} {k : Nat} {f : Addr} {name qual : Str} {params : Arguments} {body : List Stmt} {scope : Scope} {dV kV doc pm cdv ct oc : Value} {an od : Option Addr} {osl : Array (Option Value)} {N ps : List Str} {mf : MG1} {pre rest : List Stmt} {m1 : MS} {m2 : MGn}
theorem gen_of (lk : K.lookup f = some ⟨oc, od, .func (PySem.W.fnOf name qual params body scope dV kV doc pm an cdv ct), osl⟩) (hcd : PySem.W.codeIn K cdv qual = true) (S : GScope N ps scope) (nc : ∀ y ∈ scope.names, y.2 ≠ .cell) (hbd : body = pre ++ rest)
    (h1 : ∀ A outer s E pn v H, Ctx (gxE P w K mg base N qual scope f cdv A outer s E pn v H) ⟨fun cls d _ H => E cls d H, CK⟩ k → DSs (gxE P w K mg base N qual scope f cdv A outer s E pn v H) ⟨fun cls d _ H => E cls d H, CK⟩ pre m1 0)
    (h2 : ∀ (A : Around) outer s H E pn, A.guards = some [] → Room k (A.deeper (envOfC qual scope s.heap.objs.size f cdv)) → DYs (gcxOf P w K mg base N qual scope f cdv A outer s H E pn) ⟨fun _ _ _ _ => False, CK⟩ rest m2)
    (post : ∀ as R ex, as.length = ps.length → mf as R ex → ∃ out, m1 (fun e _ => ex e) { nx := fun δ => m2 { nx := fun j _ => j = out.length ∧ R out, out := out, ok := R out } 0 δ, rt := fun _ => False, bk := fun _ => False, ct := fun _ => False, ro := fun _ _ => False } (startD N.length as)) :
    GenG P w K mg base CK (k + 1) f (PySem.W.fnOf name qual params body scope dV kV doc pm an cdv ct) ps mf := by
  subst hbd
  refine ⟨fun A outer s H args us vs G F as R ex hg hr e0 hbi r hl hK hck hla harg hsl good h => ?_⟩
  have kin : K.In s.heap := e0.mod.kin.keeps fun b o e => (e0.bs b o e).1
  have nol : s.heap.NoLimit := e0.mod.nolimit.keeps fun b o e => (e0.bs b o e).1
  have hlv : vs.length = ps.length := by rw [r.length]; exact hl
  have kinds : ∀ y ∈ ps.zip us, scope.names.lookup y.1 = some .local ∨ (scope.names.lookup y.1 = some .cell ∧ ((cellsFrom (s.heap.objs.size + 1) scope.names []).lookup y.1).isSome = true) := by
    rintro ⟨n, z⟩ hy
    rcases S.par n (List.of_mem_zip hy).1 with q | q
    · exact .inl q
    · exact .inr ⟨q, PySem.W.cellsFrom_some _ _ _ (.inl q)⟩
  refine codeAny_call_generator hr.depth (kin _ _ lk) rfl S.co S.gen rfl (PySem.W.codeRec_of kin hcd) (hbi _ _ _ _ ?_)
  refine wpAny_newFunctionEnv_cells S.kind kinds fun env he s1 x => ?_
  subst he
  refine ⟨nol.keeps x.toInCall.keep, ?_⟩
  have key : ∀ (go : Obj) (nm qn : Value) (tk : Nat), go.cls = .type "generator" → go.data = .fields #[.int s1.gens.size 0, nm, qn] → go.slots = #[] → (∀ q : Heap, (q.push go).get? q.objs.size = some go) →
      GenMade ⟨P, w, K, mg, base, outer, s.heap.objs.size, CK⟩ (k + 1) F H s R ex (.ref s1.heap.objs.size) { s1 with gens := s1.gens.push (.fresh (.func (pre ++ rest) (envOfC qual scope s.heap.objs.size f cdv))), toks := tk, heap := s1.heap.push go } := by
    intro go nm qn tk g1 g2 g3 g4
    obtain ⟨hh1, tk1, es1, hk1⟩ := x.done
    have os1 : s1.os = s.os := by rw [es1]
    have ge1 : s1.gens = s.gens := by rw [es1]
    have lt1 : s.heap.objs.size < s1.heap.objs.size := x.toInCall.ns.lt
    have I1 : Inv (gcxOf P w K mg base N qual scope f cdv A outer s H (fun _ _ _ => False) []) [] (start N vs) H s1 := inv_startG S hr.hd e0 hlv r x
    obtain ⟨m0, ⟨lo, es, ep, hlo, hdat⟩, look⟩ := id I1.loc
    have isg : ∀ q : Heap, q.get? s1.heap.objs.size = some go → q.IsGen s1.heap.objs.size s1.gens.size := fun q e => ⟨go, nm, qn, e, g1, g2, g3⟩
    have hgo : (s1.heap.push go).get? s1.heap.objs.size = some go := g4 _
    have kp : ∀ b o, s1.heap.get? b = some o → (s1.heap.push go).get? b = some o := fun b o e => Heap.get?_push_of_some _ e
    obtain ⟨out, hpost⟩ := post as R ex (hla.trans hlv) h
    refine ⟨s1.heap.objs.size, s1.gens.size, _, go, [(s.heap.objs.size, lo), (s1.heap.objs.size, go)], rfl, lt1, ?_, by simp, isg, Array.getElem?_push_size .., os1, ?_, fun b o e => kp b o (x.toInCall.keep b o e), fun q hq => ?_, out, ?_⟩
    · show s1.heap.objs.size < (s1.heap.push go).objs.size
      rw [Heap.size_push]; exact Nat.lt_succ_self _
    · exact AllBare.push (by rw [ge1]; exact e0.bare) rfl
    · simp only [List.mem_cons, List.not_mem_nil, or_false] at hq
      rcases hq with rfl | rfl
      · exact ⟨kp _ _ hlo, Nat.le_refl _, fun z e => by rw [hdat.1] at e; cases e⟩
      · exact ⟨hgo, Nat.le_of_lt lt1, fun z e => by rw [g2] at e; cases e⟩
    intro A' Wk hg' hr' hfr' haw G' F' H' v' s2 hw
    have a0 := haw _ _ _ _ _ _ _ _ hw
    have nc0 : ∀ y, (envOfC qual scope s.heap.objs.size f cdv).cells.lookup y = none := fun y => by
      show (cellsFrom (s.heap.objs.size + 1) scope.names []).lookup y = none
      rw [no_cells _ _ nc]
      rfl
    let p : GP := ⟨gcxOf P w K mg base N qual scope f cdv A' outer s H (fun _ _ _ => False) [(s1.heap.objs.size, go)], ⟨fun _ _ _ _ => False, CK⟩, Wk, out, R out, fun e s' => ∃ s₀ Fy G F₀ H₀ v pr₀, Wk 0 Fy G F₀ H₀ v pr₀ s₀ ∧ L2.CX P w outer H₀ v (XGen K mg (G.into F₀ H₀) ex) e s' ∧ ∀ q ∈ [(s1.heap.objs.size, go)], s'.heap.get? q.1 = some q.2, A'⟩
    have pok : p.Ok := ⟨fun j Fy G F H₀ v pr s' hk => by
        have a := haw _ _ _ _ _ _ _ _ hk
        exact ⟨a.sm, a.g, a.k, a.ck, gx_ok (E := fun _ _ _ => False) S nc e0.mod hr'.hd hfr' a.bs a.bsz a.vsz a.funs a.frf, a.os, a.bare, a.keep, a.hok, a.ob, a.yg⟩, nc0, rfl, rfl⟩
    have aw := pok.aw _ _ _ _ _ _ _ _ hw
    have I2 : Inv (atE p.X v' H') [] (start N vs) H' s2 := by
      obtain ⟨l1, l2, l3⟩ := aw.ob (s.heap.objs.size, lo) List.mem_cons_self
      refine ⟨aw.ok, aw.os, aw.bare, Un.kept aw.keep, ⟨m0, ⟨lo, es, ep, l1, hdat⟩, fun i y u e1 e2 e3 => ?_⟩, fun y c e => ?_, l2, fun y c e => ?_, fun q hq => ?_, aw.hok, I1.len⟩
      · obtain ⟨u, q1, q2⟩ := look i y u e1 e2 e3
        refine ⟨u, q1, ?_⟩
        rcases q2 with q2 | ⟨_, c, e, _⟩
        · exact .inl q2
        · have e : (envOfC qual scope s.heap.objs.size f cdv).cells.lookup y = some c := e
          rw [nc0 y] at e; cases e
      · have e : (envOfC qual scope s.heap.objs.size f cdv).cells.lookup y = some c := e
        rw [nc0 y] at e; cases e
      · have e : (envOfC qual scope s.heap.objs.size f cdv).cells.lookup y = some c := e
        rw [nc0 y] at e; cases e
      · have hq : q ∈ [(s1.heap.objs.size, go)] ++ [] := hq
        simp only [List.append_nil, List.mem_singleton] at hq
        subst hq
        obtain ⟨q1, q2, q3⟩ := aw.ob (s1.heap.objs.size, go) (List.mem_cons_of_mem _ List.mem_cons_self)
        exact ⟨q1, q2, Nat.ne_of_gt lt1, q3, fun z e => by rw [g2] at e; cases e⟩
    show Seg _ A' p.R p.Y _ _ _ _ _ _
    refine seg_func ?_
    rw [execs_app, Sem.bind_eq_wrap', Sem.wrap_wrap]
    refine seg_wrap ?_
    rw [over_func]
    have hyg : ∀ q ∈ p.X.pn ++ ([] : List Po), v'.heap.objs.size ≤ q.1 := fun q hq => by
      have hq : q ∈ [(s1.heap.objs.size, go)] ++ [] := hq
      simp only [List.append_nil, List.mem_singleton] at hq
      subst hq
      exact a0.yg _ (List.mem_cons_of_mem _ List.mem_cons_self)
    have gw : Good (G'.into F' H') F' (as.map some) (vs.map some) H' := good.woken hsl a0.sm a0.g (by rw [a0.k]; exact hK.symm)
    refine wpAny_mono ((h1 A' outer s (XGen K mg (G'.into F' H') ex) [(s1.heap.objs.size, go)] v' H' ⟨hg', hr'.deeper _, takes_gxE⟩).pss.run [] s2 (start N vs) H' { nx := fun σ H₁ => ∃ F₁ δ, δ.length = σ.length ∧ NoBor (δ ++ []) ∧ Good (G'.into F' H') F₁ (δ ++ []) (σ ++ []) H₁ ∧ m2 { nx := fun j _ => j = out.length ∧ R out, out := out, ok := R out } 0 δ, bk := fun _ _ => False, ct := fun _ _ => False, rt := fun _ _ => False } (inv_xe I2)
      ⟨fun e _ => ex e, G'.into F' H', F', startD N.length as, [], [], { nx := fun δ => m2 { nx := fun j _ => j = out.length ∧ R out, out := out, ok := R out } 0 δ, rt := fun _ => False, bk := fun _ => False, ct := fun _ => False, ro := fun _ _ => False },
        ⟨a0.k, ?_, rfl, ?_, fun b F₁ δ' σ' H₁ τ1 ts1 e cls d hb z1 z2 z3 z4 => ?_, a0.ck⟩, ?_, ⟨fun δ' h' b σ' F₁ H₁ hb l' nb' g' => ?_, fun _ z => z.elim, fun _ z => z.elim, fun _ z => z.elim, fun _ _ z => z.elim⟩, hpost⟩) (fun fl s' hs => ?_) fun e s' he => ?_
    · unfold startD L2.start
      simp [hla]
    · unfold startD L2.start
      have := gw.more (N.length - as.length)
      rw [hla] at this ⊢
      simpa using this
    · refine ⟨e, F₁, z4, ?_, z3⟩
      cases Nat.le_zero.mp hb
      exact Good.cut (A := []) (A' := []) (B := δ' ++ [] ++ τ1) (B' := σ' ++ [] ++ ts1) z2.len z2
    · intro i x e
      unfold startD at e
      simp only [List.append_nil] at e
      rcases Nat.lt_or_ge i (as.map some).length with q | q
      · rw [List.getElem?_append_left q, List.getElem?_map] at e
        cases q2 : as[i]? with
        | none => rw [q2] at e; cases e
        | some y =>
          rw [q2] at e
          cases e
          have := harg x (List.mem_of_getElem? q2)
          cases x with
          | bor _ => cases this
          | bdk _ => cases this
          | blk _ _ => cases this
          | bdt _ _ => cases this
          | _ => rfl
      · rw [List.getElem?_append_right q, List.getElem?_replicate] at e
        split at e <;> cases e
    · cases Nat.le_zero.mp hb
      exact ⟨F₁, δ', l', nb', g', h'⟩
    · cases fl with
      | next =>
        obtain ⟨σ1, H1, J, F1, δ1, l1, nb1, gd1, hm2⟩ := hs
        refine (h2 A' outer s H (fun _ _ _ => False) [(s1.heap.objs.size, go)] hg' (hr'.deeper _)).run p rfl rfl pok _ [] _ _ _ _ [] [] [] { nx := fun j _ => j = out.length ∧ R out, out := out, ok := R out } ⟨rfl, rfl⟩ ⟨over_func, rfl, rfl, rfl⟩ (fun n j s₀ G₂ F₂ H₂ v₂ δ₂ σ₂ F₃ H₃ s₃ f₃ r₃ q₃ => ?_) (out.length + 1) 0 s2 G' F' H' v' δ1 σ1 F1 H1 s' ⟨⟨_, _, hw⟩, Nat.zero_add _, inv_xe J, hyg, gd1, nb1, l1, rfl, rfl⟩ hm2
        cases f₃ with
        | next =>
          obtain ⟨Fy, pr₀, hw₂⟩ := r₃.wk
          refine seg_end (.ok (.ret .none)) (.inl ⟨.inl rfl, j, Fy, G₂, F₂, H₂, v₂, pr₀, q₃.1, hw₂, q₃.2, F₃, H₃, Good.cut (A := []) (A' := []) (B := δ₂ ++ []) (B' := σ₂ ++ []) r₃.g.len r₃.g, ⟨r₃.inv.os, r₃.inv.bare, r₃.inv.base, r₃.inv.hok, fun q hq => ?_⟩⟩)
          · obtain ⟨q1, q2, _, q4, q5⟩ := r₃.inv.pin q (List.mem_append_left _ hq)
            exact ⟨q1, q2, q4, r₃.yg q (List.mem_append_left _ hq), q5⟩
        | brk => exact q₃.elim
        | cont => exact q₃.elim
        | ret u => exact q₃.elim
      | brk => obtain ⟨_, _, _, z⟩ := hs; exact z.elim
      | cont => obtain ⟨_, _, _, z⟩ := hs; exact z.elim
      | ret u => obtain ⟨_, _, _, _, _, z⟩ := hs; exact z.elim
    · show Seg _ A' p.R p.Y _ _ _ ((leaving (envOfC qual scope s.heap.objs.size f cdv) e).wrap (fun _ => .raise e) .raise id id) _ _
      refine seg_wrap ?_
      rw [over_func]
      exact wpAny_mono he (fun _ s'' z => seg_end (.error e) (.inr ⟨e, rfl, _, _, _, _, _, _, _, hw, z.1, z.2⟩)) fun _ _ z => z.elim
  exact key _ _ _ _ rfl rfl rfl fun q => Heap.get?_push_size _ rfl
end
end DL
namespace DL
open PySem PySem.Spec L2 PyProof.Rows GenW
def TrC (X : Cx) (pins : List Po) (σ : L2.St) (H : Hp) (v : Shared) : Prop := ∀ (H2 : Hp) (s2 : Shared), s2.os = v.os → AllBare s2.gens → Un (frs X.stack) [] H H2 v.heap s2.heap → HOk X.prog X.w H2 s2.heap → Inv X pins σ H2 s2
structure Low (X : Cx) (pins : List Po) (L : Nat) : Prop where
  s0 : X.s_0.heap.objs.size ≤ L
  lo : X.env.locals < L
  ce : ∀ x c, X.env.cells.lookup x = some c → c < L
  pn : ∀ p ∈ X.pn ++ pins, p.1 < L
  fr : ∀ b ∈ frs X.stack, b < L
  bs : X.base.objs.size ≤ L
section
variable {X : Cx} {pins : List Po} {σ : L2.St} {H : Hp} {s : Shared} {L : Nat}
theorem low_of (I : Inv X pins σ H s) : Low X pins s.heap.objs.size := by
  refine ⟨I.sz, I.lt, fun x c e => ?_, fun p hp => Heap.lt_size (I.pin p hp).1, fun b hb => ?_, Nat.le_trans I.ok.bsz I.sz⟩
  · obtain ⟨_, _, ho, _⟩ := I.cell x c e
    exact Heap.lt_size ho
  · obtain ⟨_, o, ho, _⟩ := I.stack.mem hb
    exact Heap.lt_size ho
def youngs (h : Heap) (n : Nat) : List Addr := List.range' n (h.objs.size - n)
theorem mem_youngs {h : Heap} {n b : Nat} : b ∈ youngs h n ↔ n ≤ b ∧ b < n + (h.objs.size - n) := List.mem_range'_1
theorem cut_un {fs : List Addr} {h h2 : Heap} {H H2 : Hp} (u : Un fs [] H H2 (cutH h L) h2) : Un fs (youngs h L) H H2 h h2 := by
  have lt : ∀ b o, h.get? b = some o → b ∉ youngs h L → (cutH h L).get? b = some o := fun b o e n => by
    have h1 := Heap.lt_size e
    have h2 : b < L := by
      refine Nat.lt_of_not_le fun q => n (mem_youngs.mpr ⟨q, ?_⟩)
      rw [Nat.add_sub_of_le (Nat.le_of_lt (Nat.lt_of_le_of_lt q h1))]
      exact h1
    rw [cut_get h2]; exact e
  exact ⟨fun b o e n hb hx => u.keep b o (lt b o e hx) n hb List.not_mem_nil, fun b o e n hb hx => u.slot b o (lt b o e hx) n hb List.not_mem_nil, fun b o e n hx => u.free b o (lt b o e hx) n List.not_mem_nil,
    fun b o e hx => u.there b o (lt b o e hx) List.not_mem_nil, u.tups, u.frzs, u.tbls⟩
theorem tr_cut (I : Inv X pins σ H s) (l : Low X pins L) : TrC X pins σ H (cutS s L) := fun H2 s2 ho hg u hok => I.call' (s' := s2) ho (cut_un u) hok hg fun b hb => by
  have hb : L ≤ b := (mem_youngs.mp hb).1
  have no : ∀ z : Addr, z < L → z ≠ b := fun z h e => absurd (Nat.lt_of_lt_of_le (e ▸ h) hb) (Nat.lt_irrefl _)
  exact ⟨.inr (Nat.le_trans l.s0 hb), fun e => no _ l.lo e.symm, fun x c e => no _ (l.ce x c e), fun p hp => no _ (l.pn p hp)⟩
theorem funs_cut {base h : Heap} : ∀ {l : List PySem.Env}, h.FunFrames base l → (∀ b ∈ frs l, b < L) → (cutH h L).FunFrames base l
  | [], _, _ => trivial
  | env :: r, ⟨hk, ⟨b, o, hf, hn, ho, hd⟩, hr⟩, hl => by
    have hb : b < L := hl b (by unfold frs; rw [List.filterMap_cons, hf]; exact List.mem_cons_self)
    refine ⟨hk, ⟨b, o, hf, hn, by rw [cut_get hb]; exact ho, hd⟩, funs_cut hr fun c hc => hl c ?_⟩
    unfold frs at hc ⊢
    rw [List.filterMap_cons, hf]
    exact List.mem_cons_of_mem _ hc
abbrev gndOf (X : Cx) (ck : CKT) (L : Nat) : Gnd := ⟨X.prog, X.w, X.K, X.mg, X.base, X.stack, L, ck⟩
theorem awc_of {ck : CKT} {G : Gm} {F Fy : Hp} {A : Env} {B : L2.St} {pr : List Po} (I : Inv X pins σ H s) (l : Low X pins L) (hL : L ≤ s.heap.objs.size) (g : Good G F A B H) (hk : G.K = X.K) (hc : ck G.C G.cv G.J G.lim ∧ G.n ≤ G.lim) (sm : Same Fy F)
    (hp : ∀ q ∈ pr, s.heap.get? q.1 = some q.2 ∧ H q.1 = none ∧ q.1 ∉ frs X.stack ∧ L ≤ q.1) : AwC (gndOf X ck L) Fy G F H (cutS s L) pr s where
  sm := sm
  g := Good.cut (A := []) (A' := []) (B := A) (B' := B) g.len g
  k := hk
  ck := hc
  bs := fun b o e => by
    have hb : b < L := Nat.lt_of_lt_of_le (Heap.lt_size e) l.bs
    refine ⟨?_, (I.bs b o e).2⟩
    show (cutH s.heap L).get? b = some o
    rw [cut_get hb]; exact (I.bs b o e).1
  bsz := by
    show X.base.objs.size ≤ (cutH s.heap L).objs.size
    rw [cut_size hL]; exact l.bs
  vsz := cut_le
  funs := funs_cut I.stack l.fr
  frf := I.stkFree
  os := rfl
  bare := I.bare
  keep := fun b o e => (of_cut e).2
  hok := I.hok
  ob := fun q hq => ⟨(hp q hq).1, (hp q hq).2.1, (hp q hq).2.2.1⟩
  yg := fun q hq => Nat.le_trans cut_le (hp q hq).2.2.2
theorem xe_of_tr {W : WX} {E : XK} {v s' : Shared} (T : TrC X pins σ H v) (hW : ∀ cls d H', E cls d H' → W cls d σ H') {u : Value} (c : L2.CX X.prog X.w X.stack H v E u s') : XE X W u s' := by
  obtain ⟨a, B, H', cls, d, rfl, fl, hok, ub, na, os, ag, hE⟩ := c
  obtain ⟨G, g1, g2⟩ := restrict s'.heap fun b => (B.get? b).isSome || decide (b ∈ frs X.stack)
  have st : B.StaysIn s'.heap := fl.1
  have gB : ∀ b o, B.get? b = some o → G.get? b = some o := fun b o e => by
    rw [g1 b (by simp [e])]
    exact st b o e
  have gF : ∀ b, b ∈ frs X.stack → G.get? b = s'.heap.get? b := fun b hb => g1 b (by simp [hb])
  have og : ∀ b o, G.get? b = some o → s'.heap.get? b = some o ∧ ((B.get? b).isSome = true ∨ b ∈ frs X.stack) := fun b o e => by
    cases q : ((B.get? b).isSome || decide (b ∈ frs X.stack)) with
    | false => rw [g2 b q] at e; cases e
    | true =>
      rw [g1 b q] at e
      exact ⟨e, by simpa [Bool.or_eq_true] using q⟩
  refine ⟨a, B, { v with heap := G, gens := s'.gens, drawn := s'.drawn, toks := s'.toks }, pins, σ, H', cls, d, rfl, ?_, fun b o e hb => ?_, Heap.UpToSlots.of_keeps fun b o e => (og b o e).1, .inr (.inl fl), na, os, ag, hW _ _ _ hE⟩
  · refine T H' { v with heap := G, gens := s'.gens, drawn := s'.drawn, toks := s'.toks } rfl ag ⟨fun b o e n hb _ => gB b o (ub.keep b o e n hb), fun b o e n hb _ => ?_, fun b o e n _ => ub.free b o e n, fun b o e _ => ?_, ub.tups, ub.frzs, ub.tbls⟩ (hok.kept gB)
    · obtain ⟨sl, q⟩ := ub.slot b o e hb
      exact ⟨sl, by rw [gF b hb]; exact q⟩
    · by_cases hb : b ∈ frs X.stack
      · obtain ⟨sl, q⟩ := ub.slot b o e hb
        exact ⟨_, by rw [gF b hb]; exact q⟩
      · obtain ⟨o', q⟩ := ub.there b o e hb
        exact ⟨o', gB b o' q⟩
  · obtain ⟨e', h⟩ := og b o e
    rcases h with h | h
    · obtain ⟨o', q⟩ := Option.isSome_iff_exists.mp h
      have z := st b o' q
      rw [e'] at z; cases z
      exact q
    · exact absurd h hb
def Stops (X : Cx) (nms : List Str) : Prop := ∀ x ∈ nms, ∃ C, X.mg x = some (.ref C) ∧ PySem.W.subIn X.K (.ref C) (.type "StopIteration") = some false
theorem nostop {nms : List Str} {Ex : DExc → Prop} {G : Gm} (h : Stops X nms) (hx : ∀ e, Ex e → e.cls ∈ nms) : NoStop X.K (XGen X.K X.mg G Ex) := fun cls d H' z => by
  obtain ⟨e, F', h1, _, C, h2, h3, _⟩ := z
  obtain ⟨C', h4, h5⟩ := h _ (hx e h1)
  rw [h2] at h4; cases h4
  rw [h3]; exact h5
theorem kin_cx {ck : CKT} {E : XK} {Fy F₀ : Hp} {G : Gm} {pr : List Po} {v s₀ s' : Shared} {u : Value} (md : Mod X.K X.mg X.base) (nofr : ∀ b o, X.base.get? b = some o → b ∉ frs X.stack) (a : AwC (gndOf X ck L) Fy G F₀ H v pr s₀) (c : L2.CX X.prog X.w X.stack H v E u s') : X.K.In s'.heap := by
  obtain ⟨_, B, H', cls, d, _, fl, _, ub, _⟩ := c
  exact md.kin.keeps fun b o eb => fl.1 b o (ub.keep b o (a.bs b o eb).1 (a.bs b o eb).2 (nofr b o eb))
end
theorem allBare_set {s : Shared} {g : Nat} {x : GenState} (h : AllBare s.gens) (hx : x.bare = true) : AllBare (s.setGen g x).gens := allBare_setGen h hx
section
variable {X : Cx} {ck : CKT} {L : Nat} {pins : List Po} {σ : L2.St} {Gc : Gm} {A : Env} {B : L2.St} {S a : Addr} {gi : Nat} {go : Obj} {out : List PyData} {okP : Prop} {Ex : DExc → Prop} {A0 : Around} {Rz : Result → Shared → Prop} {res : Value}
theorem inv_setGen {H : Hp} {s : Shared} {x : GenState} (I : Inv X pins σ H s) (hx : x.bare = true) : Inv X pins σ H (s.setGen gi x) := I.call' (ch := []) rfl Un.refl I.hok (allBare_set I.bare hx) fun b z => by simp at z
end
end DL
namespace DL
open PySem PySem.Spec L2 PyProof.Rows GenW
theorem takesF {X : Cx} : Takes X fun _ _ _ _ => False := fun _ _ ⟨_, _, _, _, _, _, _, _, _, _, _, _, _, _, _, _, w⟩ => w.elim
structure DGen (P : Program) (w : World) (K : PySem.W.Frag) (mg : Str → Option Value) (base : Heap) (CK : CKT) (x : Str) (k n : Nat) (mf : MG1) : Prop where
  ex : ∃ f fd ps, mg x = some (.ref f) ∧ PySem.W.keepIn K (.ref f) = true ∧ Binds K fd ps [] ∧ ps.length = n ∧ GenG P w K mg base CK k f fd ps mf
abbrev MGen := XD → Env → (List PyData → Prop) → (DExc → Prop) → Prop
structure DGE (X : Cx) (W : WC) (k : Nat) (e : Expr) (m : MGen) (u : Nat) : Prop where
  run : ∀ (pins : List Po) (s : Shared) (σ : L2.St) (H : Hp) (ex : XD) (G : Gm) (F : Hp) (δ τ : Env) (ts : L2.St) (τ1 : Env) (ts1 : L2.St) (R : List PyData → Prop) (Ex : DExc → Prop), Inv X pins σ H s → Now X.K X.mg W u ex G F δ σ τ ts τ1 ts1 H → m ex δ R Ex →
    wpAny (model X.prog X.w) X.A (eval e X.env) (fun v s' => ∃ sc H1 F1, Inv X pins σ H1 sc ∧ Good (G.up u) F1 (δ ++ τ ++ τ1) (σ ++ ts ++ ts1) H1 ∧ GenMade (gndOf X W.ck sc.heap.objs.size) k F1 H1 sc R Ex v s') X.xe s
section
variable {X : Cx} {W : WC} {k j : Nat} {u u1 n : Nat} {e : Expr} {es : List Expr} {x : Str} {p pos : Pos} {mf : MG1} {mas : MA} {m : MGen}
theorem made_inv {ck : CKT} {σ : L2.St} {pins : List Po} {sc s : Shared} {F0 H : Hp} {R : List PyData → Prop} {Ex : DExc → Prop} {v : Value} (I : Inv X pins σ H sc) (h : GenMade (gndOf X ck sc.heap.objs.size) k F0 H sc R Ex v s) : Inv X pins σ H s := by
  obtain ⟨a, gi, c, go, pr, _, _, _, _, _, _, ho, hb, hk, _⟩ := h
  exact I.call' (ch := []) ho (Un.kept hk) (I.hok.kept hk) hb fun b z => by simp at z
theorem nb_new {G : Gm} {F H : Hp} {A : Env} {B : L2.St} {S : Addr} (g : Good G F A B H) (hS : H S = none) (j : Nat) (x : DV) (e : A[j]? = some (some x)) (hb : x.isBor = true) : B[j]? ≠ some (some (.ref S)) := fun z => by
  obtain ⟨v, e1, hv⟩ := g.sl j x e
  rw [z] at e1; cases e1
  obtain ⟨l, o, e2, h, _⟩ := bor_at hv (by rw [hb, Bool.or_true])
  cases e2
  rw [hS] at h; cases h
theorem stops_nil : Stops X [] := fun x h => absurd h List.not_mem_nil
end
end DL
namespace GenW
open PySem PyProof.Rows
open Sem (wp)
def stuck : GenState → GenState
  | .suspended _ l c p fs cl => .suspended (fun _ => .unsupported "") l c p fs cl
  | x => x
def isSusp : GenState → Bool
  | .suspended .. => true
  | _ => false
def noGen (fs : List Frame) : Bool := fs.all fun f => match f with
  | .gen .. => false
  | .ret .. => true
structure Pz (R : Array GenState) (s : Shared) : Prop where
  sz : R.size ≤ s.gens.size
  st : ∀ (i : Nat) (x : GenState), R[i]? = some x → isSusp x = true → s.gens[i]? = some (stuck x)
  ok : ∀ (i : Nat) k l c p fs cl, s.gens[i]? = some (.suspended k l c p fs cl) → (∀ x : GenState, R[i]? = some x → isSusp x = false) → noGen fs = true
def backG (R : Array GenState) (g : Array GenState) : Array GenState := g.mapIdx fun i x => match R[i]? with
  | some y => if isSusp y then y else x
  | none => x
def backS (R : Array GenState) (s : Shared) : Shared := { s with gens := backG R s.gens }
theorem back_at (R g : Array GenState) (i : Nat) : (backG R g)[i]? = g[i]?.map fun x => match R[i]? with
  | some y => if isSusp y then y else x
  | none => x := by
  unfold backG
  rw [Array.getElem?_mapIdx]
theorem back_size (R g : Array GenState) : (backG R g).size = g.size := by unfold backG; rw [Array.size_mapIdx]
theorem back_other {R g : Array GenState} {i : Nat} {x : GenState} (h : g[i]? = some x) (hn : ∀ y, R[i]? = some y → isSusp y = false) : (backG R g)[i]? = some x := by
  rw [back_at, h]
  cases q : R[i]? with
  | none => rfl
  | some y =>
    have := hn y q
    show some (if isSusp y = true then y else x) = some x
    rw [this, if_neg Bool.false_ne_true]
theorem back_same {R g : Array GenState} {i : Nat} {x y : GenState} (h : g[i]? = some x) (hy : R[i]? = some y) (hs : isSusp y = true) : (backG R g)[i]? = some y := by
  rw [back_at, h, hy]
  show some (if isSusp y = true then y else x) = some y
  rw [if_pos hs]
theorem stuck_seen (x : GenState) : (stuck x).seen = x.seen := by cases x <;> rfl
theorem stuck_bare (x : GenState) : (stuck x).bare = x.bare := by cases x <;> rfl
theorem stuck_susp (x : GenState) : isSusp (stuck x) = isSusp x := by cases x <;> rfl
theorem Pz.awake {R : Array GenState} {s : Shared} (z : Pz R s) {i : Nat} {x : GenState} (h : s.gens[i]? = some x) (hx : isSusp x = false) : ∀ y, R[i]? = some y → isSusp y = false := fun y hy => by
  cases q : isSusp y with
  | false => rfl
  | true =>
    have := z.st i y hy q
    rw [h] at this
    cases this
    rw [stuck_susp, q] at hx
    cases hx
theorem no_run {M : Model} {Γ : Ctx} {p : Pos} {m : String} {fs : List Frame} {s s' : Shared} {e : End} (h : Runs M Γ p (.unsupported m) fs s e s') : False := by
  generalize ht : (Sem.unsupported m : Sem PySem.Fin) = t at h
  induction h <;> first | (cases ht; done) | (rename_i ih _ ; exact ih ht) | (rename_i ih _ _; exact ih ht) | (rename_i ih; exact ih ht) | skip
theorem setGen_back {R : Array GenState} {s : Shared} {g : Nat} {x : GenState} (hn : ∀ y, R[g]? = some y → isSusp y = false) : backS R (s.setGen g x) = (backS R s).setGen g x := by
  have e : backG R (s.gens.setIfInBounds g x) = (backG R s.gens).setIfInBounds g x := by
    apply Array.ext_getElem?
    intro i
    rw [back_at, Array.getElem?_setIfInBounds, Array.getElem?_setIfInBounds, back_at, back_size]
    by_cases c : g = i
    · subst c
      rw [if_pos rfl, if_pos rfl]
      by_cases hs : g < s.gens.size
      · rw [if_pos hs]
        cases q : R[g]? with
        | none => rfl
        | some y =>
          have := hn y q
          show some (if isSusp y = true then y else x) = some x
          rw [this, if_neg Bool.false_ne_true]
      · rw [if_neg hs]; rfl
    · rw [if_neg c, if_neg c]
  unfold backS Shared.setGen
  simp only [e]
theorem Pz.setGen {R : Array GenState} {s : Shared} (z : Pz R s) {g : Nat} {x : GenState} (hn : ∀ y, R[g]? = some y → isSusp y = false) (hx : ∀ k l c p fs cl, x = .suspended k l c p fs cl → noGen fs = true) : Pz R (s.setGen g x) := by
  refine ⟨by rw [setGen_size]; exact z.sz, fun i y hy hs => ?_, fun i k l c p fs cl h h2 => ?_⟩
  · have hne : g ≠ i := fun e => by
      have := hn y (by rw [e]; exact hy)
      rw [hs] at this; cases this
    show (s.gens.setIfInBounds g x)[i]? = _
    rw [Array.getElem?_setIfInBounds, if_neg hne]
    exact z.st i y hy hs
  · have h : (s.gens.setIfInBounds g x)[i]? = some (.suspended k l c p fs cl) := h
    rw [Array.getElem?_setIfInBounds] at h
    by_cases e : g = i
    · rw [if_pos e] at h
      split at h
      · exact hx _ _ _ _ _ _ (Option.some.inj h)
      · cases h
    · rw [if_neg e] at h
      exact z.ok _ _ _ _ _ _ _ h h2
theorem Pz.push {R : Array GenState} {s : Shared} (z : Pz R s) (c : Code) : Pz R { s with gens := s.gens.push (.fresh c) } := by
  refine ⟨by show R.size ≤ (s.gens.push _).size; rw [Array.size_push]; have := z.sz; omega, fun i y hy hs => ?_, fun i k l c' p fs cl h h2 => ?_⟩
  · have hi : i < s.gens.size := Nat.lt_of_lt_of_le (Array.getElem?_eq_some_iff.mp hy).1 z.sz
    show (s.gens.push _)[i]? = _
    rw [Array.getElem?_push, if_neg (by omega)]
    exact z.st i y hy hs
  · have h : (s.gens.push (GenState.fresh c))[i]? = some (.suspended k l c' p fs cl) := h
    rw [Array.getElem?_push] at h
    split at h
    · cases h
    · exact z.ok _ _ _ _ _ _ _ h h2
theorem push_back {R : Array GenState} {s : Shared} (z : Pz R s) (c : Code) : backS R { s with gens := s.gens.push (.fresh c) } = { backS R s with gens := (backS R s).gens.push (.fresh c) } := by
  have e : backG R (s.gens.push (.fresh c)) = (backG R s.gens).push (.fresh c) := by
    apply Array.ext_getElem?
    intro i
    rw [back_at, Array.getElem?_push, Array.getElem?_push, back_at, back_size]
    by_cases hi : i = s.gens.size
    · rw [if_pos hi, if_pos hi]
      have : R[i]? = none := Array.getElem?_eq_none (by have := z.sz; omega)
      rw [this]; rfl
    · rw [if_neg hi, if_neg hi]
  unfold backS
  simp only [e]
theorem noGen_app {a b : List Frame} : noGen (a ++ b) = (noGen a && noGen b) := by unfold noGen; rw [List.all_append]
theorem noGen_split : ∀ {fs : List Frame}, noGen fs = true → splitAtGen fs = none
  | [], _ => rfl
  | .ret .. :: fs, h => by
    have h2 : noGen fs = true := by unfold noGen at h ⊢; simpa using h
    show Option.map _ (splitAtGen fs) = none
    rw [noGen_split h2]; rfl
  | .gen .. :: fs, h => by unfold noGen at h; simp at h
def endOk : End → Bool
  | .ret _ => true
  | .susp _ _ _ _ _ _ fs => noGen fs
theorem endOk_gs {e : End} (h : endOk e = true) : ∀ k l c p fs cl, e.genState = .suspended k l c p fs cl → noGen fs = true := fun k l c p fs cl q => by
  cases e with
  | ret _ => cases q
  | susp v g l k c p fs => cases q; exact h
theorem back_seen {R : Array GenState} {s : Shared} (z : Pz R s) {g : Nat} {st : GenState} (h : s.gens[g]? = some st) : ∃ st', (backS R s).gens[g]? = some st' ∧ st'.seen = st.seen := by
  by_cases hn : ∀ y, R[g]? = some y → isSusp y = false
  · exact ⟨st, back_other h hn, rfl⟩
  · obtain ⟨y, hy, hs⟩ : ∃ y, R[g]? = some y ∧ isSusp y = true := by
      refine Classical.byContradiction fun c => hn fun y hy => ?_
      cases q : isSusp y with
      | false => rfl
      | true => exact absurd ⟨y, hy, q⟩ c
    have h2 := z.st g y hy hs
    rw [h] at h2
    cases h2
    exact ⟨y, back_same h hy hs, (stuck_seen y).symm⟩
theorem stuck_no {R : Array GenState} {s : Shared} (z : Pz R s) {g : Nat} {k : Resume → Sem PySem.Fin} {l : List Value} {c : Code} {p : Pos} {fs : List Frame} {cl : Bool} (h : s.gens[g]? = some (.suspended k l c p fs cl)) (hr : ∀ m, k ≠ fun _ => .unsupported m) : ∀ y, R[g]? = some y → isSusp y = false := fun y hy => by
  cases q : isSusp y with
  | false => rfl
  | true =>
    have h2 := z.st g y hy q
    rw [h] at h2
    cases y with
    | suspended k' l' c' p' fs' cl' =>
      unfold stuck at h2
      cases h2
      exact absurd rfl (hr _)
    | _ => cases q
theorem ran_no {M : Model} {Γ : Ctx} {p : Pos} {r : Resume} {k : Resume → Sem PySem.Fin} {fs : List Frame} {s s' : Shared} {e : End} (h : Runs M Γ p (k r) fs s e s') : ∀ m, k ≠ fun _ => .unsupported m := fun m q => by
  rw [q] at h
  exact no_run h
theorem Pz.heap {R : Array GenState} {s : Shared} (z : Pz R s) {s' : Shared} (h : s'.gens = s.gens) : Pz R s' := ⟨by rw [h]; exact z.sz, by rw [h]; exact z.st, by rw [h]; exact z.ok⟩
theorem runs_back {M : Model} {R : Array GenState} {Γ : Ctx} {p : Pos} {t : Sem PySem.Fin} {fs : List Frame} {s s' : Shared} {e : End} (h : Runs M Γ p t fs s e s') : Pz R s → noGen fs = true → Pz R s' ∧ endOk e = true ∧ Runs M Γ p t fs (backS R s) e (backS R s') := by
  induction h with
  | done => intro z _; exact ⟨z, rfl, .done⟩
  | raise => intro z _; exact ⟨z, rfl, .raise⟩
  | again q _ ih => intro z n; obtain ⟨a, b, c⟩ := ih z n; exact ⟨a, b, .again q c⟩
  | rule _ ih => intro z n; obtain ⟨a, b, c⟩ := ih z n; exact ⟨a, b, .rule c⟩
  | «at» _ ih => intro z n; obtain ⟨a, b, c⟩ := ih z n; exact ⟨a, b, .at c⟩
  | load q _ ih => intro z n; obtain ⟨a, b, c⟩ := ih z n; exact ⟨a, b, .load q c⟩
  | update q _ ih => intro z n; obtain ⟨a, b, c⟩ := ih (z.heap rfl) n; exact ⟨a, b, .update q c⟩
  | loadIfAlive _ ih => intro z n; obtain ⟨a, b, c⟩ := ih z n; exact ⟨a, b, .loadIfAlive c⟩
  | point _ ih => intro z n; obtain ⟨a, b, c⟩ := ih z n; exact ⟨a, b, .point c⟩
  | alloc _ ih => intro z n; obtain ⟨a, b, c⟩ := ih (z.heap rfl) n; exact ⟨a, b, .alloc c⟩
  | fresh _ ih => intro z n; obtain ⟨a, b, c⟩ := ih (z.heap rfl) n; exact ⟨a, b, .fresh c⟩
  | ask _ ih => intro z n; obtain ⟨a, b, c⟩ := ih z n; exact ⟨a, b, .ask c⟩
  | choose q _ ih => intro z n; obtain ⟨a, b, c⟩ := ih (z.heap rfl) n; exact ⟨a, b, .choose q c⟩
  | os _ ih => intro z n; obtain ⟨a, b, c⟩ := ih (z.heap rfl) n; exact ⟨a, b, .os c⟩
  | handled _ ih => intro z n; obtain ⟨a, b, c⟩ := ih z n; exact ⟨a, b, .handled c⟩
  | genState q _ ih =>
    intro z n
    obtain ⟨a, b, c⟩ := ih z n
    obtain ⟨st', h1, h2⟩ := back_seen z q
    exact ⟨a, b, .genState h1 (by rw [h2]; exact c)⟩
  | stack _ ih => intro z n; obtain ⟨a, b, c⟩ := ih z n; exact ⟨a, b, .stack c⟩
  | thread _ ih => intro z n; obtain ⟨a, b, c⟩ := ih z n; exact ⟨a, b, .thread c⟩
  | newGen _ ih =>
    intro z n
    obtain ⟨a, b, c⟩ := ih (z.push _) n
    rw [push_back z] at c
    exact ⟨a, b, .newGen (by rw [show (backS R _).gens.size = _ from back_size R _]; exact c)⟩
  | call _ _ ih1 ih2 =>
    intro z n
    obtain ⟨a1, b1, c1⟩ := ih1 z rfl
    obtain ⟨a2, b2, c2⟩ := ih2 a1 n
    exact ⟨a2, b2, .call c1 c2⟩
  | callSusp _ ih =>
    intro z n
    obtain ⟨a, b, c⟩ := ih z rfl
    refine ⟨a, ?_, .callSusp c⟩
    show noGen (_ ++ _) = true
    rw [noGen_app, show noGen _ = true from b]; rfl
  | yield => intro z _; exact ⟨z, rfl, .yield⟩
  | resumeFresh q _ hq _ ih1 ih2 =>
    intro z n
    have hn := z.awake q rfl
    obtain ⟨a1, b1, c1⟩ := ih1 (z.setGen hn (by intros; contradiction)) rfl
    obtain ⟨a2, b2, c2⟩ := ih2 (a1.setGen hn (endOk_gs b1)) n
    rw [setGen_back hn] at c1 c2
    exact ⟨a2, b2, .resumeFresh (back_other q hn) c1 hq c2⟩
  | resumeSuspended q hr hq _ ih1 ih2 =>
    intro z n
    have hn := stuck_no z q (ran_no hr)
    obtain ⟨a1, b1, c1⟩ := ih1 (z.setGen hn (by intros; contradiction)) (z.ok _ _ _ _ _ _ _ q hn)
    obtain ⟨a2, b2, c2⟩ := ih2 (a1.setGen hn (endOk_gs b1)) n
    rw [setGen_back hn] at c1 c2
    exact ⟨a2, b2, .resumeSuspended (back_other q hn) c1 hq c2⟩
  | resumeJustStarted q hv _ ih =>
    intro z n
    have hn := z.awake q rfl
    obtain ⟨a, b, c⟩ := ih z n
    exact ⟨a, b, .resumeJustStarted (back_other q hn) hv c⟩
  | resumeThrowFresh q _ ih =>
    intro z n
    have hn := z.awake q rfl
    obtain ⟨a, b, c⟩ := ih (z.setGen hn (by intros; contradiction)) n
    rw [setGen_back hn] at c
    exact ⟨a, b, .resumeThrowFresh (back_other q hn) c⟩
  | resumeRunning q _ ih =>
    intro z n
    have hn := z.awake q rfl
    obtain ⟨a, b, c⟩ := ih z n
    exact ⟨a, b, .resumeRunning (back_other q hn) c⟩
  | resumeFinished q _ ih =>
    intro z n
    have hn := z.awake q rfl
    obtain ⟨a, b, c⟩ := ih z n
    exact ⟨a, b, .resumeFinished (back_other q hn) c⟩
  | segRet _ _ ih1 ih2 =>
    intro z n
    obtain ⟨a1, b1, c1⟩ := ih1 z rfl
    obtain ⟨a2, b2, c2⟩ := ih2 a1 (by unfold noGen at n ⊢; simpa using n)
    exact ⟨a2, b2, .segRet c1 c2⟩
  | segGen _ _ ih1 ih2 => intro z n; unfold noGen at n; simp at n
  | segSuspOut q _ ih =>
    intro z n
    obtain ⟨a, b, c⟩ := ih z rfl
    refine ⟨a, ?_, .segSuspOut q c⟩
    show noGen (_ ++ _) = true
    rw [noGen_app, show noGen _ = true from b, n]; rfl
  | segSuspGen q _ _ _ ih1 ih2 =>
    intro z n
    rw [noGen_split n] at q
    cases q
theorem wakes_back {M : Model} {R : Array GenState} {Γ : Ctx} {p : Pos} {g : Nat} {r : Resume} {s s' : Shared} {res : GenResult} (h : Wakes M Γ p g r s res s') (z : Pz R s) : Pz R s' ∧ Wakes M Γ p g r (backS R s) res (backS R s') := by
  unfold Wakes at h
  split at h
  · exact h.elim
  · rename_i c q
    have hn := z.awake q rfl
    unfold Wakes
    rw [show (backS R s).gens[g]? = _ from back_other q hn]
    split at h
    · obtain ⟨e₁, s₁, hr, h1, h2, rfl⟩ := h
      obtain ⟨a1, b1, c1⟩ := runs_back hr (z.setGen hn (by intros; contradiction)) rfl
      rw [setGen_back hn] at c1 ⊢
      exact ⟨a1.setGen hn (endOk_gs b1), e₁, _, c1, h1, h2, rfl⟩
    · obtain ⟨h1, rfl⟩ := h
      exact ⟨z, h1, rfl⟩
    · obtain ⟨h1, rfl⟩ := h
      rw [setGen_back hn]
      exact ⟨z.setGen hn (by intros; contradiction), h1, rfl⟩
  · rename_i q
    obtain ⟨e₁, s₁, hr, h1, h2, rfl⟩ := h
    have hn := stuck_no z q (ran_no hr)
    unfold Wakes
    rw [show (backS R s).gens[g]? = _ from back_other q hn]
    obtain ⟨a1, b1, c1⟩ := runs_back hr (z.setGen hn (by intros; contradiction)) (z.ok _ _ _ _ _ _ _ q hn)
    rw [setGen_back hn] at c1 ⊢
    exact ⟨a1.setGen hn (endOk_gs b1), e₁, _, c1, h1, h2, rfl⟩
  · rename_i q
    have hn := z.awake q rfl
    unfold Wakes
    rw [show (backS R s).gens[g]? = _ from back_other q hn]
    obtain ⟨h1, rfl⟩ := h
    exact ⟨z, h1, rfl⟩
  · rename_i q
    have hn := z.awake q rfl
    unfold Wakes
    rw [show (backS R s).gens[g]? = _ from back_other q hn]
    obtain ⟨h1, rfl⟩ := h
    exact ⟨z, h1, rfl⟩
theorem wp_back {α : Type} (M : Model) (Γ : Ctx) (R : Array GenState) (t : Sem α) : ∀ (Q : α → Pos → Shared → Prop) (E : Value → Pos → Shared → Prop) (p : Pos) (s : Shared), Pz R s → wp M Γ t Q E p s →
    wp M Γ t (fun a p' s' => ∃ s2, Pz R s2 ∧ s' = backS R s2 ∧ Q a p' s2) (fun e p' s' => ∃ s2, Pz R s2 ∧ s' = backS R s2 ∧ E e p' s2) p (backS R s) := by
  induction t with
  | pure a => intro Q E p s z h; exact ⟨s, z, rfl, h⟩
  | raise e => intro Q E p s z h; exact ⟨s, z, rfl, h⟩
  | unsupported _ => intro Q E p s _ h; exact h
  | finish _ => intro Q E p s _ h; exact h
  | rule _ k ih => intro Q E p s z h; exact ih () Q E p s z h
  | «at» p' k ih => intro Q E p s z h; exact ih () Q E p' s z h
  | load a _ k ih => intro Q E p s z h; obtain ⟨o, ho, h⟩ := h; exact ⟨o, ho, ih o Q E p s z h⟩
  | update a _ f k ih => intro Q E p s z h; exact ⟨h.1, ih () Q E p { s with heap := s.heap.update a f } (z.heap rfl) h.2⟩
  | loadIfAlive a k ih => intro Q E p s z h; exact ih _ Q E p s z h
  | point _ k ih => intro Q E p s z h; exact ih () Q E p s z h
  | register _ _ => intro Q E p s _ h; exact h
  | alloc o k ih => intro Q E p s z h; exact ih s.heap.objs.size Q E p { s with heap := s.heap.push o } (z.heap rfl) h
  | fresh k ih => intro Q E p s z h; exact ih s.toks Q E p { s with toks := s.toks + 1 } (z.heap rfl) h
  | ask k ih => intro Q E p s z h; exact ih _ Q E p s z h
  | choose src m k ih => intro Q E p s z h; exact ⟨h.1, ih (M.w.draws src (s.drawn.get src) % m) Q E p { s with drawn := s.drawn.bump src } (z.heap rfl) h.2⟩
  | os q _ k ih => intro Q E p s z h; exact ih (Os.step s.os q).2 Q E p { s with os := (Os.step s.os q).1 } (z.heap rfl) h
  | call c hd _ _ k ih =>
    intro Q E p s z h
    obtain ⟨r, s', hr, h⟩ := h
    obtain ⟨a, _, c⟩ := runs_back hr z rfl
    exact ⟨r, _, c, ih r Q E p s' a h⟩
  | handled own k ih => intro Q E p s z h; exact ih _ Q E p s z h
  | genState g k ih =>
    intro Q E p s z h
    obtain ⟨st, hs, h⟩ := h
    obtain ⟨st', h1, h2⟩ := back_seen z hs
    refine ⟨st', h1, ?_⟩
    rw [h2]
    exact ih _ Q E p s z h
  | newGen c k ih =>
    intro Q E p s z h
    have := ih s.gens.size Q E p _ (z.push c) h
    rw [push_back z] at this
    show wp M Γ (k (backS R s).gens.size) _ _ p _
    rw [show (backS R s).gens.size = s.gens.size from back_size R _]
    exact this
  | resume g r _ k ih =>
    intro Q E p s z h
    obtain ⟨res, s', hw, h⟩ := h
    obtain ⟨a, c⟩ := wakes_back hw z
    exact ⟨res, _, c, ih res Q E p s' a h⟩
  | yield _ _ _ _ => intro Q E p s _ h; exact h
  | stack k ih => intro Q E p s z h; exact ih _ Q E p s z h
  | fork _ _ => intro Q E p s _ h; exact h
  | thread k ih => intro Q E p s z h; exact ih _ Q E p s z h
  | await _ _ _ _ _ => intro Q E p s _ h; exact h
def stuckS (s : Shared) : Shared := { s with gens := s.gens.map stuck }
theorem pz_start (s : Shared) : Pz s.gens (stuckS s) := by
  refine ⟨by show s.gens.size ≤ (s.gens.map stuck).size; rw [Array.size_map]; exact Nat.le_refl _, fun i x h _ => ?_, fun i k l c p fs cl h h2 => ?_⟩
  · show (s.gens.map stuck)[i]? = _
    rw [Array.getElem?_map, h]; rfl
  · have h : (s.gens.map stuck)[i]? = some (.suspended k l c p fs cl) := h
    rw [Array.getElem?_map] at h
    cases q : s.gens[i]? with
    | none => rw [q] at h; cases h
    | some y =>
      rw [q] at h
      have h : stuck y = .suspended k l c p fs cl := Option.some.inj h
      have := h2 y q
      rw [← stuck_susp, h] at this
      cases this
theorem back_start (s : Shared) : backS s.gens (stuckS s) = s := by
  have e : backG s.gens (s.gens.map stuck) = s.gens := by
    apply Array.ext_getElem?
    intro i
    rw [back_at, Array.getElem?_map]
    cases q : s.gens[i]? with
    | none => rfl
    | some y =>
      show some (if isSusp y = true then y else stuck y) = some y
      cases y <;> rfl
  unfold backS stuckS
  simp only [e]
theorem wpAny_still {α : Type} {M : Model} {A : Around} {s : Shared} {t : Sem α} {Q : α → Shared → Prop} {E : Value → Shared → Prop} (h : wpAny M A t Q E (stuckS s)) :
    wpAny M A t (fun a s' => ∃ s2, Pz s.gens s2 ∧ s' = backS s.gens s2 ∧ Q a s2) (fun e s' => ∃ s2, Pz s.gens s2 ∧ s' = backS s.gens s2 ∧ E e s2) s := fun Γ p hΓ => by
  have := wp_back M Γ s.gens t _ _ p (stuckS s) (pz_start s) (h Γ p hΓ)
  rw [back_start] at this
  exact this
theorem back_sleeper {s s2 : Shared} (z : Pz s.gens s2) {i : Nat} {x : GenState} (h : s.gens[i]? = some x) (hx : isSusp x = true) : (backS s.gens s2).gens[i]? = some x := back_same (z.st i x h hx) h hx
theorem back_bare {s s2 : Shared} (h1 : AllBare s.gens) (h2 : AllBare s2.gens) : AllBare (backS s.gens s2).gens := by
  intro x hx
  obtain ⟨i, hi, e⟩ := Array.mem_iff_getElem.mp hx
  have q : (backG s.gens s2.gens)[i]? = some x := by rw [← e]; exact Array.getElem?_eq_getElem hi
  rw [back_at] at q
  cases q2 : s2.gens[i]? with
  | none => rw [q2] at q; cases q
  | some y =>
    rw [q2] at q
    have hy := h2 y (Array.mem_of_getElem? q2)
    cases q3 : s.gens[i]? with
    | none =>
      rw [q3] at q
      cases q
      exact hy
    | some v =>
      rw [q3] at q
      have q : (if isSusp v = true then v else y) = x := Option.some.inj q
      split at q
      · rw [← q]; exact h1 v (Array.mem_of_getElem? q3)
      · rw [← q]; exact hy
theorem stuck_allBare {s : Shared} (h : AllBare s.gens) : AllBare (stuckS s).gens := by
  intro x hx
  obtain ⟨y, hy, rfl⟩ := Array.mem_map.mp hx
  rw [stuck_bare]
  exact h y hy
end GenW
namespace DL
open PySem PySem.Spec L2 PyProof.Rows GenW
section
variable {X : Cx} {W : WC} {pins : List Po} {σ : L2.St} {H : Hp} {s : Shared}
@[reducible] def calmX (X : Cx) : Cx := { X with xe := fun _ _ => False }
theorem calm_takes {w : WX} (hw : ∀ c d σ H, ¬ w c d σ H) : Takes (calmX X) w := fun u s' ⟨_, _, _, _, _, _, _, _, _, _, _, _, _, _, _, _, z⟩ => hw _ _ _ _ z
theorem inv_gensS (I : Inv X pins σ H s) {g : Array GenState} (hg : AllBare g) : Inv X pins σ H { s with gens := g } := I.call' (s' := { s with gens := g }) (ch := []) rfl Un.refl I.hok hg fun b z => by simp at z
theorem still {α : Type} {M : Model} {t : Sem α} {Q : α → Shared → Prop} (h : wpAny M X.A t Q (fun _ _ => False) (stuckS s)) :
    wpAny M X.A t (fun a s' => ∃ s2, Pz s.gens s2 ∧ s' = backS s.gens s2 ∧ Q a s2) X.xe s :=
  wpAny_mono (wpAny_still h) (fun _ _ x => x) fun e s' ⟨s2, z, q, x⟩ => x.elim
@[reducible] def Gm.from (G : Gm) (F : Hp) : Gm := { G with F0 := F }
theorem good_from {G : Gm} {F : Hp} {δ : Env} (g : Good G F δ σ H) : Good (G.from F) F δ σ H :=
  ⟨⟨g.g.js, g.g.jm, g.g.jn, g.g.cb, g.g.jt⟩, g.len, Same.refl F, g.fh, fun p q1 q2 => absurd q2 q1, g.bh, g.cf, g.jh, g.sl, g.di⟩
theorem good_to {G : Gm} {F F1 H0 H1 : Hp} {δ0 δ : Env} {σ0 σ : L2.St} {b : Nat} (g0 : Good G F δ0 σ0 H0) (g : Good ((G.from F).up b) F1 δ σ H1) : Good (G.up b) F1 δ σ H1 :=
  ⟨⟨g.g.js, g.g.jm, g.g.jn, g.g.cb, g.g.jt⟩, g.len, g0.f0.trans g.f0, g.fh, fun p q1 q2 => by
    cases c : F p with
    | none => exact g.fr p q1 c
    | some o =>
      rcases g0.fr p (by rw [c]; exact fun z => by cases z) q2 with z | ⟨vs, z⟩
      · exact .inl z
      · exact .inr ⟨vs, g.f0 p _ z⟩, g.bh, g.cf, g.jh, g.sl, g.di⟩
def mForG (m : MGen) (nms : List Str) (g : MG) (b : MS) : MS := fun ex E δ => m ex δ (fun out => forRun g b ex0 E out δ) (fun e => e.cls ∈ nms ∧ ex e δ)
theorem letOwned_gen {P : Program} {w : World} {A : Around} {E : Value → Shared → Prop} {tg : Expr} {v : Value} {a : Addr} {gi : Nat} {Q : Unit → Shared → Prop} (h : s.heap.IsGen a gi) (hQ : Q () s) : wpAny (model P w) A (letOwnedTupleGo tg (.ref a) v) Q E s := by
  obtain ⟨o, nm, qn, ho, hc, hd, _⟩ := h
  have key : wpAny (model P w) A (load a >>= fun o => match o.cls, o.data with
      | .type n, .fields vs => if (["enumerate", "zip", "dict_itemiterator", "dict_reverseitemiterator", "odict_iterator", "itertools.zip_longest", "itertools.pairwise"].contains n && vs[0]? == some (rawInt (match v with | .ref b => b | _ => 0))) = true then (rule "for.unpacks-the-owned-tuple" >>= fun _ => updateField a 0 .none) else pure ()
      | _, _ => pure ()) Q E s := by
    refine wpAny_bind (wpAny_load ho ?_)
    rw [hc, hd]
    have hn : (["enumerate", "zip", "dict_itemiterator", "dict_reverseitemiterator", "odict_iterator", "itertools.zip_longest", "itertools.pairwise"] : List String).contains "generator" = false := by decide
    simp only [hn, Bool.false_and, Bool.false_eq_true, if_false]
    exact wpAny_pure hQ
  unfold letOwnedTupleGo
  cases tg <;> first | exact wpAny_pure hQ | (cases v <;> first | exact wpAny_pure hQ | exact key)
def FWk (X : Cx) (ck : CKT) (L : Nat) (pins : List Po) (Gc : Gm) (τ : Env) (ts : L2.St) (δi : Env) (σi : L2.St) (out : List PyData) (run : List PyData → Env → Prop) (okP : Prop) : WkT := fun j Fy G F H v pr s =>
  G = Gc ∧ AwC (gndOf X ck L) Fy Gc F H v pr s ∧ v.heap.objs.size = L ∧ ∃ (σ : L2.St) (δ : Env), TrC X pins σ H v ∧ Good Gc F (δ ++ τ) (σ ++ ts) H ∧ δ.length = σ.length ∧ NoBor (δ ++ τ) ∧ (okP → run (out.drop j) δ) ∧ (j = 0 → δ = δi ∧ σ = σi)
theorem susp_of {M : Model} {A : Around} {R : GenEnd} {Y : Protocol} {n : Nat} {gs : GenState} {s : Shared} (h : gs.Goes M A R Y n (.send (.int 0 0)) s) : isSusp gs = true := by
  cases gs with
  | fresh c => exact absurd h.1 (by intro z; cases z)
  | suspended => rfl
  | running => exact h.elim
  | finished => exact h.elim
variable {k j : Nat} {e tg : Expr} {body : List Stmt} {pos : Pos} {m : MGen} {mg : MG} {mb : MS} {dom : List Nat}
theorem ds_forG (nms : List Str) (hp : PassesOwn (model X.prog X.w) X.A X.env X.xe) (cx : Ctx X W j) (h : DGE X W k e m 0) (hj : k + 3 ≤ j) (hst : Stops X nms) (hg : DG (calmX X) tg dom mg) (hb : Ctx (calmX X) (W0 W) j → PassesOwn (model X.prog X.w) X.A X.env (fun _ _ => False) → DSs (calmX X) (W0 W) body mb 0)
    (hs : ∀ x, foldedSetIterable e X.env x = pure x := by intro _; rfl) : DS X W (.For tg e body [] pos) (mForG m nms mg mb) 0 := by
  have c := cx.u
  have tk := cx.tk
  have hr := cx.hr.mono hj
  have hba := hb ⟨cx.gd, cx.hr, calm_takes fun _ _ _ _ z => z⟩ fun _ _ z => z.elim
  refine ⟨⟨fun pins s σ H D I q => ?_⟩⟩
  obtain ⟨ex, G, F, δ, τ, ts, E, nw, nb, eo, mm⟩ := q
  refine wpAny_For (thn (h.run pins s σ H ex G F δ τ ts [] [] _ _ I nw mm) fun v s1 ⟨sc, H1, F1, I1, g1, hG⟩ => ?_) hs
  have g1 : Good G F1 (δ ++ τ) (σ ++ ts) H1 := by
    have g0 : Good (G.up 0) F1 (δ ++ τ ++ []) (σ ++ ts ++ []) H1 := g1
    have g00 : Good (G.up 0) F1 (δ ++ τ) (σ ++ ts) H1 := by simpa using g0
    exact g00
  have I2 := made_inv I1 hG
  obtain ⟨a, gi, cd, go, pr, rfl, hLa, ha2, hgo, hisg, hgs, hos, hbr, hkp, hpr, out, wake⟩ := hG
  have low := low_of I1
  have hga0 := (hpr _ hgo).1
  refine wpAny_pyIter_gen (hisg _ hga0) ?_
  obtain ⟨L, hL⟩ : ∃ L, L = sc.heap.objs.size := ⟨_, rfl⟩
  rw [← hL] at low wake
  obtain ⟨run, hrun⟩ : ∃ run : List PyData → Env → Prop, run = forRun mg mb ex0 E := ⟨_, rfl⟩
  obtain ⟨okP, hokP⟩ : ∃ okP : Prop, okP = forRun mg mb ex0 E out δ := ⟨_, rfl⟩
  obtain ⟨Wk, hWk⟩ : ∃ Wk : WkT, Wk = FWk X W.ck L pins G τ ts δ σ out run okP := ⟨_, rfl⟩
  have hhd : X.A.handled = none := hr.hd
  have hdp : X.A.depth < recursionLimit := by have := hr.dp; show X.A.depth < _; omega
  -- the loop
  refine codeAny_forLoop_any (fun n s' => ∃ (j' : Nat) (σ' : L2.St) (δ' : Env) (F' H' : Hp) (pr' : List Po) (gs : GenState) (Fy : Hp), j' + n = out.length + 1 ∧ Inv X pins σ' H' s' ∧ Good G F' (δ' ++ τ) (σ' ++ ts) H' ∧ δ'.length = σ'.length ∧ NoBor (δ' ++ τ) ∧ (okP → run (out.drop j') δ') ∧ (j' = 0 → δ' = δ ∧ σ' = σ) ∧
      s'.gens[gi]? = some gs ∧ (∀ q ∈ pr', s'.heap.get? q.1 = some q.2 ∧ H' q.1 = none ∧ q.1 ∉ frs X.stack ∧ L ≤ q.1) ∧ (a, go) ∈ pr' ∧ L ≤ s'.heap.objs.size ∧ Same Fy F' ∧
      ∀ G2 F2 H2 v2 s2, Wk j' Fy G2 F2 H2 v2 pr' s2 → gs.Goes (model X.prog X.w) X.A.in1 (CRg (gndOf X W.ck L) [(a, go)] Wk out okP fun e => e.cls ∈ nms ∧ ex e δ) (CY (gndOf X W.ck L) [(a, go)] Wk out okP) n (.send .none) s2) ?_ (out.length + 1) ?_
  · rintro n s3 ⟨j3, σ3, δ3, F3, H3, pr3, gs, Fy, hj3, I3, g3, l3, nb3, run3, ini3, hgs3, hpr3, hgo3, hL3, sm3, goes⟩
    have I3r := inv_setGen (gi := gi) (x := .running) I3 rfl
    have wk3 : Wk j3 Fy G F3 H3 (cutS (s3.setGen gi .running) L) pr3 (s3.setGen gi .running) := by
      rw [hWk]
      exact ⟨rfl, awc_of I3r low hL3 g3 nw.k ⟨nw.ck.1, nw.ck.2⟩ sm3 hpr3, cut_size hL3, σ3, δ3, tr_cut I3r low, g3, l3, nb3, run3, ini3⟩
    have hgl : gi < s3.gens.size := (Array.getElem?_eq_some_iff.mp hgs3).1
    refine wpAny_passesOwn hp (wpAny_gsz (n := gi + 1) hgl (next_genG (A := X.A) hhd I3.nolimit hdp (hisg _ (hpr3 _ hgo3).1) hgs3 (goes _ _ _ _ _ wk3) (fun u s4 gs' hbare hv => ?_) (fun s4 hp4 h' hk' => ?_) fun e4 s4 hE => ?_))
    · intro hsz
      obtain ⟨j₀, Fy₀, G₀, F₀, H₀, v₀, pr₀, hj₀, hw₀, hok, d, x, F4, H4, pr4, hd4, rv, g4, lf, hpn, hkap⟩ := hv
      have hw₁ := hw₀
      rw [hWk] at hw₁
      obtain ⟨eG, aw, hv0, σ0, δ0, tr, gw, l0, nb0, run0, _⟩ := hw₁
      subst eG
      have hlt := (List.getElem?_eq_some_iff.mp hd4).1
      cases n with
      | zero =>
        have hj₀ : j₀ + 0 = out.length := hj₀
        omega
      | succ m' =>
      have hj₀ : j₀ + m' = out.length := hj₀
      have hbr4 : AllBare (s4.setGen gi gs').gens := allBare_set lf.bare hbare
      have I4 : Inv X pins σ0 H4 (s4.setGen gi gs') := tr H4 _ lf.os hbr4 lf.un lf.hok
      have g5 : Good G₀ F4 (δ0 ++ τ ++ [some (.d d)]) (σ0 ++ ts ++ [some x]) H4 := Good.ret (u := 0) (δ₁ := []) (σ₁ := []) gw rfl g4
      have run4 := run0 hok
      rw [drop_cons hd4, hrun] at run4
      have hpL : ∀ q ∈ pr4, L ≤ q.1 := fun q hq => by
        have := (lf.ob q hq).2.2.2.1
        rw [hv0] at this; exact this
      have pins4 : Inv X (pins ++ pr4) σ0 H4 (s4.setGen gi gs') := I4.pins_of fun p hp => (List.mem_append.mp hp).elim (fun z => I4.pin p (List.mem_append_right _ z)) fun z => by
        obtain ⟨q1, q2, q3, q4, q5⟩ := lf.ob p z
        have hq := hpL p z
        exact ⟨q1, q2, fun e => absurd (Nat.lt_of_lt_of_le low.lo hq) (by rw [e]; exact Nat.lt_irrefl _), I1.nofs (by rw [← hL]; exact hq), q5⟩
      show wpAny _ X.A (letOwnedTupleGo tg (.ref a) u) _ _ _
      refine letOwned_gen (hisg _ (lf.ob _ (hpn _ List.mem_cons_self)).1) ?_
      have Ia : Inv (calmX X) (pins ++ pr4) σ0 H4 (stuckS (s4.setGen gi gs')) := inv_xe (inv_gensS pins4 (stuck_allBare hbr4))
      refine wpAny_passesOwn hp (wpAny_mono (still (hg.pg.run (pins ++ pr4) _ σ0 H4 x u (fun σ5 H5 => ∃ (F5 : Hp) (δ5 : Env), δ5.length = σ5.length ∧ NoBor (δ5 ++ τ) ∧ Good (G₀.from F4) F5 (δ5 ++ τ) (σ5 ++ ts) H5 ∧ mb ex0 { nx := forRun mg mb ex0 E (out.drop (j₀ + 1)), ct := forRun mg mb ex0 E (out.drop (j₀ + 1)), bk := E.nx, rt := E.rt, ro := E.ro } δ5) Ia rv
        ⟨G₀.from F4, F4, δ0, τ, ts, .d d, _, nw.k, l0, nw.l2, good_from g5, run4, fun δ5 h5 σ5 F5 H5 k1 k2 k3 k4 g => ⟨F5, δ5, by omega, nb_mk (k4 (nb_left nb0)) (nb_right nb0), g, h5⟩⟩)) (fun _ s5 ⟨s5', z5, e5, h5⟩ => ?_) fun _ _ z => z)
      subst e5
      obtain ⟨σ5, H5, I5, F5, δ5, l5, nb5, gd5, rb5⟩ := h5
      have I5b : Inv X (pins ++ pr4) σ5 H5 (backS (s4.setGen gi gs').gens s5') := inv_gensS (inv_xe (xe := X.xe) I5) (back_bare hbr4 I5.bare)
      have hbr5 := I5b.bare
      have Ib : Inv (calmX X) (pins ++ pr4) σ5 H5 (stuckS (backS (s4.setGen gi gs').gens s5')) := inv_xe (inv_gensS I5b (stuck_allBare hbr5))
      let N : L2.St → Hp → Prop := fun σ6 H6 => ∃ (F6 : Hp) (δ6 : Env), δ6.length = σ6.length ∧ NoBor (δ6 ++ τ) ∧ Good (G₀.from F4) F6 (δ6 ++ τ) (σ6 ++ ts) H6 ∧ forRun mg mb ex0 E (out.drop (j₀ + 1)) δ6
      have up0 : ∀ {δ6 : Env} {b : Nat} {σ6 : L2.St} {F6 H6 : Hp} {T : Env} {T' : L2.St}, b ≤ 0 → Good ((G₀.from F4).up b) F6 (δ6 ++ T) (σ6 ++ T') H6 → Good (G₀.from F4) F6 (δ6 ++ T) (σ6 ++ T') H6 := fun {δ6 b σ6 F6 H6 T T'} hb g => by
        cases Nat.le_zero.mp hb
        exact g
      refine wpAny_passesOwn hp (wpAny_mono (still (hba.pss.run (pins ++ pr4) _ σ5 H5 { nx := N, ct := N, bk := D.nx, rt := D.rt } Ib
        ⟨ex0, G₀.from F4, F5, δ5, τ, ts, { nx := forRun mg mb ex0 E (out.drop (j₀ + 1)), ct := forRun mg mb ex0 E (out.drop (j₀ + 1)), bk := E.nx, rt := E.rt, ro := E.ro }, ⟨nw.k, l5, nw.l2, by simpa using gd5, fun b F' δ' σ' H' τ1 ts1 e cls d hb hl g' he hx => hx.elim, nw.ck⟩, nb5,
          ⟨fun δ6 h6 b σ6 F6 H6 hb l6 nb6 g6 => ⟨F6, δ6, l6, nb6, up0 hb g6, h6⟩, fun δ6 h6 b σ6 F6 H6 hb l6 nb6 g6 => eo.nx δ6 h6 b σ6 F6 H6 hb l6 nb6 (good_to g5 g6), fun δ6 h6 b σ6 F6 H6 hb l6 nb6 g6 => ⟨F6, δ6, l6, nb6, up0 hb g6, h6⟩, fun r h ha b v F H hb g => eo.rt r h ha b v F H hb (good_to g5 g), fun r δ h b v σ F H hb l g => eo.ro r δ h b v σ F H hb l (good_to g5 g)⟩, rb5⟩))
        (fun f s6 ⟨s6', z6, e6, h6⟩ => ?_) fun _ _ z => z)
      subst e6
      have back6 : ∀ {σ6 : L2.St} {H6 : Hp}, Inv (calmX X) (pins ++ pr4) σ6 H6 s6' → Inv X (pins ++ pr4) σ6 H6 (backS (backS (s4.setGen gi gs').gens s5').gens s6') := fun {σ6 H6} I6 => inv_gensS (inv_xe (xe := X.xe) I6) (back_bare hbr5 I6.bare)
      have again : ∀ {σ6 : L2.St} {H6 : Hp}, Inv (calmX X) (pins ++ pr4) σ6 H6 s6' → N σ6 H6 → ∃ m2, m2 < m' + 1 ∧ ∃ (j' : Nat) (σ' : L2.St) (δ' : Env) (F' H' : Hp) (pr' : List Po) (gs : GenState) (Fy : Hp), j' + m2 = out.length + 1 ∧ Inv X pins σ' H' (backS (backS (s4.setGen gi gs').gens s5').gens s6') ∧ Good G₀ F' (δ' ++ τ) (σ' ++ ts) H' ∧ δ'.length = σ'.length ∧ NoBor (δ' ++ τ) ∧ (okP → run (out.drop j') δ') ∧ (j' = 0 → δ' = δ ∧ σ' = σ) ∧
          (backS (backS (s4.setGen gi gs').gens s5').gens s6').gens[gi]? = some gs ∧ (∀ q ∈ pr', (backS (backS (s4.setGen gi gs').gens s5').gens s6').heap.get? q.1 = some q.2 ∧ H' q.1 = none ∧ q.1 ∉ frs X.stack ∧ L ≤ q.1) ∧ (a, go) ∈ pr' ∧ L ≤ (backS (backS (s4.setGen gi gs').gens s5').gens s6').heap.objs.size ∧ Same Fy F' ∧
          ∀ G2 F2 H2 v2 s2, Wk j' Fy G2 F2 H2 v2 pr' s2 → gs.Goes (model X.prog X.w) X.A.in1 (CRg (gndOf X W.ck L) [(a, go)] Wk out okP fun e => e.cls ∈ nms ∧ ex e δ) (CY (gndOf X W.ck L) [(a, go)] Wk out okP) m2 (.send .none) s2 := fun {σ6 H6} I6a n6 => by
        have I6 := back6 I6a
        obtain ⟨F6, δ6, l6, nb6, gd6, r6⟩ := n6
        have gd7 : Good G₀ F6 (δ6 ++ τ) (σ6 ++ ts) H6 := good_to (b := 0) g5 gd6
        have prs6 : ∀ q ∈ pr4, (backS (backS (s4.setGen gi gs').gens s5').gens s6').heap.get? q.1 = some q.2 ∧ H6 q.1 = none ∧ q.1 ∉ frs X.stack ∧ L ≤ q.1 := fun q hq => by
          obtain ⟨p1, p2, _⟩ := I6.pin q (List.mem_append_right _ (List.mem_append_right _ hq))
          exact ⟨p1, p2, (lf.ob q hq).2.2.1, hpL q hq⟩
        have hga6 := prs6 _ (hpn _ List.mem_cons_self)
        have hL6 : L ≤ (backS (backS (s4.setGen gi gs').gens s5').gens s6').heap.objs.size := Nat.le_trans hga6.2.2.2 (Nat.le_of_lt (Heap.lt_size hga6.1))
        have I6u := I6.unpinned
        have I6r := inv_setGen (gi := gi) (x := .running) I6u rfl
        have sus : isSusp gs' = true := susp_of (hkap G₀ F6 H6 (cutS ((backS (backS (s4.setGen gi gs').gens s5').gens s6').setGen gi .running) L) ((backS (backS (s4.setGen gi gs').gens s5').gens s6').setGen gi .running) (by
          rw [hWk]
          exact ⟨rfl, awc_of I6r low hL6 gd7 nw.k ⟨nw.ck.1, nw.ck.2⟩ gd6.f0 prs6, cut_size hL6, σ6, δ6, tr_cut I6r low, gd7, l6, nb6, fun _ => by rw [hrun]; exact r6, fun z => absurd z (Nat.succ_ne_zero _)⟩)).2
        have hsz4 : gi < s4.gens.size := by
          have q : (s4.setGen gi gs').gens.size = s4.gens.size := setGen_size _ _ _
          have hsz' : gi + 1 ≤ (s4.setGen gi gs').gens.size := hsz
          omega
        refine ⟨m', by omega, j₀ + 1, σ6, δ6, F6, H6, pr4, gs', F4, by omega, I6u, gd7, l6, nb6, fun _ => by rw [hrun]; exact r6, fun z => absurd z (Nat.succ_ne_zero _), back_sleeper z6 (back_sleeper z5 (setGen_at hsz4) sus) sus, prs6, hpn _ List.mem_cons_self, hL6, gd6.f0, fun G2 F2 H2 v2 s2 hw => (hkap G2 F2 H2 v2 s2 hw).1⟩
      cases f with
      | next => obtain ⟨σ6, H6, I6, n6⟩ := h6; exact again I6 n6
      | cont => obtain ⟨σ6, H6, I6, n6⟩ := h6; exact again I6 n6
      | brk => obtain ⟨σ6, H6, I6, q6⟩ := h6; exact ⟨σ6, H6, (back6 I6).unpinned, q6⟩
      | ret u6 => obtain ⟨x6, σ6, H6, I6, r6, q6⟩ := h6; exact ⟨x6, σ6, H6, (back6 I6).unpinned, r6, q6⟩
    · intro _
      obtain ⟨j₀, Fy₀, G₀, F₀, H₀, v₀, pr₀, hj₀, hw₀, hok, F4, H4, g4, lf⟩ := hp4
      rw [hWk] at hw₀
      obtain ⟨eG, aw, hv0, σ0, δ0, tr, gw, l0, nb0, run0, _⟩ := hw₀
      subst eG
      have I4 : Inv X pins σ0 H4 { s4.setGen gi .finished with heap := h' } := tr H4 _ lf.os (allBare_set lf.bare rfl) (lf.un.trans (Un.kept hk')) (lf.hok.kept hk')
      have gb : Good (G₀.up 0) F4 (δ0 ++ τ) (σ0 ++ ts) H4 := gw.back (u := 0) (δ₁ := []) (σ₁ := []) g4
      have r4 := run0 hok
      rw [hj₀, List.drop_length, hrun] at r4
      exact wpAny_execs_nil ⟨σ0, H4, I4, eo.nx δ0 r4 0 σ0 F4 H4 (Nat.le_refl _) l0 nb0 gb⟩
    · obtain ⟨s₀, Fy₀, G₀, F₀, H₀, v₀, pr₀, hw₀, cxe, hpn⟩ := hE
      rw [hWk] at hw₀
      obtain ⟨eG, aw, hv0, σ0, δ0, tr, gw, l0, nb0, run0, ini⟩ := hw₀
      subst eG
      obtain ⟨rfl, rfl⟩ := ini rfl
      have nofr : ∀ b o, X.base.get? b = some o → b ∉ frs X.stack := fun b o eb hm => by
        rcases List.mem_cons.mp (I1.stkSub b hm) with z | z
        · have h1 := Heap.lt_size eb
          have h2 := Nat.le_trans I1.ok.bsz I1.ok.above
          rw [z] at h1
          exact absurd (Nat.lt_of_lt_of_le h1 h2) (Nat.lt_irrefl _)
        · exact I1.ok.nofr eb z
      have kin := kin_cx I1.ok.mod nofr aw cxe
      refine ⟨hisg _ (hpn _ List.mem_cons_self), notStop_of (nostop hst fun e z => z.1) kin cxe, fun _ => ?_⟩
      refine tk _ _ (xe_of_tr tr (fun cls d H' z => ?_) (v := v₀) (s' := s4.setGen gi .finished) (E := XGen X.K X.mg (G₀.into F₀ H₀) fun e => e.cls ∈ nms ∧ ex e δ0) ?_)
      · obtain ⟨e', F', ⟨_, z1⟩, g', z2⟩ := z
        have gb : Good (G₀.up 0) F' _ _ H' := gw.back (u := 0) (δ₁ := []) (σ₁ := []) g'
        exact nw.link 0 F' δ0 σ0 H' [] [] e' cls d (Nat.le_refl _) nw.l1 (by simpa using gb) z2 z1
      · obtain ⟨a', B', H', cls, d, z1, fl, z2, ub, z3, z4, z5, z6⟩ := cxe
        exact ⟨a', B', H', cls, d, z1, fl, z2, ub, z3, z4, allBare_set z5 rfl, z6⟩
  · have hrm : Room k X.A.in1 := ⟨hr.hd, by have := hr.dp; show X.A.depth + 3 * k + 5 < _; omega, by have := hr.un; show X.A.units + 1 + 16 * k + 200 < _; omega⟩
    refine ⟨0, σ, δ, F1, H1, pr, _, F1, Nat.zero_add _, I2, g1, nw.l1, nb, fun z => by rw [List.drop_zero, hrun]; rw [hokP] at z; exact z, fun _ => ⟨rfl, rfl⟩, hgs, fun q hq => ?_, hgo, ?_, Same.refl _, fun G2 F2 H2 v2 s2 hw => ⟨rfl, ?_⟩⟩
    · obtain ⟨q1, q2, _⟩ := hpr q hq
      have q2 : sc.heap.objs.size ≤ q.1 := q2
      exact ⟨q1, I1.hok.fresh q2, fun z => absurd (Nat.lt_of_lt_of_le (low.fr _ z) (by rw [hL]; exact q2)) (Nat.lt_irrefl _), by rw [hL]; exact q2⟩
    · rw [hL]
      exact Nat.le_trans (Nat.le_of_lt hLa) (Nat.le_of_lt ha2)
    · rw [hokP]
      rw [hokP] at hWk
      exact wake X.A.in1 Wk c.gd hrm I1.ok.frames (fun j Fy G' F' H' v' pr' s' z => by rw [hWk] at z; obtain ⟨rfl, z, _⟩ := z; exact z) G2 F2 H2 v2 s2 hw
end
end DL
namespace DL
open PySem PySem.Spec L2 PyProof.Rows GenW
structure DGenK (P : Program) (w : World) (K : PySem.W.Frag) (mg : Str → Option Value) (base : Heap) (CK : CKT) (x pk : Str) (k n : Nat) (dv : PyData) (mf : MG1) : Prop where
  ex : ∃ f fd ps, mg x = some (.ref f) ∧ PySem.W.keepIn K (.ref f) = true ∧ KBind K fd ps n pk ∧ ps.length = n + 1 ∧ (∃ ds dvs, Binds K fd ps ds ∧ Vals dvs ds ∧ dvs.length = 1 ∧ ∀ F, AtL K F dvs [dv]) ∧ GenG P w K mg base CK k f fd ps mf
theorem dgenK_of {P : Program} {w : World} {K : PySem.W.Frag} {mg : Str → Option Value} {base : Heap} {CK : CKT} {k n : Nat} {x qual pk : Str} {st : Stmt} {f : Addr} {fd : FuncData} {N ps : List Str} {mf : MG1} {pre rest : List Stmt} {m1 : MS} {m2 : MGn} {dv : PyData} (hm : mg x = some (.ref f)) (T : L2.Fun K x qual st f fd) (hb : KBind K fd ps n pk) (hn : ps.length = n + 1)
    (hd : ∃ ds dvs, Binds K fd ps ds ∧ Vals dvs ds ∧ dvs.length = 1 ∧ ∀ F, AtL K F dvs [dv])
    (S : GScope N ps (L2.defScope st)) (nc : ∀ y ∈ (L2.defScope st).names, y.2 ≠ .cell) (hbd : L2.defBody st = pre ++ rest)
    (h1 : ∀ (cdv : Value) A outer s E pn v H, Ctx (gxE P w K mg base N qual (L2.defScope st) f cdv A outer s E pn v H) ⟨fun cls d _ H => E cls d H, CK⟩ k → DSs (gxE P w K mg base N qual (L2.defScope st) f cdv A outer s E pn v H) ⟨fun cls d _ H => E cls d H, CK⟩ pre m1 0)
    (h2 : ∀ (cdv : Value) (A : Around) outer s H E pn, (∀ v H1, Ctx (atE (gcxOf P w K mg base N qual (L2.defScope st) f cdv A outer s H E pn) v H1) ⟨fun _ _ _ _ => False, CK⟩ k) → DYs (gcxOf P w K mg base N qual (L2.defScope st) f cdv A outer s H E pn) ⟨fun _ _ _ _ => False, CK⟩ rest m2)
    (post : ∀ as R ex, as.length = ps.length → mf as R ex → ∃ out, m1 (fun e _ => ex e) { nx := fun δ => m2 { nx := fun j _ => j = out.length ∧ R out, out := out, ok := R out } 0 δ, rt := fun _ => False, bk := fun _ => False, ct := fun _ => False, ro := fun _ _ => False } (startD N.length as)) :
    DGenK P w K mg base CK x pk (k + 1) n dv mf := by
  obtain ⟨oc, od, kV, doc, pm, an, cdv, ct, osl, rfl, lk, hcd⟩ := T.ex
  exact ⟨f, _, ps, hm, T.kp, hb, hn, hd, gen_of lk hcd S nc hbd (h1 cdv) (fun A outer s H E pn hg hr => h2 cdv A outer s H E pn fun v H1 => ⟨hg, hr, takesF⟩) post⟩
def mGCallK (n : Nat) (mf : MG1) (t : MA) (me : ME) : MGen := fun ex δ R Ex => t ex δ fun xs => me ex δ fun y => match argsD (xs ++ [y]) with
  | some as => as.length = n + 1 ∧ sleepy (as.map some) = true ∧ mf as R Ex
  | none => False
def mGCallD (n : Nat) (dv : PyData) (mf : MG1) (t : MA) : MGen := fun ex δ R Ex => t ex δ fun xs => match argsD xs with
  | some as => as.length = n ∧ sleepy (as.map some) = true ∧ mf (as ++ [.d dv]) R Ex
  | none => False
theorem vals_one {z : V} {ws : List Value} (h : Vals [z] ws) : ∃ u, ws = [u] ∧ RelV z u := by
  cases h with
  | cons h1 h2 => cases h2; exact ⟨_, rfl, h1⟩
theorem atL_one {K : PySem.W.Frag} {dvs : List V} {dv : PyData} (h : ∀ F, AtL K F dvs [dv]) : ∃ dw, dvs = [dw] ∧ ∀ F, At K F dw dv := by
  have h0 := h fun _ => none
  cases h0 with
  | cons a b =>
    cases b
    exact ⟨_, rfl, fun F => by cases h F with | cons a _ => exact a⟩
section
variable {X : Cx} {W : WC} {k j : Nat} {n : Nat} {e e0 : Expr} {es : List Expr} {x pk : Str} {p pos kp : Pos} {mf : MG1} {mas : MA} {me : ME} {dv : PyData}
theorem dge_callK (cx : Ctx X W j) (F : DGenK X.prog X.w X.K X.mg X.base W.ck x pk k n dv mf) (hk0 : k ≤ j) (hg : Gl X x) (ha : DA X W (e :: es) mas 0) (hy : DE X W e0 me 0) (hdb : (x == ("__debug__" : Str)) = false := by decide)
    (hall : (backToKw pos (keywordEach [⟨some pk, e0, kp⟩] X.env)).all (·.1.isSome) = true := by rfl) (hks : (backToKw pos (keywordEach [⟨some pk, e0, kp⟩] X.env)).filterMap (·.1) = [pk] := by rfl)
    (he : starEach (e :: es) X.env = (false, eval e X.env) :: starEach es X.env := by rfl) (hpl : ((backTo pos (starEach (e :: es) X.env)).any (·.1) || (backToKw pos (keywordEach [⟨some pk, e0, kp⟩] X.env)).any (·.1.isNone)) = false := by rfl) :
    DGE X W k (.Call (.Name x p) (e :: es) [⟨some pk, e0, kp⟩] pos) (mGCallK n mf mas me) 0 := by
  obtain ⟨f, fd, ps, hm, hkp, hb, hn, _, FG⟩ := F.ex
  have c := cx.u
  have hr := cx.hr.mono hk0
  refine ⟨fun pins s σ H ex G F δ τ ts τ1 ts1 R Ex I nw q => ?_⟩
  have nw' : Now X.K X.mg W (0 + (0 + 0)) ex G F δ σ τ ts τ1 ts1 H := nw
  refine wpAny_Call_Name_kw (ld_glob I hg hm ?_ hdb)
  have lift : liftA X.K X.mg W 0 mas σ H fun vs H1 => liftE X.K X.mg W 0 me σ H1 fun gv H2 => ∃ F1 as, Good (G.up 0) F1 (δ ++ τ ++ τ1) (σ ++ ts ++ ts1) H2 ∧ as.length = (vs ++ [gv]).length ∧ (∀ x ∈ as, x.arg = true) ∧ as.length = n + 1 ∧ sleepy (as.map some) = true ∧ mf as R Ex ∧ Good ((G.up 0).into F1 H2) F1 (as.map some) ((vs ++ [gv]).map some) H2 := by
    refine ⟨ex, G, F, δ, τ, ts, τ1, ts1, _, nw'.fst, q, fun xs hxs vs F1 H1 hl g1 => ?_⟩
    refine ⟨ex, G.up 0, F1, δ, τ, ts, _, _, _, (nw'.after g1).fst, hxs, fun y hy gv F2 H2 g2 => ?_⟩
    split at hy
    · rename_i as ea
      obtain ⟨h1, h2, h3⟩ := hy
      have g3 : Good (G.up 0) F2 (δ ++ τ ++ τ1 ++ (xs ++ [y]).map some) (σ ++ ts ++ ts1 ++ (vs ++ [gv]).map some) H2 := by
        rw [up_up] at g2
        simpa only [List.append_assoc, List.map_append, List.map_cons, List.map_nil] using g2
      obtain ⟨a1, a2⟩ := argsD_arg ea
      obtain ⟨F3, s3, g4⟩ := fix_args (xs ++ [y]) g3 ea
      have hla : as.length = (vs ++ [gv]).length := by rw [a1]; simp [hl]
      have gb := g4.cut (by simpa using hla)
      exact ⟨F3, as, gb, hla, a2, h1, h2, h3, gb.into a2 hla fun i x e => Good.nth hla g4 e⟩
    · exact hy.elim
  refine PySem.W.callWith_KW (h₀ := X.base) I.ok.mod.kin hkp hall (thn (ha.pa.run pos pins s σ H _ I lift) fun us s1 ⟨vs, H1, I1, r, q⟩ => ?_) hpl he
  refine thn ((pk_cons (kpos := kp) (nm := some pk) hy.pe pk_nil).run pos pins s1 σ H1 (fun zs H2 => ∃ gv, zs = [gv] ∧ ∃ F1 as, Good (G.up 0) F1 (δ ++ τ ++ τ1) (σ ++ ts ++ ts1) H2 ∧ as.length = (vs ++ [gv]).length ∧ (∀ x ∈ as, x.arg = true) ∧ as.length = n + 1 ∧ sleepy (as.map some) = true ∧ mf as R Ex ∧ Good ((G.up 0).into F1 H2) F1 (as.map some) ((vs ++ [gv]).map some) H2) I1 ?_) fun ws s2 ⟨zs, H2, I2, rz, z, ez, q2⟩ => ⟨I2.kIn, ?_⟩
  · show liftE X.K X.mg W 0 me σ H1 fun y H2 => ∃ z, [y] = [z] ∧ _
    exact liftE_mono q fun y H2 hq => ⟨y, rfl, hq⟩
  · rw [hks]
    subst ez
    obtain ⟨u1, rfl, rz1⟩ := vals_one rz
    · obtain ⟨F1, as, gb, hla, harg, hln, hsl, hmf, ga⟩ := q2
      have r2 : Vals (vs ++ [z]) (us ++ [u1]) := Vals.append r (.cons rz1 .nil)
      have hlu : (us ++ [u1]).length = ps.length := by rw [← r2.length, ← hla, hln, hn]
      have hlu' : us.length = n := by
        rw [List.length_append, List.length_singleton] at hlu
        omega
      have b := hb s2 us u1 I2.kIn hlu'
      refine wpAny_call (codeAny_mono (FG.run X.A X.stack s2 H2 ⟨us, [(pk, u1)]⟩ (us ++ [u1]) (vs ++ [z]) ((G.up 0).into F1 H2) F1 as R Ex c.gd hr I2.env0 b r2 hlu nw.k ⟨nw.ck.1, nw.ck.2⟩ hla harg hsl ga hmf) fun res s' hq => ?_)
      match res, hq with
      | .ok (.ret v), hq => exact ⟨s2, H2, F1, I2, gb, hq⟩
theorem dge_callD (cx : Ctx X W j) (F : DGenK X.prog X.w X.K X.mg X.base W.ck x pk k n dv mf) (hk0 : k ≤ j) (hg : Gl X x) (ha : DA X W (e :: es) mas 0) (hdb : (x == ("__debug__" : Str)) = false := by decide) (he : starEach (e :: es) X.env = (false, eval e X.env) :: starEach es X.env := by rfl) (hpl : (backTo pos (starEach es X.env)).any (·.1) = false := by rfl) :
    DGE X W k (.Call (.Name x p) (e :: es) [] pos) (mGCallD n dv mf mas) 0 := by
  obtain ⟨f, fd, ps, hm, hk, _, hn, ⟨ds, dvs, hb, hdv, hdl, hat⟩, FG⟩ := F.ex
  have c := cx.u
  have hr := cx.hr.mono hk0
  refine ⟨fun pins s σ H ex G F δ τ ts τ1 ts1 R Ex I nw q => ?_⟩
  refine wpAny_Call_Name_kw (ld_glob I hg hm ?_ hdb)
  have lift : liftA X.K X.mg W 0 mas σ H fun vs H1 => ∃ F1 as, Good (G.up 0) F1 (δ ++ τ ++ τ1) (σ ++ ts ++ ts1) H1 ∧ as.length = vs.length ∧ (∀ x ∈ as, x.arg = true) ∧ as.length = n ∧ sleepy (as.map some) = true ∧ mf (as ++ [.d dv]) R Ex ∧ Good ((G.up 0).into F1 H1) F1 (as.map some) (vs.map some) H1 := by
    refine ⟨ex, G, F, δ, τ, ts, τ1, ts1, _, nw, q, fun xs hxs vs F1 H1 hl g1 => ?_⟩
    split at hxs
    · rename_i as ea
      obtain ⟨h1, h2, h3⟩ := hxs
      obtain ⟨a1, a2⟩ := argsD_arg ea
      obtain ⟨F2, s2, g2⟩ := fix_args xs g1 ea
      have hla : as.length = vs.length := a1.trans hl
      have gb := g2.cut (by simpa using hla)
      exact ⟨F2, as, gb, hla, a2, h1, h2, h3, gb.into a2 hla fun i x e => Good.nth hla g2 e⟩
    · exact hxs.elim
  refine PySem.W.callWith_K (h₀ := X.base) I.ok.mod.kin hk (thn (ha.pa.run pos pins s σ H _ I lift) fun us s1 ⟨vs, H1, I1, r, F1, as, gb, hla, harg, hln, hsl, hmf, ga⟩ => ⟨I1.kIn, ?_⟩) he hpl
  have r2 : Vals (vs ++ dvs) (us ++ ds) := Vals.append r hdv
  have hlu : (us ++ ds).length = ps.length := by rw [← r2.length, List.length_append, ← hla, hln, hdl, hn]
  have b := hb s1 us I1.kIn hlu
  obtain ⟨dw, rfl, hat1⟩ := atL_one hat
  have hd1 : At ((G.up 0).into F1 H1).K F1 dw dv := by
    rw [show ((G.up 0).into F1 H1).K = X.K from nw.k]
    exact hat1 F1
  have ga2 : Good ((G.up 0).into F1 H1) F1 ((as ++ [DV.d dv]).map some) ((vs ++ [dw]).map some) H1 := by
    have := ga.pushD hd1
    simpa only [List.map_append, List.map_cons, List.map_nil] using this
  have hsl2 : sleepy ((as ++ [DV.d dv]).map some) = true := by
    rw [List.map_append]
    exact sleepy_app hsl rfl
  refine wpAny_call (codeAny_mono (FG.run X.A X.stack s1 H1 ⟨us, []⟩ (us ++ ds) (vs ++ [dw]) ((G.up 0).into F1 H1) F1 (as ++ [.d dv]) R Ex c.gd hr I1.env0 b r2 hlu nw.k ⟨nw.ck.1, nw.ck.2⟩ (by simp [hla]) (fun z hz => ?_) hsl2 ga2 hmf) fun res s' hq => ?_)
  · rcases List.mem_append.mp hz with hz | hz
    · exact harg z hz
    · rw [List.mem_singleton.mp hz]; rfl
  · match res, hq with
    | .ok (.ret v), hq => exact ⟨s1, H1, F1, I1, gb, hq⟩
end
end DL
namespace DL
open PySem PySem.Spec L2 PyProof.Rows GenW
section
variable {X : Cx} {W : WC} {pins : List Po} {σ : L2.St} {H : Hp} {s : Shared} {G : Gm} {F F' H' : Hp} {δ : Env}
theorem Good.layH {p : Addr} {o : HO} (g : Good G F δ σ H) (hp : H p = none) : Good G F δ σ (upd H p o) :=
  (g.newG (y := .raw (.ref p)) hp (o := o) fun _ _ _ _ => rfl).pop
theorem Good.unlayH {p : Addr} {o : Obj} {u : HO} (g : Good G F δ σ H) (hp : H p = some (.frz o u)) (hf : F p = none) (hc : ¬ G.C p) (hb : G.B p = none)
    (hns : ∀ (i : Nat) (x : DV), δ[i]? = some (some x) → (x.isOwn || x.isBor) = true → σ[i]? ≠ some (some (.ref p))) : Good G F δ σ (delH H p) := by
  have ne : ∀ q z, F q = some z → q ≠ p := fun q z e h => by rw [h, hf] at e; cases e
  refine ⟨g.g, g.len, g.f0, fun q z e => ?_, g.fr, fun q z c e => ?_, g.cf, g.g.js _ _ _ g.jh (fun b c => delH_ne (fun z => hc (z ▸ c))) (fun b x e => ?_), fun i z e => ?_, g.di⟩
  · rw [delH_ne (ne q z e)]
    exact g.fh _ _ e
  · rw [delH_ne (fun h => by rw [h, hb] at e; cases e)]
    exact g.bh _ _ c e
  · rw [delH_ne (fun h => by rw [h, hp] at e; cases e)]
    exact e
  · obtain ⟨w, e', h'⟩ := g.sl i z e
    refine ⟨w, e', h'.keep (fun _ _ q => q) (fun l vs hx hl hv => ?_) fun l _ _ hl => hl⟩
    rw [delH_ne (fun h => hns i z e hx (by rw [e', hl, h]))]
    exact hv
def NsO (o : Obj) : Prop := ∃ es ep, o.data = .dict es ep ∧ StrKeys es
theorem NsO.ns {o : Obj} {h : Heap} {C : Addr} (n : NsO o) (e : h.get? C = some o) : ∃ m, h.Ns C m := by
  obtain ⟨es, ep, h1, h2⟩ := n
  exact ⟨_, o, es, ep, e, h1, h2, fun _ => rfl⟩
theorem NsO.of {h : Heap} {C : Addr} {m : Str → Option Value} (n : h.Ns C m) : ∃ o, h.get? C = some o ∧ NsO o := by
  obtain ⟨o, es, ep, h1, h2, h3, _⟩ := n
  exact ⟨o, h1, es, ep, h2, h3⟩
def CWk (X : Cx) (ck : CKT) (L : Nat) (pins : List Po) (σ : L2.St) (Gc : Gm) (A : Env) (B : L2.St) (D C : Addr) (out : List PyData) : WkT := fun j Fy G F H v pr s =>
  G = Gc ∧ AwC (gndOf X ck L) Fy Gc F H v pr s ∧ v.heap.objs.size = L ∧ ∃ (Ha : Hp) (o : Obj), H = upd Ha C (.frz o (.own 0)) ∧ Ha C = none ∧ NsO o ∧ TrC X pins σ Ha v ∧ Good Gc F (A ++ [some (.own (out.take j))]) (B ++ [some (.ref D)]) Ha
theorem comp_back {L : Nat} {C : Addr} {o : Obj} {v s1 s2 : Shared} {Ha H1 : Hp} {pr : List Po} (tr : TrC X pins σ Ha v) (hL : v.heap.objs.size = L) (hLC : L ≤ C) (hC : Ha C = none) (lf : Left X.prog X.w (frs X.stack) (upd Ha C (.frz o (.own 0))) v pr H1 s1)
    (ho : s2.os = s1.os) (hb : AllBare s2.gens) (hk : ∀ b u, b ≠ C → s1.heap.get? b = some u → s2.heap.get? b = some u) : Inv X pins σ (delH H1 C) s2 := by
  have hF : H1 C = some (.frz o (.own 0)) := lf.un.frzs _ _ _ upd_same
  have nv : ∀ b u, v.heap.get? b = some u → b ≠ C := fun b u e z => by
    have := Heap.lt_size e
    rw [hL, z] at this
    exact absurd (Nat.lt_of_lt_of_le this hLC) (Nat.lt_irrefl _)
  have na : ∀ b u, Ha b = some u → b ≠ C := fun b u e z => by rw [z, hC] at e; cases e
  refine tr (delH H1 C) s2 (ho.trans lf.os) hb ⟨fun b u e n hb hx => ?_, fun b u e n hb hx => ?_, fun b u e n hx => ?_, fun b u e hx => ?_, fun b xs e => ?_, fun b u xs e => ?_, fun b ps e => ?_⟩ fun a u e => ?_
  · exact hk b u (nv b u e) (lf.un.keep b u e (by rw [upd_ne (nv b u e)]; exact n) hb hx)
  · obtain ⟨sl, q⟩ := lf.un.slot b u e (by rw [upd_ne (nv b u e)]; exact n) hb hx
    exact ⟨sl, hk b _ (nv b u e) q⟩
  · rw [delH_ne (nv b u e)]
    exact lf.un.free b u e (by rw [upd_ne (nv b u e)]; exact n) hx
  · obtain ⟨u', q⟩ := lf.un.there b u e hx
    exact ⟨u', hk b _ (nv b u e) q⟩
  · rw [delH_ne (na _ _ e)]
    exact lf.un.tups b xs (by rw [upd_ne (na _ _ e)]; exact e)
  · rw [delH_ne (na _ _ e)]
    exact lf.un.frzs b u xs (by rw [upd_ne (na _ _ e)]; exact e)
  · rw [delH_ne (na _ _ e)]
    exact lf.un.tbls b ps (by rw [upd_ne (na _ _ e)]; exact e)
  · have ne : a ≠ C := fun z => by rw [z, delH_same] at e; cases e
    rw [delH_ne ne] at e
    refine (lf.hok a u e).stay (fun b w hb q => hk b w (fun z => ?_) q) (fun b q => ?_) fun b xs q => ?_
    · rcases hb with rfl | hb
      · exact ne z
      · rw [z, hF] at hb; cases hb
    · rw [delH_ne (fun z => by rw [z, hF] at q; cases q)]; exact q
    · rw [delH_ne (fun z => by rw [z, hF] at q; cases q)]; exact q
theorem comp_f4 {Gc : Gm} {F₀ F4 Ha H4 : Hp} {C : Addr} {o : Obj} {A δ : Env} {B σ : L2.St} (g0 : Good Gc F₀ A B Ha) (hC : Ha C = none) (g4 : Good (Gc.into F₀ (upd Ha C (.frz o (.own 0)))) F4 δ σ H4) (h4 : H4 C = some (.frz o (.own 0))) : F4 C = none := by
  cases q : F4 C with
  | none => rfl
  | some z =>
    have f0 : F₀ C = none := by
      cases q2 : F₀ C with
      | none => rfl
      | some u => rw [g0.fh _ _ q2] at hC; cases hC
    rcases g4.fr C (by rw [q]; exact fun z => by cases z) f0 with w | ⟨vs, w⟩
    · have w : upd Ha C (.frz o (.own 0)) C = none := w
      rw [upd_same] at w; cases w
    · have := g4.fh _ _ w
      rw [h4] at this; cases this
end
def mLcG (m : MGen) : ME := fun ex δ Q => m ex δ (fun out => out.length ≤ sizeLine ∧ Q (.own out)) (fun _ => False)
section
variable {X : Cx} {W : WC} {k j : Nat} {iter : Expr} {m : MGen} {scope : Scope} {own : List (Str × Nat)} {y : Str} {py py2 pos : Pos}
theorem de_lcG (cx : Ctx X W j) (h : DGE X W k iter m 0) (hj : k + 3 ≤ j) (ok : BlkOk X.N X.env.scope scope own) (hy : scope.names.lookup y = some .local) (hdb : (y == ("__debug__" : Str)) = false := by decide) (hs : ∀ x, foldedSetIterable iter X.env x = pure x := by intro _; rfl) :
    DE X W (.ListComp (.Name y py2) [⟨.Name y py, iter, [], 0⟩] scope pos) (mLcG m) 0 := by
  have c := cx.u
  have hr := cx.hr.mono hj
  refine ⟨⟨fun pins s σ H Q I q => ?_⟩⟩
  obtain ⟨ex, G, F, δ, τ, ts, τ1, ts1, R, nw, hm, kk⟩ := q
  rw [eval_ListComp]
  have hfree : ∀ y ∈ scope.names, y.2 = .free → ∃ c, X.env.cells.lookup y.1 = some c := fun y hy e => by
    rcases ok.free y hy e with k | k
    · exact I.ok.has _ (.inl k)
    · exact I.ok.has _ (.inr k)
  refine wpAny_comprehension_free (use := none) rfl hs (closure_ok hfree) ok.kind (fun y hy e => by rw [ok.uniq y hy, e]) (thn (h.run pins s σ H ex G F δ τ ts τ1 ts1 _ _ I nw hm) fun v s1 ⟨sc, H1, F1, I1, g1, hG⟩ => ?_)
  have I2 := made_inv I1 hG
  obtain ⟨a, gi, cd, go, pr, rfl, hLa, ha2, hgo, hisg, hgs, hos, hbr, hkp, hpr, out, wake⟩ := hG
  have low := low_of I1
  have hga0 := (hpr _ hgo).1
  refine wpAny_pyIter_gen (hisg _ hga0) ?_
  obtain ⟨L, hL⟩ : ∃ L, L = sc.heap.objs.size := ⟨_, rfl⟩
  rw [← hL] at low wake
  refine wpAny_newObj_type (newEnv_comp ?_) (by show 0 ≤ sizeLine; decide)
  obtain ⟨D, hD⟩ : ∃ D, s1.heap.objs.size = D := ⟨_, rfl⟩
  have hDn : H1 D = none := I2.hok.fresh (Nat.le_of_eq hD)
  rw [hD]
  obtain ⟨s3, hs3⟩ : ∃ s3, ({ s1 with heap := s1.heap.push { cls := .type "list", data := .seq ([] : List Value).toArray } } : Shared) = s3 := ⟨_, rfl⟩
  have I3 : Inv X pins σ (upd H1 D (.lst [])) s3 := by
    rw [← hs3]
    refine I2.laid (t' := s1.toks) (fun b o e => Heap.get?_push_of_some _ e) (Nat.le_of_eq hD) ⟨Nat.zero_le _, [], 0, .nil, ?_⟩
    rw [← hD]
    exact Heap.get?_push_size _ rfl
  have h3 : s3.heap = s1.heap.push { cls := .type "list", data := .seq ([] : List Value).toArray } := by rw [← hs3]
  have hg3 : s3.gens = s1.gens := by rw [← hs3]
  have k13 : ∀ b o, s1.heap.get? b = some o → s3.heap.get? b = some o := fun b o e => by rw [h3]; exact Heap.get?_push_of_some _ e
  show codeAny _ _ (.compStart (.ListComp (.Name y py2) [⟨.Name y py, iter, [], 0⟩] scope pos) 0 (.ref a) (.ref D) (compEnvC scope (cellsFrom (({ s1 with heap := s1.heap.push { cls := .type "list", data := .seq ([] : List Value).toArray } } : Shared).heap.objs.size + 1) scope.names (cloFrom X.env.cells scope.names [])) ({ s1 with heap := s1.heap.push { cls := .type "list", data := .seq ([] : List Value).toArray } } : Shared).heap.objs.size X.env)) (compPost (model X.prog X.w) X.A X.xe none (EP X pins σ Q) (.ref D) ({ s1 with heap := s1.heap.push { cls := .type "list", data := .seq ([] : List Value).toArray } } : Shared).heap.objs.size) { ({ s1 with heap := s1.heap.push { cls := .type "list", data := .seq ([] : List Value).toArray } } : Shared) with heap := pushCells (({ s1 with heap := s1.heap.push { cls := .type "list", data := .seq ([] : List Value).toArray } } : Shared).heap.push { cls := .type "dict", data := .dict #[] }) scope.names }
  rw [hs3]
  obtain ⟨C, hC⟩ : ∃ C, s3.heap.objs.size = C := ⟨_, rfl⟩
  rw [hC]
  obtain ⟨s4, hs4⟩ : ∃ s4, ({ s3 with heap := pushCells (s3.heap.push { cls := .type "dict", data := .dict #[] }) scope.names } : Shared) = s4 := ⟨_, rfl⟩
  rw [hs4]
  have h4 : s4.heap = pushCells (s3.heap.push { cls := .type "dict", data := .dict #[] }) scope.names := by rw [← hs4]
  have k34 : ∀ b o, s3.heap.get? b = some o → s4.heap.get? b = some o := fun b o e => by rw [h4]; exact pushCells_keeps _ _ _ _ (Heap.get?_push_of_some _ e)
  have hC4 : s4.heap.get? C = some { cls := .type "dict", data := .dict #[] } := by rw [h4, ← hC]; exact pushCells_keeps _ _ _ _ (Heap.get?_push_size _ rfl)
  have hg4 : s4.gens = s1.gens := by rw [← hs4]; exact hg3
  have I4 : Inv X pins σ (upd H1 D (.lst [])) s4 := I3.call' (ch := []) (by rw [← hs4]) (Un.kept k34) (I3.hok.kept k34) (by rw [hg4]; exact I2.bare) fun b z => by simp at z
  have fpC := I3.fpOk (H' := upd H1 D (.lst [])) (Nat.le_of_eq hC) (I3.hok.fresh (Nat.le_of_eq hC))
  have hLD : L ≤ D := by rw [← hD, hL]; exact Nat.le_trans (Nat.le_of_lt hLa) (Nat.le_of_lt ha2)
  have hDC : D < C := by rw [← hC, h3, Heap.size_push, hD]; exact Nat.lt_succ_self _
  have hLC : L ≤ C := Nat.le_trans hLD (Nat.le_of_lt hDC)
  obtain ⟨ce, hce⟩ : ∃ ce, ce = compEnvC scope (cellsFrom (C + 1) scope.names (cloFrom X.env.cells scope.names [])) C X.env := ⟨_, rfl⟩
  rw [← hce]
  have ceL : ce.locals = C := by rw [hce]; rfl
  have ceK : ce.scope.kind = .function := by rw [hce]; exact ok.kind
  have ceY : ce.kindOf y = some .local := by rw [hce]; exact lookup_relabel_local hy
  obtain ⟨A, hA⟩ : ∃ A, A = δ ++ τ ++ τ1 := ⟨_, rfl⟩
  obtain ⟨B, hB⟩ : ∃ B, B = σ ++ ts ++ ts1 := ⟨_, rfl⟩
  rw [← hA, ← hB] at g1
  have lAB : A.length = B.length := g1.len
  obtain ⟨okP, hokP⟩ : ∃ okP : Prop, okP = (out.length ≤ sizeLine ∧ R (.own out)) := ⟨_, rfl⟩
  obtain ⟨Wk, hWk⟩ : ∃ Wk : WkT, Wk = CWk X W.ck L pins σ (G.up 0) A B D C out := ⟨_, rfl⟩
  have hhd : X.A.handled = none := hr.hd
  have hdp : X.A.depth < recursionLimit := by have := hr.dp; show X.A.depth < _; omega
  have gS : Good (G.up 0) F1 (A ++ [some (.own (out.take 0))]) (B ++ [some (.ref D)]) (upd H1 D (.lst [])) := Good.newO g1 hDn .nil
  have loop : codeAny (model X.prog X.w) X.A (.compLoop (.ListComp (.Name y py2) [⟨.Name y py, iter, [], 0⟩] scope pos) 0 (.ref a) (.ref D) ce) (compPost (model X.prog X.w) X.A X.xe none (EP X pins σ Q) (.ref D) C) s4 := by
    refine compLoop_any (fun n s' => ∃ (j' : Nat) (F' H' : Hp) (pr' : List Po) (gs : GenState) (Fy : Hp) (o : Obj), j' + n = out.length + 1 ∧ Inv X pins σ H' s' ∧ Good (G.up 0) F' (A ++ [some (.own (out.take j'))]) (B ++ [some (.ref D)]) H' ∧
      s'.gens[gi]? = some gs ∧ (∀ q ∈ pr', s'.heap.get? q.1 = some q.2 ∧ H' q.1 = none ∧ q.1 ∉ frs X.stack ∧ L ≤ q.1 ∧ q.1 ≠ C) ∧ (a, go) ∈ pr' ∧ L ≤ s'.heap.objs.size ∧ Same Fy F' ∧ H' C = none ∧ s'.heap.get? C = some o ∧ NsO o ∧
      ∀ G2 F2 H2 v2 s2, Wk j' Fy G2 F2 H2 v2 pr' s2 → gs.Goes (model X.prog X.w) X.A.in1 (CRg (gndOf X W.ck L) [(a, go)] Wk out okP fun e => False) (CY (gndOf X W.ck L) [(a, go)] Wk out okP) n (.send .none) s2) ?_ (out.length + 1) ?_
    · rintro n s5 ⟨j5, F5, H5, pr5, gs, Fy, o, hj5, I5, g5, hgs5, hpr5, hgo5, hL5, sm5, hC5, hco, hno, goes⟩
      have Iw : Inv X pins σ (upd H5 C (.frz o (.own 0))) s5 := I5.take (h' := s5.heap) (t' := s5.toks) (fun b ob _ e => e) ⟨hC5, fpC.2⟩ ⟨hco, _, hco⟩
      have Iwr := inv_setGen (gi := gi) (x := .running) Iw rfl
      have I5r := inv_setGen (gi := gi) (x := .running) I5 rfl
      have wk5 : Wk j5 Fy (G.up 0) F5 (upd H5 C (.frz o (.own 0))) (cutS (s5.setGen gi .running) L) pr5 (s5.setGen gi .running) := by
        rw [hWk]
        exact ⟨rfl, awc_of Iwr low hL5 (g5.layH hC5) nw.k ⟨nw.ck.1, nw.ck.2⟩ sm5 (fun q hq => by
          obtain ⟨q1, q2, q3, q4, q5⟩ := hpr5 q hq
          exact ⟨q1, by rw [upd_ne q5]; exact q2, q3, q4⟩), cut_size hL5, H5, o, rfl, hC5, hno, tr_cut I5r low, g5⟩
      have hgl : gi < s5.gens.size := (Array.getElem?_eq_some_iff.mp hgs5).1
      refine wpAny_gsz (n := gi + 1) hgl (next_genG (A := X.A) hhd I5.nolimit hdp (hisg _ (hpr5 _ hgo5).1) hgs5 (goes _ _ _ _ _ wk5) (fun u s6 gs' hbare hv => ?_) (fun s6 hp6 h' hk' => ?_) fun e6 s6 hE => ?_)
      · intro hsz
        obtain ⟨j₀, Fy₀, G₀, F₀, H₀, v₀, pr₀, hj₀, hw₀, hok, d, x, F6, H6, pr6, hd6, rv, g6, lf, hpn, hkap⟩ := hv
        rw [hWk] at hw₀
        obtain ⟨eG, aw, hv0, Ha, oa, eH, haC, hna, tr, gw⟩ := hw₀
        subst eG
        subst eH
        have hlt := (List.getElem?_eq_some_iff.mp hd6).1
        cases n with
        | zero =>
          have hj₀ : j₀ + 0 = out.length := hj₀
          omega
        | succ m' =>
        have hj₀ : j₀ + m' = out.length := hj₀
        have hF6 : H6 C = some (.frz oa (.own 0)) := lf.un.frzs _ _ _ upd_same
        have hf6 : F6 C = none := comp_f4 gw haC g6 hF6
        have hco6 : s6.heap.get? C = some oa := (lf.hok C _ hF6).1
        have hbr6 : AllBare (s6.setGen gi gs').gens := allBare_set lf.bare hbare
        have gwl : Good (G.up 0) F₀ (A ++ [some (.own (out.take j₀))]) (B ++ [some (.ref D)]) (upd Ha C (.frz oa (.own 0))) := gw.layH haC
        have g7 : Good (G.up 0) F6 (A ++ [some (.own (out.take j₀))] ++ [some (.d d)]) (B ++ [some (.ref D)] ++ [some x]) H6 := Good.ret (u := 0) (δ₁ := []) (σ₁ := []) gwl rfl g6
        have cC : ¬ (G.up 0).C C := fun c => gw.g.jn _ Ha gw.jh C c haC
        have bC : (G.up 0).B C = none := by
          cases q : (G.up 0).B C with
          | none => rfl
          | some u => rw [gw.bh _ _ cC q] at haC; cases haC
        have g8 : Good (G.up 0) F6 (A ++ [some (.own (out.take j₀))] ++ [some (.d d)]) (B ++ [some (.ref D)] ++ [some x]) (delH H6 C) := g7.unlayH hF6 hf6 cC bC fun i z e hx ez => by
          rcases Nat.lt_or_ge i (A ++ [some (DV.own (out.take j₀))]).length with q | q
          · rw [List.getElem?_append_left q] at e
            rw [List.getElem?_append_left (by rw [← gw.len]; exact q)] at ez
            obtain ⟨w, e1, hv⟩ := gw.sl i z e
            rw [ez] at e1
            cases e1
            obtain ⟨l, oo, e2, e3, _⟩ := bor_at hv hx
            cases e2
            rw [haC] at e3; cases e3
          · rw [List.getElem?_append_right q] at e
            obtain ⟨n, hn⟩ : ∃ n, i - (A ++ [some (DV.own (out.take j₀))]).length = n := ⟨_, rfl⟩
            rw [hn] at e
            cases n with
            | zero => cases e; cases hx
            | succ n => cases e
        have hpL : ∀ q ∈ pr6, L ≤ q.1 := fun q hq => by
          have := (lf.ob q hq).2.2.2.1
          rw [hv0] at this; exact this
        have hpC : ∀ q ∈ pr6, q.1 ≠ C := fun q hq z => by
          have := (lf.ob q hq).2.1
          rw [z, hF6] at this; cases this
        show wpAny _ X.A (letOwnedTupleGo (.Name y py) (.ref a) u) _ _ _
        refine letOwned_gen (hisg _ (lf.ob _ (hpn _ List.mem_cons_self)).1) ?_
        obtain ⟨m6, hm6⟩ := hna.ns hco6
        refine wpAny_assign_Name (wpAny_storeName_local (m := m6) ceY (by rw [ceL]; exact hm6) (fun h7 hn7 sb7 => ?_) (by rw [ceK]; rfl))
        rw [ceL] at hn7 sb7
        refine wpAny_tests_nil ?_
        rw [if_pos rfl]
        refine wpAny_Name (wpAny_loadName_local ceK ceY (by rw [ceL]; exact hn7) (if_pos rfl) ?_) hdb
        obtain ⟨o7, ho7, hno7⟩ := NsO.of hn7
        have k67 : ∀ b u, b ≠ C → s6.heap.get? b = some u → h7.get? b = some u := fun b u hb e => (sb7.2 b hb).trans e
        have I7 : Inv X pins σ (delH H6 C) { s6.setGen gi gs' with heap := h7, toks := (s6.setGen gi gs').toks + 1 } := comp_back tr hv0 hLC haC lf rfl hbr6 k67
        have eA : (A ++ [some (DV.own (out.take j₀))] ++ [some (DV.d d)])[A.length]? = some (some (.own (out.take j₀))) := by simp
        have eB : (B ++ [some (V.ref D)] ++ [some x])[A.length]? = some (some (.ref D)) := by rw [lAB]; simp
        obtain ⟨w', ew, l, ws, e0, hl, hat, _⟩ := g8.sl _ _ eA
        rw [eB] at ew
        cases ew
        cases e0
        have hx : At (G.up 0).K F6 x d := g8.top
        have htk : out.take (j₀ + 1) = out.take j₀ ++ [d] := by rw [List.take_succ, hd6]; rfl
        have g9 := g8.write' (n := A.length) (xs := out.take j₀) (ys := out.take (j₀ + 1)) (l := D) (ws := ws ++ [x]) (fun i z ez hz => ?_) eA eB (by rw [htk]; exact hat.append (.cons hx .nil))
        · have g10 : Good (G.up 0) F6 (A ++ [some (.own (out.take (j₀ + 1)))]) (B ++ [some (.ref D)]) (upd (delH H6 C) D (.lst (ws ++ [x]))) := by
            have e1 : (A ++ [some (DV.own (out.take j₀))] ++ [some (DV.d d)]).set A.length (some (.own (out.take (j₀ + 1)))) = A ++ [some (DV.own (out.take (j₀ + 1)))] ++ [some (DV.d d)] := by simp
            rw [e1] at g9
            exact g9.pop
          have hwl : ws.length = j₀ := by rw [hat.length, List.length_take]; omega
          obtain ⟨_, its, nn, r, eD⟩ := I7.hok D _ hl
          have hil : its.length = j₀ := by rw [← r.length]; exact hwl
          have hz : out.length ≤ sizeLine := by rw [hokP] at hok; exact hok.1
          refine append_at (hsz := by rw [List.size_toArray]; omega) eD fun h8 sb8 ho8 => ?_
          have I8 : Inv X pins σ (upd (delH H6 C) D (.lst (ws ++ [x]))) { s6.setGen gi gs' with heap := h8, toks := (s6.setGen gi gs').toks + 1 } := I7.write (t' := (s6.setGen gi gs').toks + 1) (by rw [hl]; trivial) (.inl rfl) (fun b u hb q => (sb8.2 b hb).trans q) ⟨_, ho8⟩ ⟨by rw [List.length_append]; show ws.length + 1 ≤ sizeLine; omega, its ++ [u], nn + 1, r.append (.cons rv .nil), by rw [ho8]; simp⟩
          have hsz6 : gi < s6.gens.size := by
            have q : (s6.setGen gi gs').gens.size = s6.gens.size := setGen_size _ _ _
            have hsz' : gi + 1 ≤ (s6.setGen gi gs').gens.size := hsz
            omega
          have pr8 : ∀ q ∈ pr6, h8.get? q.1 = some q.2 ∧ upd (delH H6 C) D (.lst (ws ++ [x])) q.1 = none ∧ q.1 ∉ frs X.stack ∧ L ≤ q.1 ∧ q.1 ≠ C := fun q hq => by
            obtain ⟨q1, q2, q3, q4, _⟩ := lf.ob q hq
            have hne : q.1 ≠ D := fun z => by
              rw [z] at q2
              have hl' : H6 D = some (.lst ws) := by
                have : D ≠ C := Nat.ne_of_lt hDC
                rw [delH_ne this] at hl; exact hl
              rw [hl'] at q2; cases q2
            exact ⟨(sb8.2 _ hne).trans (k67 _ _ (hpC q hq) q1), by rw [upd_ne hne, delH_ne (hpC q hq)]; exact q2, q3, hpL q hq, hpC q hq⟩
          have hpa := pr8 _ (hpn _ List.mem_cons_self)
          have hL8 : L ≤ h8.objs.size := Nat.le_trans hpa.2.2.2.1 (Nat.le_of_lt (Heap.lt_size hpa.1))
          have hCn8 : upd (delH H6 C) D (.lst (ws ++ [x])) C = none := by rw [upd_ne (Nat.ne_of_gt hDC)]; exact delH_same
          have hco8 : h8.get? C = some o7 := (sb8.2 _ (Nat.ne_of_gt hDC)).trans ho7
          refine ⟨m', Nat.lt_succ_self _, j₀ + 1, F6, _, pr6, gs', F6, o7, by omega, I8, g10, setGen_at hsz6, pr8, hpn _ List.mem_cons_self, hL8, Same.refl _, hCn8, hco8, hno7, fun G2 F2 H2 v2 s2 hw => (hkap G2 F2 H2 v2 s2 hw).1⟩
        · obtain ⟨vz, e1, hvz⟩ := g8.sl i z ez
          intro q
          rw [q] at e1
          cases e1
          rcases Nat.lt_trichotomy i A.length with q3 | q3 | q3
          · have ey' : A[i]? = some (some z) := by
              rw [List.append_assoc, List.getElem?_append_left q3] at ez
              exact ez
            have eb' : B[i]? = some (some (.ref D)) := by
              rw [List.append_assoc, List.getElem?_append_left (by omega)] at q
              exact q
            exact nb_new g1 hDn i z ey' hz eb'
          · subst q3
            rw [eA] at ez
            cases ez; cases hz
          · rw [List.append_assoc, List.getElem?_append_right (by omega)] at ez
            obtain ⟨n, hn⟩ : ∃ n, i - A.length = n + 1 := ⟨i - A.length - 1, by omega⟩
            rw [hn] at ez
            cases n with
            | zero => cases ez; cases hz
            | succ n => cases ez
      · intro _
        obtain ⟨j₀, Fy₀, G₀, F₀, H₀, v₀, pr₀, hj₀, hw₀, hok, F6, H6, g6, lf⟩ := hp6
        rw [hWk] at hw₀
        obtain ⟨eG, aw, hv0, Ha, oa, eH, haC, hna, tr, gw⟩ := hw₀
        subst eG
        subst eH
        have hF6 : H6 C = some (.frz oa (.own 0)) := lf.un.frzs _ _ _ upd_same
        have hf6 : F6 C = none := comp_f4 gw haC g6 hF6
        have hco6 : s6.heap.get? C = some oa := (lf.hok C _ hF6).1
        obtain ⟨m6, hm6⟩ := hna.ns (hk' _ _ hco6)
        have gwl : Good (G.up 0) F₀ (A ++ [some (.own (out.take j₀))]) (B ++ [some (.ref D)]) (upd Ha C (.frz oa (.own 0))) := gw.layH haC
        have g7 : Good (G.up 0) F6 (A ++ [some (.own (out.take j₀))]) (B ++ [some (.ref D)]) H6 := gwl.back (u := 0) (δ₁ := []) (σ₁ := []) g6
        have cC : ¬ (G.up 0).C C := fun c => gw.g.jn _ Ha gw.jh C c haC
        have bC : (G.up 0).B C = none := by
          cases q : (G.up 0).B C with
          | none => rfl
          | some u => rw [gw.bh _ _ cC q] at haC; cases haC
        have g8 : Good (G.up 0) F6 (A ++ [some (.own (out.take j₀))]) (B ++ [some (.ref D)]) (delH H6 C) := g7.unlayH hF6 hf6 cC bC fun i z e hx ez => by
          obtain ⟨w, e1, hv⟩ := gw.sl i z e
          rw [ez] at e1
          cases e1
          obtain ⟨l, oo, e2, e3, _⟩ := bor_at hv hx
          cases e2
          rw [haC] at e3; cases e3
        refine ⟨m6, hm6, fun h7 sb7 => ?_⟩
        have I7 : Inv X pins σ (delH H6 C) { s6.setGen gi .finished with heap := h7 } := comp_back tr hv0 hLC haC lf rfl (allBare_set lf.bare rfl) fun b u hb e => (sb7.2 b hb).trans (hk' _ _ e)
        rw [hokP] at hok
        rw [hj₀, List.take_length, hA, hB] at g8
        exact ⟨.ref D, _, I7, rfl, kk _ hok.2 _ _ _ g8⟩
      · obtain ⟨s₀, Fy₀, G₀, F₀, H₀, v₀, pr₀, hw₀, cxe, hpn⟩ := hE
        obtain ⟨a', B', H', cls, d, z1, fl, z2, ub, z3, z4, z5, z6⟩ := cxe
        first
          | (obtain ⟨_, _, z, _⟩ := z6; exact z.elim)
          | (obtain ⟨_, _, z, _⟩ := z4; exact z.elim)
          | (obtain ⟨z7, z8⟩ := z6; obtain ⟨_, _, z, _⟩ := z8; exact z.elim)
    · have hrm : Room k X.A.in1 := ⟨hr.hd, by have := hr.dp; show X.A.depth + 3 * k + 5 < _; omega, by have := hr.un; show X.A.units + 1 + 16 * k + 200 < _; omega⟩
      have k14 : ∀ b o, s1.heap.get? b = some o → s4.heap.get? b = some o := fun b o e => k34 _ _ (k13 _ _ e)
      refine ⟨0, F1, upd H1 D (.lst []), pr, .fresh cd, F1, _, Nat.zero_add _, I4, gS, by rw [hg4]; exact hgs, fun q hq => ?_, hgo, ?_, Same.refl _, fpC.1, hC4, ⟨#[], 0, rfl, fun e he => by simp at he⟩, fun G2 F2 H2 v2 s2 hw => ⟨rfl, ?_⟩⟩
      · obtain ⟨q1, q2, _⟩ := hpr q hq
        have q2 : sc.heap.objs.size ≤ q.1 := q2
        have hlt := Heap.lt_size q1
        rw [hD] at hlt
        exact ⟨k14 _ _ q1, by rw [upd_ne (Nat.ne_of_lt hlt)]; exact I1.hok.fresh q2, fun z => absurd (Nat.lt_of_lt_of_le (low.fr _ z) (by rw [hL]; exact q2)) (Nat.lt_irrefl _), by rw [hL]; exact q2, Nat.ne_of_lt (Nat.lt_trans hlt hDC)⟩
      · exact Nat.le_trans hLC (Nat.le_of_lt (Heap.lt_size hC4))
      · rw [hokP]
        exact wake X.A.in1 Wk c.gd hrm I1.ok.frames (fun j Fy G' F' H' v' pr' s' z => by rw [hWk] at z; obtain ⟨rfl, z, _⟩ := z; exact z) G2 F2 H2 v2 s2 hw
  exact codeAny_compStart_list loop (wpAny_pyIter_gen (hisg _ (k34 _ _ (k13 _ _ hga0))) loop)
end
end DL
local macro_rules | `(tactic| walk_at "dg") => `(tactic| simp only [DL.mGSeq, DL.mG0, DL.mGYield, DL.mGFor, DL.GnE.at, DL.mForG, DL.mGCallK, DL.mGCallD, DL.mLcG])
namespace Lk31
open PySem PySem.Spec L2 DL
def top (i : Nat) : Stmt := PySem.Challenge.pw_toppleline_k31_covers_walked.main.body.getD i (.Pass ⟨0, 0, 0, 0⟩)
abbrev s_is_integer : Stmt := top 7
abbrev s_right_ends : Stmt := top 8
abbrev s_mirrored : Stmt := top 9
abbrev s_stretches : Stmt := top 10
abbrev s_spans_of : Stmt := top 12
abbrev s_far_ends : Stmt := top 13
abbrev s_Covers_count : Stmt := inClass (top 14) 2
abbrev s_Covers_choices : Stmt := inClass (top 14) 1
abbrev s_count_covers : Stmt := top 15
abbrev s_check_index : Stmt := top 16
abbrev s_Covers_at : Stmt := inClass (top 14) 3
abbrev s_cover_at : Stmt := top 17
abbrev s_each_cover : Stmt := top 18
abbrev s__law_opened : Stmt := top 20
abbrev s__law_take : Stmt := top 21
abbrev s__law_stones : Stmt := top 22
abbrev s__law_same : Stmt := top 23
abbrev s__law_begun : Stmt := top 24
abbrev s_law : Stmt := top 25
theorem sc_is_integer : FnScope ["value", "low", "high"] ["value", "low", "high"] (defScope s_is_integer) := ⟨rfl, rfl, rfl, by decide +kernel, rfl, by decide +kernel, by decide +kernel⟩
theorem sc_right_ends : FnScope ["row", "found", "stone", "last"] ["row"] (defScope s_right_ends) := ⟨rfl, rfl, rfl, by decide +kernel, rfl, by decide +kernel, by decide +kernel⟩
theorem sc_mirrored : FnScope ["row", "total", "place", "height"] ["row"] (defScope s_mirrored) := ⟨rfl, rfl, rfl, by decide +kernel, rfl, by decide +kernel, by decide +kernel⟩
theorem sc_stretches : FnScope ["row", "rights", "lefts", "last", "stone"] ["row"] (defScope s_stretches) := ⟨rfl, rfl, rfl, by decide +kernel, rfl, by decide +kernel, by decide +kernel⟩
theorem sc_spans_of : FnScope ["row", "found", "stone", "left", "right"] ["row"] (defScope s_spans_of) := ⟨rfl, rfl, rfl, by decide +kernel, rfl, by decide +kernel, by decide +kernel⟩
theorem sc_far_ends : FnScope ["row", "spans", "found", "stone", "push", "low", "high"] ["row"] (defScope s_far_ends) := ⟨rfl, rfl, rfl, by decide +kernel, rfl, by decide +kernel, by decide +kernel⟩
theorem sc_Covers_count : FnScope ["self"] ["self"] (defScope s_Covers_count) := ⟨rfl, rfl, rfl, by decide +kernel, rfl, by decide +kernel, by decide +kernel⟩
theorem sc_Covers_choices : FnScope ["self", "stone", "found", "push", "low", "high"] ["self", "stone"] (defScope s_Covers_choices) := ⟨rfl, rfl, rfl, by decide +kernel, rfl, by decide +kernel, by decide +kernel⟩
theorem sc_count_covers : FnScope ["row"] ["row"] (defScope s_count_covers) := ⟨rfl, rfl, rfl, by decide +kernel, rfl, by decide +kernel, by decide +kernel⟩
theorem sc_check_index : FnScope ["value", "many"] ["value", "many"] (defScope s_check_index) := ⟨rfl, rfl, rfl, by decide +kernel, rfl, by decide +kernel, by decide +kernel⟩
theorem sc_Covers_at : FnScope ["self", "index", "stone", "found", "chosen", "push", "following"] ["self", "index"] (defScope s_Covers_at) := ⟨rfl, rfl, rfl, by decide +kernel, rfl, by decide +kernel, by decide +kernel⟩
theorem sc_cover_at : FnScope ["row", "index", "covers"] ["row", "index"] (defScope s_cover_at) := ⟨rfl, rfl, rfl, by decide +kernel, rfl, by decide +kernel, by decide +kernel⟩
theorem nc_each_cover : ∀ y ∈ (defScope s_each_cover).names, y.2 ≠ .cell := by decide +kernel
theorem sc_each_cover : GScope ["row", "index", "covers", "number"] ["row", "index"] (defScope s_each_cover) := ⟨rfl, rfl, rfl, by decide +kernel, rfl, by decide +kernel, by decide +kernel⟩
theorem sc__law_opened : FnScope ["_law_script", "_law_great", "_law_small", "_law_cell"] ["_law_script"] (defScope s__law_opened) := ⟨rfl, rfl, rfl, by decide +kernel, rfl, by decide +kernel, by decide +kernel⟩
theorem sc__law_take : FnScope ["_law_bag", "_law_many", "_law_digit", "_law_turn", "_law_much"] ["_law_bag", "_law_many"] (defScope s__law_take) := ⟨rfl, rfl, rfl, by decide +kernel, rfl, by decide +kernel, by decide +kernel⟩
theorem sc__law_stones : FnScope ["_law_bag", "_law_bound", "_law_wide", "_law_many", "_law_way", "_law_size", "_law_found", "_law_place", "_law_k", "_law_some"] ["_law_bag", "_law_bound", "_law_wide"] (defScope s__law_stones) := ⟨rfl, rfl, rfl, by decide +kernel, rfl, by decide +kernel, by decide +kernel⟩
theorem sc__law_same : FnScope ["_law_one", "_law_other", "_law_k"] ["_law_one", "_law_other"] (defScope s__law_same) := ⟨rfl, rfl, rfl, by decide +kernel, rfl, by decide +kernel, by decide +kernel⟩
theorem sc__law_begun : FnScope ["_law_row", "_law_since", "_law_bound", "_law_found", "_law_cover", "_law_other", "_law_early"] ["_law_row", "_law_since", "_law_bound"] (defScope s__law_begun) := ⟨rfl, rfl, rfl, by decide +kernel, rfl, by decide +kernel, by decide +kernel⟩
theorem sc_law : FnScope ["_law_script", "_law_bag", "_law_turn", "_law_row", "_law_k", "_law_held", "_law_many", "_law_since", "_law_bound", "_law_due", "_law_some", "_law_cover", "_law_early"] ["_law_script"] (defScope s_law) := ⟨rfl, rfl, rfl, by decide +kernel, rfl, by decide +kernel, by decide +kernel⟩
abbrev i_NoIndex : Stmt := inClass (top 3) 0
theorem si_NoIndex : FnScope ["self", "index"] ["self", "index"] (defScope i_NoIndex) := ⟨rfl, rfl, rfl, by decide +kernel, rfl, by decide +kernel, by decide +kernel⟩
theorem ini_NoIndex {P : Program} {w : World} {K : PySem.W.Frag} {mg : Str → Option Value} {base : Heap} {C f : Addr} {fd : FuncData} (F : L2.Fun K "__init__" "NoIndex.__init__" i_NoIndex f fd) (hO : OexC K C) (hno : PySem.W.findIn K (.ref C) "index" = some none) : FnOk P w K mg base L2.CX0 1 f fd ["self", "index"] (spInit K C "index") :=
  F.ok si_NoIndex (fun vs H Q E h => by obtain ⟨a, y, rfl, _⟩ := h; rfl) fun cdv A outer s H vs Q E hr h => ⟨_, pss_one (ps_ost (pv 0) (pv 1)), init_read hO hno rfl h⟩
abbrev i_Covers : Stmt := inClass (top 14) 0
theorem si_Covers : FnScope ["self", "row", "ends", "stone", "push", "following"] ["self", "row"] (defScope i_Covers) := ⟨rfl, rfl, rfl, by decide +kernel, rfl, by decide +kernel, by decide +kernel⟩
structure Txt (K : PySem.W.Frag) (mg : Str → Option Value) : Prop where
  n_abs : mg "abs" = none
  n_bool : mg "bool" = none
  n_enumerate : mg "enumerate" = none
  n_int : mg "int" = none
  n_isinstance : mg "isinstance" = none
  n_len : mg "len" = none
  n_list : mg "list" = none
  n_max : mg "max" = none
  n_min : mg "min" = none
  n_range : mg "range" = none
  n_repr : mg "repr" = none
  n_set : mg "set" = none
  n_sorted : mg "sorted" = none
  n_str : mg "str" = none
  n_sum : mg "sum" = none
  n_tuple : mg "tuple" = none
  c_LEFT : ∃ t, mg "LEFT" = some (.str "left" t)
  c_RIGHT : ∃ t, mg "RIGHT" = some (.str "right" t)
/-- the bag stands at c: a large number, a small one, how many were drawn -/
def bagK (g s d : Int) : List (Key × V) := [(.inr "great", .int g), (.inr "small", .int s), (.inr "drawn", .int d)]
def BagAt (c : Addr) (n : Nat) (H : Hp) : Prop := ∃ (g s d : Int), H c = some (.dK (bagK g s d)) ∧ 0 ≤ s ∧ s < 2 ^ 63 ∧ 0 ≤ d ∧ d ≤ n
def CK : CKT := fun C cv J lim => ∃ c, C = (fun p => p = c) ∧ cv = .ref c ∧ J = BagAt c ∧ lim = 2 ^ 40
def spBag (K : PySem.W.Frag) : Sp := fun vs H Q _ => ∃ (a : Addr) (ns : List Int), vs = [.ref a] ∧ ns.length ≤ 63 ∧ SqL K H a (ns.map V.int) ∧ ∀ c H', BagAt c 0 H' → Q (.ref c) H'
def mf__law_take : MF := fun as R _ => ∃ m : Int, as = [.cask, .d (.int m)] ∧ 0 < m ∧ m ≤ 2 ^ 100 ∧ ∀ r, 0 ≤ r → r < m → R (.d (.int r))
def spLaw (K : PySem.W.Frag) : Sp := fun vs H Q _ => ∃ (a : Addr) (ns : List Int), vs = [.ref a] ∧ ns.length ≤ 63 ∧ SqL K H a (ns.map V.int) ∧ ∀ H', Q (.bl true) H'
theorem law_ok {K : PySem.W.Frag} {H : Hp} {a : Addr} {ns : List Int} (hl : ns.length ≤ 63) (hS : SqL K H a (ns.map V.int)) : spLaw K [.ref a] H (fun v _ => v = .bl true) fun _ _ _ => False := ⟨a, ns, rfl, hl, hS, fun _ => rfl⟩
structure DBag (P : Program) (w : World) (K : PySem.W.Frag) (mg : Str → Option Value) (base : Heap) : Prop where
  ex : ∃ f fd ps, mg "_law_opened" = some (.ref f) ∧ PySem.W.keepIn K (.ref f) = true ∧ Binds K fd ps [] ∧ ps.length = 1 ∧ FnG P w K mg base 1 f fd ps (spBag K)
section
variable {P : Program} {w : World} {K : PySem.W.Frag} {mg : Str → Option Value} {base : Heap} 
def isInt (v : PyData) (lo hi : Int) : Bool := match v with
  | .int i => decide (lo ≤ i) && decide (i ≤ hi)
  | _ => false
def mf_is_integer : MF := fun as R _ => ∃ (v : PyData) (lo hi : Int), as = [.d v, .d (.int lo), .d (.int hi)] ∧ R (.d (.bool (isInt v lo hi)))
theorem d_is_integer {f : Addr} {fd : FuncData} (T : Txt K mg) (hm : mg "is_integer" = some (.ref f)) (F0 : L2.Fun K "is_integer" "is_integer" s_is_integer f fd) (hb : Binds K fd ["value", "low", "high"] []) : DFn P w K mg base CK "is_integer" 1 0 3 mf_is_integer :=
  (dfn_of hm F0 hb sc_is_integer (fun cdv A outer s H E cx =>
 (dss_one (ds_ret (de_and (de_isi (by rfl) T.n_isinstance (da_cons (de_pv 0) (da_cons (de_ty (T := "int") (by rfl) T.n_int (by decide +kernel)) da_nil))) (de_and (de_not (de_isi (by rfl) T.n_isinstance (da_cons (de_pv 0) (da_cons (de_ty (T := "bool") (by rfl) T.n_bool (by decide +kernel)) da_nil)))) (de_one (de_ch op_le op_le (de_pv 1) (de_pv 0) (de_pv 2))))))))
  (by
    rintro as R ex hl ⟨v, lo, hi, rfl, h⟩
    walk_at "dl"
    refine ⟨by decide, fun c => ⟨by decide, fun c2 => ?_, fun c2 => ?_⟩, fun c => ?_⟩
    · cases v with
      | int i =>
        walk_at "dl"
        refine if_dec (fun c3 => ?_) fun c3 => ?_
        · have e : isInt (.int i) lo hi = decide (i ≤ hi) := by simp [isInt, c3]
          rw [e] at h; exact h
        · have e : isInt (.int i) lo hi = false := by simp [isInt, c3]
          rw [e] at h; exact h
      | bool b => simp [isTy] at c2
      | none => simp [isTy] at c
      | str _ => simp [isTy] at c
      | list _ => simp [isTy] at c
      | tuple _ => simp [isTy] at c
      | dict _ => simp [isTy] at c
    · cases v with
      | int i => simp [isTy] at c2
      | bool b => exact h
      | none => simp [isTy] at c
      | str _ => simp [isTy] at c
      | list _ => simp [isTy] at c
      | tuple _ => simp [isTy] at c
      | dict _ => simp [isTy] at c
    · cases v with
      | int i => simp [isTy] at c
      | bool b => exact h
      | none => exact h
      | str _ => exact h
      | list _ => exact h
      | tuple _ => exact h
      | dict _ => exact h)).le (by decide +kernel)
def mf_right_ends : MF := fun as R _ => ∃ l : SRow, as = [.d (rowD l)] ∧ Inc l ∧ R (.d (.list ((ends l).map natD)))
theorem d_right_ends {f : Addr} {fd : FuncData} (T : Txt K mg) (hm : mg "right_ends" = some (.ref f)) (F0 : L2.Fun K "right_ends" "right_ends" s_right_ends f fd) (hb : Binds K fd ["row"] []) : DFn P w K mg base CK "right_ends" 1 0 1 mf_right_ends :=
  (dfn_of hm F0 hb sc_right_ends (fun cdv A outer s H E cx =>
 (dss_cons (ds_set (i := 1) sc_right_ends.nd rfl (by first | exact Or.inl rfl | exact Or.inr rfl) (de_mul (de_lst (da_cons de_int da_nil)) (de_len (by rfl) T.n_len (da_cons (de_pv 0) da_nil))))
 (dss_cons (ds_for (Ctx.passes rfl) (by rfl) (di_range3 (by rfl) T.n_range (da_cons (de_sub (de_len (by rfl) T.n_len (da_cons (de_pv 0) da_nil)) de_int) (da_cons (de_neg de_int) (da_cons (de_neg de_int) da_nil)))) (dg_name (i := 2) sc_right_ends.nd rfl (by first | exact Or.inl rfl | exact Or.inr rfl)) (dss_cons (ds_set (i := 3) sc_right_ends.nd rfl (by first | exact Or.inl rfl | exact Or.inr rfl) (de_pv 2))
 (dss_cons (ds_while (Ctx.passes rfl) (DW.dt (dw_and (dt_lt (de_add (de_pv 3) de_int) (de_len (by rfl) T.n_len (da_cons (de_pv 0) da_nil))) (dw_and1 (dt_le (de_ix (de_ix (de_pv 0) (de_add (de_pv 3) de_int)) de_int) (de_add (de_ix (de_ix (de_pv 0) (de_pv 2)) de_int) (de_ix (de_ix (de_pv 0) (de_pv 2)) de_int)))))) (dss_one (ds_set (i := 3) sc_right_ends.nd rfl (by first | exact Or.inl rfl | exact Or.inr rfl) (de_ix (de_pv 1) (de_add (de_pv 3) de_int)))))
 (dss_one (ds_sto (pv 1) (de_pv 2) (de_pv 3))))))
 (dss_one (ds_ret (de_pv 1))))))
  (by
    rintro as R ex hl ⟨l, rfl, I, h⟩
    unfold rowD
    walk_at "dl"
    have hn1 := I.n1
    have hn0 := I.n0
    rw [List.length_map]
    refine ⟨by walk_at "lim", by walk_at "lim", by walk_at "lim", ?_⟩
    have hdown : ((l.length : Nat) : Int) - 1 - -1 = (l.length : Nat) := by omega
    rw [hdown]
    walk_at "dl"
    refine ⟨by walk_at "lim", by walk_at "lim", ?_⟩
    refine for_down (fun k δ => ∃ (fs : List Nat) (a b : Option DV), δ = [some (.d (.tuple (l.map stD))), some (.own (fs.map natD)), a, b] ∧ fs.length = l.length ∧ ∀ s m, l.length - k ≤ s → fs[s]? = some m → IsEnd l s m) ?_ ?_ ?_
    · refine ⟨List.replicate l.length 0, none, none, ?_, by simp, fun s m hs e => ?_⟩
      · have : (List.replicate l.length [PyData.int 0]).flatten = (List.replicate l.length 0).map natD := by
          rw [List.map_replicate]
          generalize l.length = n
          induction n with
          | zero => rfl
          | succ n ih => rw [List.replicate_succ, List.flatten_cons, ih, List.replicate_succ]; rfl
        rw [this]
      · rw [List.getElem?_replicate] at e
        split at e
        · omega
        · cases e
    · rintro δ ⟨fs, a, b, rfl, hf, hs⟩
      walk_at "dl"
      rw [AllEnds.eq I (fs := fs) ⟨hf, fun s m e => hs s m (by omega) e⟩]
      exact h
    · rintro k δ K hk ⟨fs, a, b, rfl, hf, hs⟩ hK
      walk_at "dl"
      obtain ⟨s, hs'⟩ : ∃ s : Nat, s = l.length - 1 - k := ⟨_, rfl⟩
      have es : ((l.length : Nat) : Int) - 1 - (k : Nat) = (s : Nat) := by omega
      rw [es]
      refine ⟨fun n δ => ∃ m : Nat, δ = [some (.d (.tuple (l.map stD))), some (.own (fs.map natD)), some (.d (.int (s : Nat))), some (.d (.int (m : Nat)))] ∧ Seek l s m ∧ n = l.length - m, ⟨_, s, rfl, Seek.start (by omega), rfl⟩, ?_⟩
      rintro n δ ⟨m, rfl, hsk, rfl⟩
      have hm := hsk.lt
      have fin : (m + 1 < l.length → pl l s + ht l s < pl l (m + 1)) → K [some (.d (.tuple (l.map stD))), some (.own ((fs.map natD).set s (.int (m : Nat)))), some (.d (.int (s : Nat))), some (.d (.int (m : Nat)))] := fun hq => by
        refine hK _ ⟨fs.set s m, _, _, by rw [List.map_set]; rfl, by simpa using hf, fun s' m' h1 e => ?_⟩
        rcases Nat.lt_or_ge s s' with q | q
        · rw [List.getElem?_set_ne (by omega)] at e
          exact hs s' m' (by omega) e
        · have : s' = s := by omega
          subst this
          rw [List.getElem?_set_self (by omega)] at e
          cases e
          exact hsk.done hq
      have hss : s < (fs.map natD).length := by rw [List.length_map]; omega
      walk_at "dl"
      rw [List.length_map, ixN_nat hss]
      refine if_dec (fun c1 => ?_) fun c1 => ?_
      · have hm1 : m + 1 < l.length := by omega
        rw [atI_row (m + 1) (by omega) hm1, atI_row s rfl (by omega)]
        walk_at "dl"
        refine if_dec (fun c2 => ?_) fun c2 => fin fun _ => by omega
        obtain ⟨e, he⟩ : ∃ e, fs[m + 1]? = some e := ⟨_, List.getElem?_eq_getElem (by omega)⟩
        rw [atI_map (m + 1) (by omega) he]
        have hE := hs (m + 1) e (by have := hsk.le; omega) he
        exact ⟨l.length - e, by have := hE.le; have := hE.lt; omega, e, rfl, hsk.step I c2 hE, rfl⟩
      · walk_at "dl"
        exact fin fun hq => absurd hq (by omega))).le (by decide +kernel)
def mf_mirrored : MF := fun as R _ => ∃ l : SRow, as = [.d (rowD l)] ∧ 0 < l.length ∧ l.length ≤ 1000 ∧ R (.d (rowD (mirror l)))
theorem d_mirrored {f : Addr} {fd : FuncData} (T : Txt K mg) (hm : mg "mirrored" = some (.ref f)) (F0 : L2.Fun K "mirrored" "mirrored" s_mirrored f fd) (hb : Binds K fd ["row"] []) : DFn P w K mg base CK "mirrored" 1 0 1 mf_mirrored :=
  (dfn_of hm F0 hb sc_mirrored (fun cdv A outer s H E cx =>
 (dss_cons (ds_set (i := 1) sc_mirrored.nd rfl (by first | exact Or.inl rfl | exact Or.inr rfl) (de_add (de_ix (de_ix (de_pv 0) de_int) de_int) (de_ix (de_ix (de_pv 0) (de_neg de_int)) de_int)))
 (dss_one (ds_ret (de_tupleC (by rfl) T.n_tuple (da_cons (de_lc (own := [("place", 2), ("height", 3)]) (dom := [2, 3]) (by rfl) sc_mirrored.nd (di_tup (de_back (de_pv 0))) (blkOk_by (by kernel_rfl)) (by decide) (fun _ _ _ _ _ => (dg_tup (by rfl) (dgs_cons (dg_name (i := 2) sc_mirrored.nd rfl (by first | exact Or.inl rfl | exact Or.inr rfl)) (dgs_cons (dg_name (i := 3) sc_mirrored.nd rfl (by first | exact Or.inl rfl | exact Or.inr rfl)) dgs_nil)))) (fun _ _ _ _ _ => dts_nil) (fun _ _ _ _ _ => (de_tup (da_cons (de_sub (de_pv 1) (de_pv 2)) (da_cons (de_pv 3) da_nil))))) da_nil))))))
  (by
    rintro as R ex hl ⟨l, rfl, hn0, hn1, h⟩
    unfold rowD
    walk_at "dl"
    have hlast : l[l.length - 1]? = some (pl l (l.length - 1), ht l (l.length - 1)) := by
      unfold pl ht
      rw [List.getD_eq_getElem?_getD, List.getElem?_eq_getElem (by omega)]
      rfl
    rw [atI_row (i := 0) 0 rfl (by omega), atI_end hlast]
    unfold stD
    walk_at "dl"
    refine lc_ind (fun d => match d with
      | .tuple [.int a, .int b] => some (stD (pl l 0 + pl l (l.length - 1) - a, b))
      | _ => none) _ _ (fun d hd K1 K0 h1 h0 => ?_) (by walk_at "lim") ?_
    · obtain ⟨p, hp, rfl⟩ := List.mem_map.mp (List.mem_reverse.mp hd)
      walk_at "dl"
      refine ⟨by decide, ?_⟩
      exact h1 _ rfl
    · walk_at "dl"
      have e : ((l.map fun p => PyData.tuple [.int p.1, .int p.2]).reverse.filterMap fun d => match d with
          | .tuple [.int a, .int b] => some (stD (pl l 0 + pl l (l.length - 1) - a, b))
          | _ => none) = (mirror l).map stD := by
        unfold mirror
        rw [← List.map_reverse, List.filterMap_map, List.map_map]
        generalize l.reverse = r
        induction r with
        | nil => rfl
        | cons a r ih => simp only [List.filterMap_cons, List.map_cons, Function.comp] at ih ⊢; rw [ih]
      rw [e]
      exact h)).le (by decide +kernel)
noncomputable def spanD (l : SRow) (s : Nat) : PyData := .tuple [.tuple [.int (startOf l s : Nat), .int (s : Nat)], .tuple [.int (s : Nat), .int (endOf l s : Nat)]]
noncomputable def spansD (l : SRow) : PyData := .tuple ((List.range l.length).map (spanD l))
def mf_stretches : MF := fun as R _ => ∃ l : SRow, as = [.d (rowD l)] ∧ Inc l ∧ R (.d (spansD l))
theorem ends_at {l : SRow} {s : Nat} (h : s < l.length) : atI ((ends l).map natD) (s : Nat) = some (.int (endOf l s : Nat)) := atI_map (f := natD) s rfl (ends_get h)
theorem starts_at {l : SRow} {s : Nat} (h : s < l.length) : atI ((ends (mirror l)).map natD).reverse (s : Nat) = some (.int (endOf (mirror l) (l.length - 1 - s) : Nat)) := by
  rw [← List.map_reverse]
  refine atI_map (f := natD) s rfl ?_
  have hl : (ends (mirror l)).length = l.length := by rw [ends_len, mirror_len]
  rw [List.getElem?_reverse (by rw [hl]; exact h), hl, ends_get (by rw [mirror_len]; omega)]
theorem d_stretches {f : Addr} {fd : FuncData} (T : Txt K mg) (hm : mg "stretches" = some (.ref f)) (F0 : L2.Fun K "stretches" "stretches" s_stretches f fd) (hb : Binds K fd ["row"] []) (F_right_ends : DFn P w K mg base CK "right_ends" 1 0 1 mf_right_ends) (F_mirrored : DFn P w K mg base CK "mirrored" 1 0 1 mf_mirrored) : DFn P w K mg base CK "stretches" 2 0 1 mf_stretches :=
  (dfn_of hm F0 hb sc_stretches (fun cdv A outer s H E cx =>
 (dss_cons (ds_tup2 (i := 1) (j := 2) (by rfl) sc_stretches.nd rfl rfl (by decide) (by first | exact Or.inl rfl | exact Or.inr rfl) (by first | exact Or.inl rfl | exact Or.inr rfl) (da_cons (de_call cx F_right_ends (by decide) (by rfl) (da_cons (de_pv 0) da_nil)) (da_cons (de_back (de_call cx F_right_ends (by decide) (by rfl) (da_cons (de_call cx F_mirrored (by decide) (by rfl) (da_cons (de_pv 0) da_nil)) da_nil))) da_nil)))
 (dss_cons (ds_set (i := 3) sc_stretches.nd rfl (by first | exact Or.inl rfl | exact Or.inr rfl) (de_sub (de_len (by rfl) T.n_len (da_cons (de_pv 0) da_nil)) de_int))
 (dss_one (ds_ret (de_tupleC (by rfl) T.n_tuple (da_cons (de_lc (own := [("stone", 4)]) (dom := [4]) (by rfl) sc_stretches.nd (di_range1 (by rfl) T.n_range (da_cons (de_len (by rfl) T.n_len (da_cons (de_pv 0) da_nil)) da_nil)) (blkOk_by (by kernel_rfl)) (by decide) (fun _ _ _ _ _ => (dg_name (i := 4) sc_stretches.nd rfl (by first | exact Or.inl rfl | exact Or.inr rfl))) (fun _ _ _ _ _ => dts_nil) (fun _ _ _ _ _ => (de_tup (da_cons (de_tup (da_cons (de_sub (de_pv 3) (de_ix (de_pv 2) (de_pv 4))) (da_cons (de_pv 4) da_nil))) (da_cons (de_tup (da_cons (de_pv 4) (da_cons (de_ix (de_pv 1) (de_pv 4)) da_nil))) da_nil))))) da_nil)))))))
  (by
    rintro as R ex hl ⟨l, rfl, I, h⟩
    have hn0 := I.n0
    have hn1 := I.n1
    walk_at "dl"
    refine ⟨l, rfl, I, ?_⟩
    walk_at "dl"
    refine ⟨l, rfl, hn0, hn1, ?_⟩
    walk_at "dl"
    refine ⟨mirror l, rfl, I.mirror, ?_⟩
    unfold rowD
    walk_at "dl"
    rw [List.length_map]
    refine ⟨by walk_at "lim", by walk_at "lim", ?_⟩
    refine lc_ind (fun d => match d with
      | .int i => some (spanD l i.toNat)
      | _ => none) _ _ (fun d hd K1 K0 h1 h0 => ?_) (by rw [rangeD_len]; walk_at "lim") ?_
    · obtain ⟨s, hs, rfl⟩ := mem_range_int.mp hd
      rw [Int.zero_add]
      walk_at "dl"
      rw [starts_at hs, ends_at hs]
      walk_at "dl"
      refine ⟨by walk_at "lim", by walk_at "lim", by walk_at "lim", ?_⟩
      have hE := (endOf_ok I.mirror (s := l.length - 1 - s) (by rw [mirror_len]; omega)).lt
      rw [mirror_len] at hE
      have e : ((l.length : Nat) : Int) - 1 - (endOf (mirror l) (l.length - 1 - s) : Nat) = (startOf l s : Nat) := by
        unfold startOf
        omega
      rw [e]
      refine h1 _ ?_
      show some (spanD l ((0 : Int) + (s : Nat)).toNat) = _
      rw [Int.zero_add, Int.toNat_natCast]
      rfl
    · walk_at "dl"
      have e : (rangeD 0 l.length).filterMap (fun d => match d with
          | .int i => some (spanD l i.toNat)
          | _ => none) = (List.range l.length).map (spanD l) := by
        unfold rangeD
        rw [List.filterMap_map]
        generalize List.range l.length = r
        induction r with
        | nil => rfl
        | cons a r ih =>
          simp only [List.filterMap_cons, List.map_cons, Function.comp, Int.zero_add, Int.toNat_natCast] at ih ⊢
          rw [ih]
      rw [e]
      exact h)).le (by decide +kernel)
/-! the greedy walk over far ends -/
def gr (f : Nat → Nat) (n : Nat) : Nat → Nat → Nat
  | 0, _ => 0
  | F + 1, i => if i < n then 1 + gr f n F (f i + 1) else 0
theorem gr_le {f f' : Nat → Nat} {n : Nat} (h1 : ∀ i, i < n → i ≤ f i) (h2 : ∀ i, i < n → i ≤ f' i) (hm : ∀ i j, i ≤ j → j < n → f i ≤ f' j) : ∀ (F F' i j : Nat), i ≤ j → n - i ≤ F → n - j ≤ F' → gr f' n F' j ≤ gr f n F i
  | 0, F', i, j, hij, hF, hF' => by
    cases F' with
    | zero => exact Nat.le_refl _
    | succ F' =>
      unfold gr
      rw [if_neg (by omega)]
      exact Nat.zero_le _
  | F + 1, F', i, j, hij, hF, hF' => by
    cases F' with
    | zero => exact Nat.zero_le _
    | succ F' =>
      unfold gr
      by_cases c : j < n
      · rw [if_pos c, if_pos (by omega)]
        have := h1 i (by omega)
        have := h2 j c
        have := hm i j hij c
        exact Nat.add_le_add_left (gr_le h1 h2 hm F F' _ _ (by omega) (by omega) (by omega)) 1
      · rw [if_neg c]
        exact Nat.zero_le _
/-- one stone more at p: behind it nothing is worse -/
theorem gr_ins1 {f f' : Nat → Nat} {n p : Nat} (h1 : ∀ i, i < n → i ≤ f i) (h2 : ∀ i, i < n + 1 → i ≤ f' i) (hm : ∀ i j, p ≤ i → i + 1 ≤ j → j < n + 1 → f i + 1 ≤ f' j) : ∀ (F F' i j : Nat), p ≤ i → i + 1 ≤ j → n - i ≤ F → n + 1 - j ≤ F' → gr f' (n + 1) F' j ≤ gr f n F i
  | 0, F', i, j, hp, hij, hF, hF' => by
    cases F' with
    | zero => exact Nat.le_refl _
    | succ F' =>
      unfold gr
      rw [if_neg (by omega)]
      exact Nat.zero_le _
  | F + 1, F', i, j, hp, hij, hF, hF' => by
    cases F' with
    | zero => exact Nat.zero_le _
    | succ F' =>
      unfold gr
      by_cases c : j < n + 1
      · rw [if_pos c, if_pos (by omega)]
        have := h1 i (by omega)
        have := h2 j c
        have := hm i j hp hij c
        exact Nat.add_le_add_left (gr_ins1 h1 h2 hm F F' _ _ (by omega) (by omega) (by omega) (by omega)) 1
      · rw [if_neg c]
        exact Nat.zero_le _
def iota (p i : Nat) : Nat := if i < p then i else i + 1
theorem gr_ins {f f' : Nat → Nat} {n p : Nat} (h1 : ∀ i, i < n → i ≤ f i) (h2 : ∀ i, i < n + 1 → i ≤ f' i) (hpn : p ≤ n) (hm : ∀ i j, i < n → iota p i ≤ j → j < n + 1 → iota p (f i) ≤ f' j) : ∀ (F F' i j : Nat), i ≤ p → i ≤ j → n - i ≤ F → n + 1 - j ≤ F' → gr f' (n + 1) F' j ≤ gr f n F i + 1 := by
  have hm1 : ∀ i j, p ≤ i → i + 1 ≤ j → j < n + 1 → f i + 1 ≤ f' j := fun i j a b c => by
    have h := hm i j (by omega) (by unfold iota; rw [if_neg (by omega)]; exact b) c
    have := h1 i (by omega)
    unfold iota at h
    rw [if_neg (by omega)] at h
    exact h
  intro F
  induction F with
  | zero =>
    intro F' i j hip hij hF hF'
    cases F' with
    | zero => exact Nat.zero_le _
    | succ F' =>
      unfold gr
      by_cases c : j < n + 1
      · rw [if_pos c]
        have := h2 j c
        have := gr_ins1 h1 h2 hm1 0 F' i (f' j + 1) (by omega) (by omega) (by omega) (by omega)
        rw [show gr f n 0 i = 0 from rfl] at this
        omega
      · rw [if_neg c]
        exact Nat.zero_le _
  | succ F ih =>
    intro F' i j hip hij hF hF'
    cases F' with
    | zero => exact Nat.zero_le _
    | succ F' =>
      by_cases c : j < n + 1
      · have hj := h2 j c
        rcases Nat.lt_or_ge i p with q | q
        · have e1 : gr f n (F + 1) i = 1 + gr f n F (f i + 1) := by
            conv => lhs; unfold gr
            rw [if_pos (by omega)]
          have e2 : gr f' (n + 1) (F' + 1) j = 1 + gr f' (n + 1) F' (f' j + 1) := by
            conv => lhs; unfold gr
            rw [if_pos c]
          have hi := h1 i (by omega)
          have h := hm i j (by omega) (by unfold iota; rw [if_pos q]; exact hij) c
          rw [e1, e2]
          rcases Nat.lt_or_ge (f i) p with r | r
          · unfold iota at h
            rw [if_pos r] at h
            have := ih F' (f i + 1) (f' j + 1) (by omega) (by omega) (by omega) (by omega)
            omega
          · unfold iota at h
            rw [if_neg (by omega)] at h
            have := gr_ins1 h1 h2 hm1 F F' (f i + 1) (f' j + 1) (by omega) (by omega) (by omega) (by omega)
            omega
        · have e2 : gr f' (n + 1) (F' + 1) j = 1 + gr f' (n + 1) F' (f' j + 1) := by
            conv => lhs; unfold gr
            rw [if_pos c]
          rw [e2]
          have := gr_ins1 h1 h2 hm1 (F + 1) F' i (f' j + 1) q (by omega) (by omega) (by omega)
          omega
      · unfold gr
        rw [if_neg c]
        exact Nat.zero_le _
/-! the stretches of a row, and the far end over a stone -/
noncomputable def spN (l : SRow) : List (Nat × Nat) := (List.range l.length).flatMap fun s => [(startOf l s, s), (s, endOf l s)]
noncomputable def overN (l : SRow) (i : Nat) : List Nat := ((spN l).filter fun q => decide (q.1 ≤ i) && decide (i ≤ q.2)).map (·.2)
noncomputable def farE (l : SRow) (i : Nat) : Nat := (overN l i).foldl max 0
noncomputable def fewN (l : SRow) : Nat := gr (farE l) l.length l.length 0
theorem fold_max : ∀ (xs : List Nat) (a : Nat), (∀ x ∈ xs, x ≤ xs.foldl max a) ∧ a ≤ xs.foldl max a ∧ (xs.foldl max a = a ∨ xs.foldl max a ∈ xs)
  | [], a => ⟨by simp, Nat.le_refl _, .inl rfl⟩
  | x :: xs, a => by
    obtain ⟨h1, h2, h3⟩ := fold_max xs (max a x)
    rw [List.foldl_cons]
    refine ⟨fun y hy => ?_, by omega, ?_⟩
    · rcases List.mem_cons.mp hy with rfl | hy
      · omega
      · exact h1 y hy
    · rcases h3 with h3 | h3
      · rcases Nat.le_total a x with q | q
        · exact .inr (by rw [h3, Nat.max_eq_right q]; exact List.mem_cons_self)
        · exact .inl (by rw [h3, Nat.max_eq_left q])
      · exact .inr (List.mem_cons_of_mem _ h3)
theorem sp_mem {l : SRow} {q : Nat × Nat} : q ∈ spN l ↔ ∃ s, s < l.length ∧ (q = (startOf l s, s) ∨ q = (s, endOf l s)) := by
  unfold spN
  simp only [List.mem_flatMap, List.mem_range, List.mem_cons, List.not_mem_nil, or_false]
theorem over_mem {l : SRow} {i m : Nat} : m ∈ overN l i ↔ ∃ q ∈ spN l, q.1 ≤ i ∧ i ≤ q.2 ∧ q.2 = m := by
  unfold overN
  simp only [List.mem_map, List.mem_filter, Bool.and_eq_true, decide_eq_true_eq]
  constructor
  · rintro ⟨q, ⟨h1, h2, h3⟩, h4⟩
    exact ⟨q, h1, h2, h3, h4⟩
  · rintro ⟨q, h1, h2, h3, h4⟩
    exact ⟨q, ⟨h1, h2, h3⟩, h4⟩
theorem far_ge {l : SRow} {i : Nat} {q : Nat × Nat} (hq : q ∈ spN l) (h1 : q.1 ≤ i) (h2 : i ≤ q.2) : q.2 ≤ farE l i :=
  (fold_max (overN l i) 0).1 _ (over_mem.mpr ⟨q, hq, h1, h2, rfl⟩)
theorem far_own {l : SRow} (I : Inc l) {i : Nat} (hi : i < l.length) : i ≤ farE l i := by
  have h := endOf_ok I hi
  exact Nat.le_trans h.le (far_ge (q := (i, endOf l i)) (sp_mem.mpr ⟨i, hi, .inr rfl⟩) (Nat.le_refl _) h.le)
theorem far_ex {l : SRow} (I : Inc l) {i : Nat} (hi : i < l.length) : ∃ q ∈ spN l, q.1 ≤ i ∧ i ≤ q.2 ∧ q.2 = farE l i := by
  have h := endOf_ok I hi
  have hm : endOf l i ∈ overN l i := over_mem.mpr ⟨(i, endOf l i), sp_mem.mpr ⟨i, hi, .inr rfl⟩, Nat.le_refl _, h.le, rfl⟩
  obtain ⟨h1, h2, h3⟩ := fold_max (overN l i) 0
  rcases h3 with h3 | h3
  · have := h1 _ hm
    have e : endOf l i = farE l i := by show _ = List.foldl max 0 (overN l i); omega
    exact ⟨(i, endOf l i), sp_mem.mpr ⟨i, hi, .inr rfl⟩, Nat.le_refl _, h.le, e⟩
  · exact over_mem.mp h3
theorem sp_bd {l : SRow} (I : Inc l) {q : Nat × Nat} (hq : q ∈ spN l) : q.1 ≤ q.2 ∧ q.2 < l.length := by
  obtain ⟨s, hs, rfl | rfl⟩ := sp_mem.mp hq
  · exact ⟨(startOf_ok I hs).le, hs⟩
  · exact ⟨(endOf_ok I hs).le, (endOf_ok I hs).lt⟩
theorem far_lt {l : SRow} (I : Inc l) {i : Nat} (hi : i < l.length) : farE l i < l.length := by
  obtain ⟨q, h1, _, _, h4⟩ := far_ex I hi
  have := (sp_bd I h1).2
  omega
/-- the greatest of the ends over a stone -/
theorem far_of {l : SRow} {i m : Nat} (hm : m ∈ overN l i) (h : ∀ x ∈ overN l i, x ≤ m) : m = farE l i := by
  obtain ⟨h1, h2, h3⟩ := fold_max (overN l i) 0
  have e := h1 m hm
  rcases h3 with h3 | h3
  · show m = List.foldl max 0 (overN l i)
    omega
  · have := h _ h3
    show m = List.foldl max 0 (overN l i)
    omega
noncomputable def sidesD (l : SRow) (s : Nat) : List PyData := [.tuple [.tuple [.int (s : Nat), .str "left"], .tuple [.int (startOf l s : Nat), .int (s : Nat)]], .tuple [.tuple [.int (s : Nat), .str "right"], .tuple [.int (s : Nat), .int (endOf l s : Nat)]]]
noncomputable def sidesL (l : SRow) (n : Nat) : List PyData := (List.range n).flatMap (sidesD l)
theorem sides_succ {l : SRow} {n : Nat} : sidesL l (n + 1) = sidesL l n ++ sidesD l n := by unfold sidesL; rw [List.range_succ, List.flatMap_append]; simp
theorem sides_len {l : SRow} : ∀ {n : Nat}, (sidesL l n).length = 2 * n
  | 0 => rfl
  | n + 1 => by rw [sides_succ, List.length_append, sides_len (n := n)]; simp [sidesD]; omega
def mf_spans_of : MF := fun as R _ => ∃ l : SRow, as = [.d (rowD l)] ∧ Inc l ∧ R (.d (.list (sidesL l l.length)))
theorem d_spans_of {f : Addr} {fd : FuncData} (T : Txt K mg) (hm : mg "spans_of" = some (.ref f)) (F0 : L2.Fun K "spans_of" "spans_of" s_spans_of f fd) (hb : Binds K fd ["row"] []) (F_stretches : DFn P w K mg base CK "stretches" 2 0 1 mf_stretches) : DFn P w K mg base CK "spans_of" 3 0 1 mf_spans_of :=
  (dfn_of hm F0 hb sc_spans_of (fun cdv A outer s H E cx =>
 (dss_cons (ds_set (i := 1) sc_spans_of.nd rfl (by first | exact Or.inl rfl | exact Or.inr rfl) (de_lst da_nil))
 (dss_cons (ds_for (Ctx.passes rfl) (by rfl) (di_enumT (by rfl) T.n_enumerate (da_cons (de_call cx F_stretches (by decide) (by rfl) (da_cons (de_pv 0) da_nil)) da_nil)) (dg_tup (by rfl) (dgs_cons (dg_name (i := 2) sc_spans_of.nd rfl (by first | exact Or.inl rfl | exact Or.inr rfl)) (dgs_cons (dg_tup (by rfl) (dgs_cons (dg_name (i := 3) sc_spans_of.nd rfl (by first | exact Or.inl rfl | exact Or.inr rfl)) (dgs_cons (dg_name (i := 4) sc_spans_of.nd rfl (by first | exact Or.inl rfl | exact Or.inr rfl)) dgs_nil))) dgs_nil))) (dss_one (ds_mut PySem.F.slot_list_extend PySem.F.type_list_extend mt_extend mut_ext (pv 1) (da_cons (de_lst (da_cons (de_tup (da_cons (de_tup (da_cons (de_pv 2) (da_cons (de_gs (by rfl) T.c_LEFT) da_nil))) (da_cons (de_pv 3) da_nil))) (da_cons (de_tup (da_cons (de_tup (da_cons (de_pv 2) (da_cons (de_gs (by rfl) T.c_RIGHT) da_nil))) (da_cons (de_pv 4) da_nil))) da_nil))) da_nil))))
 (dss_one (ds_ret (de_pv 1))))))
  (by
    rintro as R ex hl ⟨l, rfl, I, h⟩
    have hn0 := I.n0
    have hn1 := I.n1
    walk_at "dx"
    refine ⟨by walk_at "lim", l, rfl, I, ?_⟩
    unfold spansD
    walk_at "dx"
    refine ⟨fun x hx => by cases List.mem_singleton.mp hx; rfl, ?_⟩
    refine for_at (fun k δ => ∃ (a b c : Option DV), k ≤ l.length ∧ δ = [some (.d (rowD l)), some (.own (sidesL l k)), a, b, c]) ⟨none, none, none, Nat.zero_le _, rfl⟩ ?_ ?_
    · rintro δ ⟨a, b, c, hk, rfl⟩
      have hz : (enumD 0 ((List.range l.length).map (spanD l))).length = l.length := by rw [enumD_len]; simp
      rw [hz]
      walk_at "dx"
      exact h
    · rintro k d δ K hd ⟨a, b, c, hk, rfl⟩ hK
      rw [enumD_get, List.getElem?_map] at hd
      have hkl : k < l.length := by
        rcases Nat.lt_or_ge k l.length with q | q
        · exact q
        · rw [List.getElem?_eq_none (by simpa using q)] at hd; cases hd
      rw [List.getElem?_range hkl] at hd
      cases hd
      unfold spanD
      rw [Nat.zero_add]
      walk_at "dx"
      refine ⟨by walk_at "lim", by walk_at "lim", by walk_at "lim", by walk_at "lim", by walk_at "lim", ?_⟩
      rw [if_pos (show (sidesL l k).length + 2 ≤ sizeLine from by rw [sides_len]; walk_at "lim")]
      exact hK _ ⟨_, _, _, hkl, by rw [sides_succ]; rfl⟩)).le (by decide +kernel)
def onSpH (i : Nat) : PyData → Option HP
  | .tuple [.tuple [.int s, .str x], .tuple [.int a, .int b]] => if decide (a ≤ (i : Nat)) && decide ((i : Nat) ≤ b) then some (b, s, x) else none
  | _ => none
def onSp (i : Nat) (d : PyData) : Option PyData := (onSpH i d).map hpD
noncomputable def overH (l : SRow) (i : Nat) : List HP := (sidesL l l.length).filterMap (onSpH i)
theorem over_lc {l : SRow} {i : Nat} : (sidesL l l.length).filterMap (onSp i) = (overH l i).map hpD := by
  unfold overH
  rw [List.map_filterMap]
  rfl
theorem sides_mem {l : SRow} {n : Nat} {d : PyData} : d ∈ sidesL l n ↔ ∃ s, s < n ∧ (d = .tuple [.tuple [.int (s : Nat), .str "left"], .tuple [.int (startOf l s : Nat), .int (s : Nat)]] ∨ d = .tuple [.tuple [.int (s : Nat), .str "right"], .tuple [.int (s : Nat), .int (endOf l s : Nat)]]) := by
  unfold sidesL sidesD
  simp only [List.mem_flatMap, List.mem_range, List.mem_cons, List.not_mem_nil, or_false]
theorem overH_in {l : SRow} {i : Nat} {m : HP} (h : m ∈ overH l i) : ∃ k ∈ overN l i, m.1 = (k : Nat) := by
  obtain ⟨d, hd, e⟩ := List.mem_filterMap.mp h
  obtain ⟨s, hs, rfl | rfl⟩ := sides_mem.mp hd
  · simp only [onSpH] at e
    split at e
    · rename_i c
      cases e
      simp only [Bool.and_eq_true, decide_eq_true_eq] at c
      exact ⟨s, over_mem.mpr ⟨(startOf l s, s), sp_mem.mpr ⟨s, hs, .inl rfl⟩, by simp only; omega, by simp only; omega, rfl⟩, rfl⟩
    · cases e
  · simp only [onSpH] at e
    split at e
    · rename_i c
      cases e
      simp only [Bool.and_eq_true, decide_eq_true_eq] at c
      exact ⟨endOf l s, over_mem.mpr ⟨(s, endOf l s), sp_mem.mpr ⟨s, hs, .inr rfl⟩, by simp only; omega, by simp only; omega, rfl⟩, rfl⟩
    · cases e
theorem overH_of {l : SRow} {i k : Nat} (h : k ∈ overN l i) : ∃ m ∈ overH l i, m.1 = (k : Nat) := by
  obtain ⟨q, hq, h1, h2, rfl⟩ := over_mem.mp h
  obtain ⟨s, hs, rfl | rfl⟩ := sp_mem.mp hq
  · refine ⟨((s : Nat), (s : Nat), "left"), List.mem_filterMap.mpr ⟨_, sides_mem.mpr ⟨s, hs, .inl rfl⟩, ?_⟩, rfl⟩
    simp only [onSpH]
    rw [if_pos]
    simp only at h1 h2
    simp only [Bool.and_eq_true, decide_eq_true_eq]
    omega
  · refine ⟨((endOf l s : Nat), (s : Nat), "right"), List.mem_filterMap.mpr ⟨_, sides_mem.mpr ⟨s, hs, .inr rfl⟩, ?_⟩, rfl⟩
    simp only [onSpH]
    rw [if_pos]
    simp only at h1 h2
    simp only [Bool.and_eq_true, decide_eq_true_eq]
    omega
theorem overH_max {l : SRow} {i : Nat} {m : HP} (hm : m ∈ overH l i) (h : ∀ q ∈ overH l i, q.1 ≤ m.1) : m.1 = (farE l i : Nat) := by
  obtain ⟨k, hk, e⟩ := overH_in hm
  rw [e, far_of hk fun x hx => ?_]
  obtain ⟨q, hq, e2⟩ := overH_of hx
  have := h q hq
  omega
theorem overH_pos {l : SRow} (I : Inc l) {i : Nat} (hi : i < l.length) : 0 < (overH l i).length := by
  have h := endOf_ok I hi
  obtain ⟨m, hm, _⟩ := overH_of (l := l) (i := i) (over_mem.mpr ⟨(i, endOf l i), sp_mem.mpr ⟨i, hi, .inr rfl⟩, Nat.le_refl _, h.le, rfl⟩)
  exact List.length_pos_of_mem hm
theorem overH_len {l : SRow} {i : Nat} : (overH l i).length ≤ 2 * l.length := by
  have := List.length_filterMap_le (onSpH i) (sidesL l l.length)
  rw [sides_len] at this
  exact this
/-- a push and its span -/
noncomputable def spanOf (l : SRow) (p : Nat × Bool) : Nat × Nat := if p.2 then (p.1, endOf l p.1) else (startOf l p.1, p.1)
def sideOf (b : Bool) : Str := if b then "right" else "left"
def hpOf (e : Nat) (p : Nat × Bool) : HP := ((e : Nat), (p.1 : Nat), sideOf p.2)
theorem span_sp {l : SRow} {p : Nat × Bool} (hp : p.1 < l.length) : spanOf l p ∈ spN l := by
  obtain ⟨s, b⟩ := p
  refine sp_mem.mpr ⟨s, hp, ?_⟩
  cases b
  · exact .inl rfl
  · exact .inr rfl
theorem overH_push {l : SRow} {i : Nat} {m : HP} (h : m ∈ overH l i) : ∃ p : Nat × Bool, p.1 < l.length ∧ (spanOf l p).1 ≤ i ∧ i ≤ (spanOf l p).2 ∧ m = hpOf (spanOf l p).2 p := by
  obtain ⟨d, hd, e⟩ := List.mem_filterMap.mp h
  obtain ⟨s, hs, rfl | rfl⟩ := sides_mem.mp hd
  · simp only [onSpH] at e
    split at e
    · rename_i c
      cases e
      simp only [Bool.and_eq_true, decide_eq_true_eq] at c
      exact ⟨(s, false), hs, by show startOf l s ≤ i; omega, by show i ≤ s; omega, rfl⟩
    · cases e
  · simp only [onSpH] at e
    split at e
    · rename_i c
      cases e
      simp only [Bool.and_eq_true, decide_eq_true_eq] at c
      exact ⟨(s, true), hs, by show s ≤ i; omega, by show i ≤ endOf l s; omega, rfl⟩
    · cases e
/-- of the pushes over i one that goes farthest -/
def Far (l : SRow) (i : Nat) (p : Nat × Bool) : Prop := p.1 < l.length ∧ (spanOf l p).1 ≤ i ∧ (spanOf l p).2 = farE l i ∧ topOf (overH l i) = hpOf (farE l i) p
structure Ends (l : SRow) (n : Nat) (es : List HP) : Prop where
  len : es.length = n
  at' : ∀ (i : Nat) (e : HP), es[i]? = some e → ∃ p, Far l i p ∧ e = hpOf (farE l i) p
def pushOf (p : Nat × Bool) : PyData := .tuple [.int (p.1 : Nat), .str (sideOf p.2)]
theorem Ends.get {l : SRow} {n : Nat} {es : List HP} (h : Ends l n es) {i : Nat} (hi : i < n) : ∃ p, Far l i p ∧ atI (es.map hpD) (i : Nat) = some (.tuple [.int (farE l i : Nat), pushOf p]) := by
  have hl : i < es.length := by rw [h.len]; exact hi
  obtain ⟨p, hp, e⟩ := h.at' i _ (List.getElem?_eq_getElem hl)
  refine ⟨p, hp, ?_⟩
  rw [atI_map (f := hpD) i rfl (List.getElem?_eq_getElem hl), e]
  rfl
def mf_far_ends : MF := fun as R _ => ∃ l : SRow, as = [.d (rowD l)] ∧ Inc l ∧ ∀ es : List HP, Ends l l.length es → R (.d (.list (es.map hpD)))
theorem d_far_ends {f : Addr} {fd : FuncData} (T : Txt K mg) (hm : mg "far_ends" = some (.ref f)) (F0 : L2.Fun K "far_ends" "far_ends" s_far_ends f fd) (hb : Binds K fd ["row"] []) (F_spans_of : DFn P w K mg base CK "spans_of" 3 0 1 mf_spans_of) : DFn P w K mg base CK "far_ends" 4 0 1 mf_far_ends :=
  (dfn_of hm F0 hb sc_far_ends (fun cdv A outer s H E cx =>
 (dss_cons (ds_par2 (i := 1) (j := 2) (by rfl) sc_far_ends.nd rfl rfl (by decide) rfl rfl (da_cons (de_call cx F_spans_of (by decide) (by rfl) (da_cons (de_pv 0) da_nil)) (da_cons (de_lst da_nil) da_nil)) (by rfl))
 (dss_cons (ds_for (Ctx.passes rfl) (by rfl) (di_range1 (by rfl) T.n_range (da_cons (de_len (by rfl) T.n_len (da_cons (de_pv 0) da_nil)) da_nil)) (dg_name (i := 3) sc_far_ends.nd rfl (by first | exact Or.inl rfl | exact Or.inr rfl)) (dss_one (ds_mut PySem.F.slot_list_append PySem.F.type_list_append mt_append mut_app (pv 2) (da_cons (de_maxHd cx.u (by rfl) (by rfl) T.n_max (da_cons (de_lc (own := [("push", 4), ("low", 5), ("high", 6)]) (dom := [4, 5, 6]) (by rfl) sc_far_ends.nd (di_list (de_pv 1)) (blkOk_by (by kernel_rfl)) (by decide) (fun _ _ _ _ _ => (dg_tup (by rfl) (dgs_cons (dg_name (i := 4) sc_far_ends.nd rfl (by first | exact Or.inl rfl | exact Or.inr rfl)) (dgs_cons (dg_tup (by rfl) (dgs_cons (dg_name (i := 5) sc_far_ends.nd rfl (by first | exact Or.inl rfl | exact Or.inr rfl)) (dgs_cons (dg_name (i := 6) sc_far_ends.nd rfl (by first | exact Or.inl rfl | exact Or.inr rfl)) dgs_nil))) dgs_nil)))) (fun _ _ _ _ _ => (dts_one (dt_ch op_le op_le (de_pv 5) (de_pv 3) (de_pv 6)))) (fun _ _ _ _ _ => (de_tup (da_cons (de_pv 6) (da_cons (de_pv 4) da_nil))))) da_nil)) da_nil))))
 (dss_one (ds_ret (de_pv 2))))))
  (by
    rintro as R ex hl ⟨l, rfl, I, h⟩
    have hn0 := I.n0
    have hn1 := I.n1
    have hlen : oLen (.d (rowD l)) = fun R => R (.d (.int l.length)) := by
      unfold rowD
      funext R
      walk_at "dx"
      rw [List.length_map]
    walk_at "dx"
    refine ⟨l, rfl, I, by walk_at "lim", ?_⟩
    walk_at "dx"
    rw [hlen]
    walk_at "dx"
    refine ⟨by omega, by omega, ?_⟩
    refine for_range (fun k δ => ∃ (es : List HP) (a b c d : Option DV), Ends l k es ∧ δ = [some (.d (rowD l)), some (.d (.list (sidesL l l.length))), some (.own (es.map hpD)), a, b, c, d]) ⟨[], _, _, _, _, ⟨rfl, fun i e h => by cases h⟩, rfl⟩ ?_ ?_
    · rintro δ ⟨es, a, b, c, d, hE, rfl⟩
      walk_at "dx"
      exact h es hE
    · rintro k δ K hk ⟨es, a, b, c, d, hE, rfl⟩ hK
      rw [show (0 : Int) + (k : Nat) = (k : Nat) from Int.zero_add _]
      walk_at "dx"
      refine lc_ind (onSp k) _ _ (fun x hx K1 K0 q1 q0 => ?_) (by rw [sides_len]; walk_at "lim") ?_
      · obtain ⟨s, hs, rfl | rfl⟩ := sides_mem.mp hx
        · walk_at "dx"
          have e : onSp k (.tuple [.tuple [.int (s : Nat), .str "left"], .tuple [.int (startOf l s : Nat), .int (s : Nat)]]) = Option.map hpD (if decide (((startOf l s : Nat) : Int) ≤ (k : Nat)) && decide (((k : Nat) : Int) ≤ (s : Nat)) then some (((s : Nat) : Int), ((s : Nat) : Int), "left") else none) := rfl
          rw [e] at q1 q0
          refine ⟨fun c1 => ⟨fun c2 => ⟨by walk_at "lim", q1 _ ?_⟩, fun c2 => q0 ?_⟩, fun c1 => q0 ?_⟩
          · rw [decide_eq_true c1, decide_eq_true c2]; rfl
          · rw [decide_eq_false c2, Bool.and_false]; rfl
          · rw [decide_eq_false c1, Bool.false_and]; rfl
        · walk_at "dx"
          have e : onSp k (.tuple [.tuple [.int (s : Nat), .str "right"], .tuple [.int (s : Nat), .int (endOf l s : Nat)]]) = Option.map hpD (if decide (((s : Nat) : Int) ≤ (k : Nat)) && decide (((k : Nat) : Int) ≤ (endOf l s : Nat)) then some (((endOf l s : Nat) : Int), ((s : Nat) : Int), "right") else none) := rfl
          rw [e] at q1 q0
          refine ⟨fun c1 => ⟨fun c2 => ⟨by walk_at "lim", q1 _ ?_⟩, fun c2 => q0 ?_⟩, fun c1 => q0 ?_⟩
          · rw [decide_eq_true c1, decide_eq_true c2]; rfl
          · rw [decide_eq_false c2, Bool.and_false]; rfl
          · rw [decide_eq_false c1, Bool.false_and]; rfl
      · rw [List.nil_append, over_lc]
        walk_at "dx"
        rw [hpsL_map]
        dsimp only
        refine ⟨overH_pos I hk, ?_⟩
        obtain ⟨hm, hq⟩ := top_max (overH_pos I hk)
        obtain ⟨m, hmt⟩ : ∃ m, m = topOf (overH l k) := ⟨_, rfl⟩
        rw [← hmt] at hm hq ⊢
        rw [if_pos (show (es.map hpD).length < sizeLine from by rw [List.length_map, hE.len]; walk_at "lim")]
        refine hK _ ⟨es ++ [m], _, _, _, _, ⟨by rw [List.length_append, hE.len]; rfl, fun i e he => ?_⟩, by rw [List.map_append]; rfl⟩
        rcases Nat.lt_or_ge i es.length with c | c
        · rw [List.getElem?_append_left c] at he
          exact hE.at' i e he
        · rw [List.getElem?_append_right c] at he
          have : i = k := by
            have := (List.getElem?_eq_some_iff.mp he).1
            rw [hE.len] at this c
            simp only [List.length_singleton] at this
            omega
          subst this
          rw [hE.len, Nat.sub_self] at he
          cases he
          have e1 := overH_max hm hq
          obtain ⟨p, p1, p2, p3, p4⟩ := overH_push hm
          have e2 : (spanOf l p).2 = farE l i := by
            rw [p4] at e1
            exact Int.ofNat.inj e1
          exact ⟨p, ⟨p1, p2, e2, by rw [← hmt, p4, e2]⟩, by rw [← e2]; exact p4⟩)).le (by decide +kernel)
def needF (f : Nat → Nat) : Nat → List Nat → Nat
  | _, [] => 0
  | h, s :: r => if h ≤ s then 1 + needF f (f s + 1) r else needF f h r
def srtN (ks : List Nat) : List Nat := ks.mergeSort fun a b => decide (a ≤ b)
theorem srt_perm {ks : List Nat} : (srtN ks).Perm ks := List.mergeSort_perm _ _
theorem srt_asc {ks : List Nat} : (srtN ks).Pairwise (· ≤ ·) := by
  have := List.pairwise_mergeSort (le := fun a b : Nat => decide (a ≤ b)) (fun a b c h1 h2 => by simp at *; omega) (fun a b => by simp; omega) ks
  exact this.imp fun h => by simpa using h
theorem srt_of {ks ms : List Nat} (hp : ms.Perm ks) (hs : ms.Pairwise (· ≤ ·)) : ms = srtN ks := List.Perm.eq_of_pairwise (fun a b _ _ h1 h2 => Nat.le_antisymm h1 h2) hs srt_asc (hp.trans srt_perm.symm)
theorem srt_mem {ks : List Nat} {x : Nat} : x ∈ srtN ks ↔ x ∈ ks := srt_perm.mem_iff
structure MonF (f : Nat → Nat) (n : Nat) : Prop where
  own : ∀ i, i < n → i ≤ f i
  mono : ∀ i j, i ≤ j → j < n → f i ≤ f j
theorem mon_of {l : SRow} (I : Inc l) : MonF (farE l) l.length := ⟨fun i hi => far_own I hi, fun i j h hj => by
  obtain ⟨q, h1, h2, h3, h4⟩ := far_ex I (Nat.lt_of_le_of_lt h hj)
  have := far_own I hj
  rcases Nat.lt_or_ge q.2 j with c | c
  · omega
  · have := far_ge h1 (by omega) c
    omega⟩

noncomputable def spG (l : SRow) (k : Nat) : Nat × Nat := (spN l).getD k (0, 0)
theorem spG_mem {l : SRow} {k : Nat} (h : k < (spN l).length) : spG l k ∈ spN l := by
  unfold spG
  rw [List.getD_eq_getElem?_getD, List.getElem?_eq_getElem h]
  exact List.getElem_mem h
theorem spG_of {l : SRow} {q : Nat × Nat} (h : q ∈ spN l) : ∃ k, k < (spN l).length ∧ spG l k = q := by
  obtain ⟨k, hk, e⟩ := List.getElem_of_mem h
  refine ⟨k, hk, ?_⟩
  unfold spG
  rw [List.getD_eq_getElem?_getD, List.getElem?_eq_getElem hk]
  exact e
/-- spans by number, with the fewest steps from each stone on -/
structure Fw (sp : Nat → Nat × Nat) (N n : Nat) (f fw : Nat → Nat) : Prop where
  lt : ∀ k, k < N → (sp k).1 ≤ (sp k).2 ∧ (sp k).2 < n
  fn : fw n = 0
  step : ∀ s, s < n → fw s = fw (f s + 1) + 1
  far : ∀ k, k < N → ∀ s, (sp k).1 ≤ s → s ≤ (sp k).2 → (sp k).2 ≤ f s
  fl : ∀ s, s < n → s ≤ f s ∧ f s < n
  anti : ∀ i j, i ≤ j → j ≤ n → fw j ≤ fw i
section
variable {sp : Nat → Nat × Nat} {N n : Nat} {f fw : Nat → Nat}
/-- what can come next -/
def goK (sp : Nat → Nat × Nat) (fw : Nat → Nat) (s k : Nat) : Bool := (decide ((sp k).1 ≤ s) && decide (s ≤ (sp k).2)) && decide (fw ((sp k).2 + 1) + 1 = fw s)
def chK (sp : Nat → Nat × Nat) (N : Nat) (fw : Nat → Nat) (s : Nat) : List Nat := (List.range N).filter (goK sp fw s)
theorem go_iff {s k : Nat} : goK sp fw s k = true ↔ (sp k).1 ≤ s ∧ s ≤ (sp k).2 ∧ fw ((sp k).2 + 1) + 1 = fw s := by
  unfold goK
  simp only [Bool.and_eq_true, decide_eq_true_eq, and_assoc]
theorem ch_mem {s k : Nat} : k ∈ chK sp N fw s ↔ k < N ∧ (sp k).1 ≤ s ∧ s ≤ (sp k).2 ∧ fw ((sp k).2 + 1) + 1 = fw s := by
  unfold chK
  rw [List.mem_filter, List.mem_range, go_iff]
/-- all ways on, by number of steps -/
def pth (sp : Nat → Nat × Nat) (N : Nat) (fw : Nat → Nat) : Nat → Nat → List (List Nat)
  | 0, _ => [[]]
  | t + 1, s => (chK sp N fw s).flatMap fun k => (pth sp N fw t ((sp k).2 + 1)).map (k :: ·)
def wayK (sp : Nat → Nat × Nat) (N : Nat) (fw : Nat → Nat) (s : Nat) : Nat := (pth sp N fw (fw s) s).length
theorem pwLen {α β : Type} {g : α → List β} : ∀ (xs : List α), (xs.flatMap g).length = (xs.map fun x => (g x).length).sum
  | [] => rfl
  | x :: xs => by rw [List.flatMap_cons, List.length_append, List.map_cons, List.sum_cons, pwLen xs]
theorem pwCnt {α β : Type} {p : β → Bool} {g : α → List β} : ∀ (xs : List α), (xs.flatMap g).countP p = (xs.map fun x => (g x).countP p).sum
  | [] => rfl
  | x :: xs => by rw [List.flatMap_cons, List.countP_append, List.map_cons, List.sum_cons, pwCnt xs]
theorem pwCg {α : Type} {g h : α → Nat} : ∀ {xs : List α}, (∀ x ∈ xs, g x = h x) → (xs.map g).sum = (xs.map h).sum
  | [], _ => rfl
  | x :: xs, e => by rw [List.map_cons, List.map_cons, List.sum_cons, List.sum_cons, e x (List.mem_cons_self ..), pwCg fun y hy => e y (List.mem_cons_of_mem _ hy)]
theorem pwAdd {α : Type} {g h : α → Nat} : ∀ {xs : List α}, (xs.map fun x => g x + h x).sum = (xs.map g).sum + (xs.map h).sum
  | [] => rfl
  | x :: xs => by
    simp only [List.map_cons, List.sum_cons]
    rw [pwAdd (xs := xs)]
    omega
theorem pwMul {α : Type} {g : α → Nat} {c : Nat} : ∀ {xs : List α}, (xs.map fun x => c * g x).sum = c * (xs.map g).sum
  | [] => by simp
  | x :: xs => by
    simp only [List.map_cons, List.sum_cons]
    rw [pwMul (xs := xs), Nat.mul_add]
theorem way_n : wayK sp N fw n = 1 ∨ fw n ≠ 0 := by
  by_cases h : fw n = 0
  · left; unfold wayK; rw [h]; rfl
  · exact .inr h
theorem Fw.way_end (W : Fw sp N n f fw) : wayK sp N fw n = 1 := by unfold wayK; rw [W.fn]; rfl
theorem Fw.pos (W : Fw sp N n f fw) {s : Nat} (h : s < n) : ∃ t, fw s = t + 1 := ⟨_, W.step s h⟩
theorem Fw.way_step (W : Fw sp N n f fw) {s : Nat} (h : s < n) : wayK sp N fw s = ((chK sp N fw s).map fun k => wayK sp N fw ((sp k).2 + 1)).sum := by
  obtain ⟨t, ht⟩ := W.pos h
  unfold wayK
  rw [ht]
  show ((chK sp N fw s).flatMap fun k => (pth sp N fw t ((sp k).2 + 1)).map (k :: ·)).length = _
  rw [pwLen]
  refine pwCg fun k hk => ?_
  have := (ch_mem.mp hk).2.2.2
  rw [List.length_map, show fw ((sp k).2 + 1) = t by omega]
/-- a way as a predicate -/
def Pth (sp : Nat → Nat × Nat) (N n : Nat) (fw : Nat → Nat) : Nat → List Nat → Prop
  | s, [] => s = n
  | s, k :: q => k ∈ chK sp N fw s ∧ Pth sp N n fw ((sp k).2 + 1) q
theorem Fw.mem (W : Fw sp N n f fw) : ∀ (q : List Nat) (s : Nat), s ≤ n → (q ∈ pth sp N fw (fw s) s ↔ Pth sp N n fw s q)
  | [], s, hs => by
    rcases Nat.lt_or_ge s n with c | c
    · obtain ⟨t, ht⟩ := W.pos c
      rw [ht]
      constructor
      · intro h
        obtain ⟨k, _, h2⟩ := List.mem_flatMap.mp h
        obtain ⟨_, _, e⟩ := List.mem_map.mp h2
        cases e
      · intro h
        have h : s = n := h
        omega
    · have : s = n := by omega
      subst this
      rw [W.fn]
      exact ⟨fun _ => rfl, fun _ => List.mem_singleton_self _⟩
  | k :: q, s, hs => by
    rcases Nat.lt_or_ge s n with c | c
    · obtain ⟨t, ht⟩ := W.pos c
      rw [ht]
      constructor
      · intro h
        obtain ⟨k', hk, h2⟩ := List.mem_flatMap.mp h
        obtain ⟨q', hq, e⟩ := List.mem_map.mp h2
        cases e
        have hk2 := ch_mem.mp hk
        have e1 : fw ((sp k).2 + 1) = t := by omega
        rw [← e1] at hq
        exact ⟨hk, (W.mem q _ (by have := (W.lt k hk2.1).2; omega)).mp hq⟩
      · rintro ⟨hk, hq⟩
        have hk2 := ch_mem.mp hk
        have e1 : fw ((sp k).2 + 1) = t := by omega
        refine List.mem_flatMap.mpr ⟨k, hk, List.mem_map.mpr ⟨q, ?_, rfl⟩⟩
        rw [← e1]
        exact (W.mem q _ (by have := (W.lt k hk2.1).2; omega)).mpr hq
    · have : s = n := by omega
      subst this
      rw [W.fn]
      constructor
      · intro h
        cases List.mem_singleton.mp h
      · rintro ⟨hk, _⟩
        have hk2 := ch_mem.mp hk
        rw [W.fn] at hk2
        omega
/-- what a way is like -/
theorem Fw.way (W : Fw sp N n f fw) : ∀ (q : List Nat) (s : Nat), s ≤ n → Pth sp N n fw s q → q.length = fw s ∧ (∀ k ∈ q, k < N ∧ s ≤ (sp k).2) ∧ q.Pairwise (fun a b => (sp a).2 < (sp b).2) ∧ ∀ x, s ≤ x → x < n → ∃ k ∈ q, (sp k).1 ≤ x ∧ x ≤ (sp k).2
  | [], s, hs, h => by
    have h : s = n := h
    subst h
    refine ⟨by rw [W.fn]; rfl, fun k hk => (by cases hk), List.Pairwise.nil, fun x h1 h2 => by omega⟩
  | k :: q, s, hs, ⟨hk, hq⟩ => by
    obtain ⟨k1, k2, k3, k4⟩ := ch_mem.mp hk
    have hb := W.lt k k1
    obtain ⟨i1, i2, i3, i4⟩ := W.way q _ (by omega) hq
    refine ⟨by rw [List.length_cons, i1, k4], fun x hx => ?_, List.pairwise_cons.mpr ⟨fun x hx => ?_, i3⟩, fun x h1 h2 => ?_⟩
    · rcases List.mem_cons.mp hx with rfl | hx
      · exact ⟨k1, k3⟩
      · have := i2 x hx
        exact ⟨this.1, by omega⟩
    · have := (i2 x hx).2
      omega
    · by_cases c : x ≤ (sp k).2
      · exact ⟨k, List.mem_cons_self .., by omega, c⟩
      · obtain ⟨y, hy, e⟩ := i4 x (by omega) h2
        exact ⟨y, List.mem_cons_of_mem _ hy, e⟩
theorem pwLt {α : Type} {p q : α → Bool} {a : α} : ∀ {xs : List α}, (∀ x, p x = true → q x = true) → a ∈ xs → q a = true → p a = false → xs.countP p + 1 ≤ xs.countP q
  | [], _, h, _, _ => by cases h
  | x :: xs, hpq, h, hq, hp => by
    rw [List.countP_cons, List.countP_cons]
    rcases List.mem_cons.mp h with rfl | h
    · rw [hq, hp]
      have := List.countP_mono_left (l := xs) (p := p) (q := q) fun y _ => hpq y
      simp
      omega
    · have := pwLt hpq h hq hp
      cases e : p x with
      | true => rw [hpq x e]; simp; omega
      | false => cases q x <;> simp <;> omega
/-- no fewer of them cover -/
theorem Fw.low (W : Fw sp N n f fw) {c : List Nat} (hc : ∀ k ∈ c, k < N) : ∀ (m s : Nat), n - s ≤ m → s ≤ n → (∀ x, s ≤ x → x < n → ∃ k ∈ c, (sp k).1 ≤ x ∧ x ≤ (sp k).2) → fw s ≤ c.countP fun k => decide (s ≤ (sp k).2) := by
  intro m
  induction m with
  | zero =>
    intro s h1 h2 _
    have : s = n := by omega
    subst this
    rw [W.fn]
    exact Nat.zero_le _
  | succ m ih =>
    intro s h1 h2 hx
    rcases Nat.lt_or_ge s n with q | q
    · obtain ⟨k, hk, k1, k2⟩ := hx s (Nat.le_refl _) q
      have hb := W.lt k (hc k hk)
      have h3 := ih ((sp k).2 + 1) (by omega) (by omega) fun x a b => hx x (by omega) b
      have h4 := pwLt (p := fun x => decide ((sp k).2 + 1 ≤ (sp x).2)) (q := fun x => decide (s ≤ (sp x).2)) (a := k) (xs := c) (fun x h => by simp only [decide_eq_true_eq] at h ⊢; omega) hk (by simp only [decide_eq_true_eq]; omega) (by simp only [decide_eq_false_iff_not]; omega)
      have h5 := W.step s q
      have h6 := W.far k (hc k hk) s k1 k2
      have h7 := W.anti ((sp k).2 + 1) (f s + 1) (by omega) (by have := (W.fl s q).2; omega)
      omega
    · have : s = n := by omega
      subst this
      rw [W.fn]
      exact Nat.zero_le _
theorem pwN2 {α : Type} {p q : α → Bool} {a b : α} : ∀ {xs : List α}, xs.Nodup → (∀ x, p x = true → q x = true) → a ∈ xs → b ∈ xs → a ≠ b → q a = true → q b = true → p a = false → p b = false → xs.countP p + 2 ≤ xs.countP q
  | [], _, _, h, _, _, _, _, _, _ => by cases h
  | x :: xs, nd, hpq, ha, hb, ne, qa, qb, pa, pb => by
    obtain ⟨n1, n2⟩ := List.nodup_cons.mp nd
    rw [List.countP_cons, List.countP_cons]
    rcases List.mem_cons.mp ha with rfl | ha2
    · rcases List.mem_cons.mp hb with rfl | hb2
      · exact absurd rfl ne
      · have := pwLt hpq hb2 qb pb
        rw [qa, pa]
        simp
        omega
    · rcases List.mem_cons.mp hb with rfl | hb2
      · have := pwLt hpq ha2 qa pa
        rw [qb, pb]
        simp only [if_true, Bool.false_eq_true, if_false]
        omega
      · have := pwN2 n2 hpq ha2 hb2 ne qa qb pa pb
        cases e : p x with
        | true => rw [hpq x e]; simp; omega
        | false => cases q x <;> simp <;> omega
/-- as few as can be are a way -/
theorem Fw.of_cover (W : Fw sp N n f fw) {c : List Nat} (nd : c.Nodup) (hc : ∀ k ∈ c, k < N) : ∀ (m s : Nat), n - s ≤ m → s ≤ n → (∀ x, s ≤ x → x < n → ∃ k ∈ c, (sp k).1 ≤ x ∧ x ≤ (sp k).2) → (c.countP fun k => decide (s ≤ (sp k).2)) ≤ fw s →
    ∃ q, Pth sp N n fw s q ∧ ∀ k, k ∈ q ↔ k ∈ c ∧ s ≤ (sp k).2 := by
  intro m
  induction m with
  | zero =>
    intro s h1 h2 _ _
    have : s = n := by omega
    subst this
    exact ⟨[], rfl, fun k => ⟨fun h => (by cases h), fun h => by have := (W.lt k (hc k h.1)).2; omega⟩⟩
  | succ m ih =>
    intro s h1 h2 hx hle
    rcases Nat.lt_or_ge s n with q | q
    · obtain ⟨k, hk, k1, k2⟩ := hx s (Nat.le_refl _) q
      have hb := W.lt k (hc k hk)
      have hx' : ∀ x, (sp k).2 + 1 ≤ x → x < n → ∃ k ∈ c, (sp k).1 ≤ x ∧ x ≤ (sp k).2 := fun x a b => hx x (by omega) b
      have h3 := W.low hc (n - ((sp k).2 + 1)) ((sp k).2 + 1) (Nat.le_refl _) (by omega) hx'
      have h4 := pwLt (p := fun x => decide ((sp k).2 + 1 ≤ (sp x).2)) (q := fun x => decide (s ≤ (sp x).2)) (a := k) (xs := c) (fun x h => by simp only [decide_eq_true_eq] at h ⊢; omega) hk (by simp only [decide_eq_true_eq]; omega) (by simp only [decide_eq_false_iff_not]; omega)
      have h5 := W.step s q
      have h6 := W.far k (hc k hk) s k1 k2
      have h7 := W.anti ((sp k).2 + 1) (f s + 1) (by omega) (by have := (W.fl s q).2; omega)
      obtain ⟨r, r1, r2⟩ := ih ((sp k).2 + 1) (by omega) (by omega) hx' (by omega)
      refine ⟨k :: r, ⟨ch_mem.mpr ⟨hc k hk, k1, k2, by omega⟩, r1⟩, fun x => ?_⟩
      rw [List.mem_cons, r2 x]
      constructor
      · rintro (rfl | ⟨h8, h9⟩)
        · exact ⟨hk, k2⟩
        · exact ⟨h8, by omega⟩
      · rintro ⟨h8, h9⟩
        by_cases e : x = k
        · exact .inl e
        · refine .inr ⟨h8, ?_⟩
          rcases Nat.lt_or_ge (sp x).2 ((sp k).2 + 1) with z | z
          · exfalso
            have := pwN2 (p := fun x => decide ((sp k).2 + 1 ≤ (sp x).2)) (q := fun x => decide (s ≤ (sp x).2)) (a := k) (b := x) nd (fun x h => by simp only [decide_eq_true_eq] at h ⊢; omega) hk h8 (fun z => e z.symm) (by simp only [decide_eq_true_eq]; omega) (by simp only [decide_eq_true_eq]; omega) (by simp only [decide_eq_false_iff_not]; omega) (by simp only [decide_eq_false_iff_not]; omega)
            omega
          · exact z
    · have : s = n := by omega
      subst this
      exact ⟨[], rfl, fun k => ⟨fun h => (by cases h), fun h => by have := (W.lt k (hc k h.1)).2; omega⟩⟩
end
section
variable {sp : Nat → Nat × Nat} {N n : Nat} {f fw : Nat → Nat}
theorem ch_nd {s : Nat} : (chK sp N fw s).Nodup := List.nodup_range.sublist List.filter_sublist
/-- how many ways on have a step -/
def cntK (sp : Nat → Nat × Nat) (N : Nat) (fw : Nat → Nat) (k s : Nat) : Nat := (pth sp N fw (fw s) s).countP fun q => decide (k ∈ q)
theorem pwZ {α : Type} {p : α → Bool} : ∀ {xs : List α}, (∀ x ∈ xs, p x = false) → xs.countP p = 0
  | [], _ => rfl
  | x :: xs, h => by rw [List.countP_cons, h x (List.mem_cons_self ..), pwZ fun y hy => h y (List.mem_cons_of_mem _ hy)]; rfl
theorem pwO {α : Type} {p : α → Bool} : ∀ {xs : List α}, (∀ x ∈ xs, p x = true) → xs.countP p = xs.length
  | [], _ => rfl
  | x :: xs, h => by rw [List.countP_cons, h x (List.mem_cons_self ..), pwO fun y hy => h y (List.mem_cons_of_mem _ hy)]; rfl
theorem Fw.cnt_late (W : Fw sp N n f fw) {k s : Nat} (hs : s ≤ n) (h : (sp k).2 < s) : cntK sp N fw k s = 0 := pwZ fun q hq => by
  rw [decide_eq_false_iff_not]
  intro hk
  have := (W.way q s hs ((W.mem q s hs).mp hq)).2.1 k hk
  omega
theorem pwOne {k c : Nat} : ∀ {xs : List Nat}, xs.Nodup → (xs.map fun x => if x = k then c else 0).sum = if k ∈ xs then c else 0
  | [], _ => rfl
  | x :: xs, h => by
    obtain ⟨h1, h2⟩ := List.nodup_cons.mp h
    rw [List.map_cons, List.sum_cons, pwOne h2]
    by_cases e : x = k
    · subst e
      rw [if_pos rfl, if_neg h1, if_pos (List.mem_cons_self ..)]
      rfl
    · rw [if_neg e, Nat.zero_add]
      by_cases e2 : k ∈ xs
      · rw [if_pos e2, if_pos (List.mem_cons_of_mem _ e2)]
      · rw [if_neg e2, if_neg]
        intro z
        rcases List.mem_cons.mp z with z | z
        · exact e z.symm
        · exact e2 z
theorem Fw.cnt_step (W : Fw sp N n f fw) {k s : Nat} (h : s < n) : cntK sp N fw k s = (if k ∈ chK sp N fw s then wayK sp N fw ((sp k).2 + 1) else 0) + ((chK sp N fw s).map fun x => cntK sp N fw k ((sp x).2 + 1)).sum := by
  obtain ⟨t, ht⟩ := W.pos h
  have e0 : cntK sp N fw k s = ((chK sp N fw s).map fun x => (if x = k then wayK sp N fw ((sp k).2 + 1) else 0) + cntK sp N fw k ((sp x).2 + 1)).sum := by
    show (pth sp N fw (fw s) s).countP _ = _
    rw [ht]
    show ((chK sp N fw s).flatMap fun k => (pth sp N fw t ((sp k).2 + 1)).map (k :: ·)).countP _ = _
    rw [pwCnt]
    refine pwCg fun x hx => ?_
    obtain ⟨x1, x2, x3, x4⟩ := ch_mem.mp hx
    have e1 : fw ((sp x).2 + 1) = t := by omega
    rw [List.countP_map]
    by_cases e : x = k
    · subst e
      rw [if_pos rfl, W.cnt_late (by have := (W.lt x x1).2; omega) (Nat.lt_succ_self _), Nat.add_zero]
      unfold wayK
      rw [e1]
      exact pwO fun q _ => by simp
    · rw [if_neg e, Nat.zero_add]
      unfold cntK
      rw [e1]
      refine List.countP_congr fun q _ => ?_
      simp only [Function.comp, decide_eq_true_eq, List.mem_cons]
      exact ⟨fun z => z.elim (fun z => absurd z.symm e) id, .inr⟩
  rw [e0, pwAdd, pwOne ch_nd]
/-- in how many ways a stone comes to be the next one, the first m stones looked at -/
def bfK (sp : Nat → Nat × Nat) (N : Nat) (fw : Nat → Nat) : Nat → Nat → Nat
  | 0, j => if j = 0 then 1 else 0
  | m + 1, j => bfK sp N fw m j + bfK sp N fw m m * (chK sp N fw m).countP fun k => decide ((sp k).2 + 1 = j)
theorem bf_old {j : Nat} : ∀ m, j ≤ m → bfK sp N fw m j = bfK sp N fw j j := fun m h => by
  induction h with
  | refl => rfl
  | @step m h ih =>
    show bfK sp N fw m j + _ = _
    rw [ih, pwZ fun k hk => ?_, Nat.mul_zero, Nat.add_zero]
    have h : j ≤ m := h
    have := (ch_mem.mp hk).2.2.1
    rw [decide_eq_false_iff_not]
    omega
theorem pwS0 {α : Type} : ∀ (xs : List α), (xs.map fun _ => 0).sum = 0
  | [] => rfl
  | x :: xs => by rw [List.map_cons, List.sum_cons, pwS0 xs]
theorem pwPt {h : Nat → Nat} {g : Nat} : ∀ L, g < L → ((List.range L).map fun j => if g = j then h j else 0).sum = h g
  | 0, c => absurd c (Nat.not_lt_zero _)
  | L + 1, c => by
    rw [List.range_succ, List.map_append, List.sum_append]
    rcases Nat.lt_or_ge g L with q | q
    · rw [pwPt L q]
      simp only [List.map_cons, List.map_nil, List.sum_cons, List.sum_nil]
      rw [if_neg (by omega)]
      rfl
    · have : g = L := by omega
      subst this
      have z : ∀ L, L ≤ g → ((List.range L).map fun j => if g = j then h j else 0).sum = 0 := by
        intro L
        induction L with
        | zero => exact fun _ => rfl
        | succ L ih =>
          intro hL
          rw [List.range_succ, List.map_append, List.sum_append, ih (by omega)]
          simp only [List.map_cons, List.map_nil, List.sum_cons, List.sum_nil]
          rw [if_neg (by omega)]
          rfl
      rw [z g (Nat.le_refl _)]
      simp
theorem pwDc {h g : Nat → Nat} {L : Nat} : ∀ {xs : List Nat}, (∀ x ∈ xs, g x < L) → ((List.range L).map fun j => xs.countP (fun x => decide (g x = j)) * h j).sum = (xs.map fun x => h (g x)).sum
  | [], _ => by
    rw [pwCg (h := fun _ => 0) fun x _ => by simp, pwS0]
    rfl
  | x :: xs, hx => by
    rw [List.map_cons, List.sum_cons, ← pwDc fun y hy => hx y (List.mem_cons_of_mem _ hy), ← pwPt (h := h) L (hx x (List.mem_cons_self ..)), ← pwAdd]
    refine pwCg fun j _ => ?_
    rw [List.countP_cons]
    by_cases e : g x = j
    · rw [if_pos e, decide_eq_true e, if_pos rfl, Nat.add_mul, Nat.one_mul, Nat.add_comm]
    · rw [if_neg e, decide_eq_false e, if_neg Bool.false_ne_true, Nat.add_zero, Nat.zero_add]
/-- how many ways have a step, by the ways to it and those on -/
theorem Fw.through (W : Fw sp N n f fw) (k : Nat) : ((List.range n).map fun s => if k ∈ chK sp N fw s then bfK sp N fw n s * wayK sp N fw ((sp k).2 + 1) else 0).sum = cntK sp N fw k 0 := by
  have inv : ∀ m, m ≤ n → ((List.range (n + 1)).map fun j => if m ≤ j then bfK sp N fw m j * cntK sp N fw k j else 0).sum + ((List.range m).map fun s => if k ∈ chK sp N fw s then bfK sp N fw s s * wayK sp N fw ((sp k).2 + 1) else 0).sum = cntK sp N fw k 0 := by
    intro m
    induction m with
    | zero =>
      intro _
      show ((List.range (n + 1)).map fun j => if 0 ≤ j then bfK sp N fw 0 j * cntK sp N fw k j else 0).sum + 0 = _
      rw [Nat.add_zero, pwCg (h := fun j => if 0 = j then cntK sp N fw k j else 0) fun j _ => ?_, pwPt _ (Nat.succ_pos n)]
      rw [if_pos (Nat.zero_le _)]
      show (if j = 0 then 1 else 0) * _ = _
      by_cases e : j = 0
      · rw [if_pos e, if_pos e.symm, Nat.one_mul]
      · rw [if_neg e, if_neg (fun z => e z.symm), Nat.zero_mul]
    | succ m ih =>
      intro hm
      have ih := ih (by omega)
      have hs := W.cnt_step (k := k) (s := m) (by omega)
      have hd : ((List.range (n + 1)).map fun j => (chK sp N fw m).countP (fun x => decide ((sp x).2 + 1 = j)) * cntK sp N fw k j).sum = ((chK sp N fw m).map fun x => cntK sp N fw k ((sp x).2 + 1)).sum := pwDc (g := fun x => (sp x).2 + 1) fun x hx => by
        have := (W.lt x (ch_mem.mp hx).1).2
        omega
      have e1 : ((List.range (n + 1)).map fun j => if m ≤ j then bfK sp N fw m j * cntK sp N fw k j else 0).sum = ((List.range (n + 1)).map fun j => if m + 1 ≤ j then bfK sp N fw m j * cntK sp N fw k j else 0).sum + bfK sp N fw m m * cntK sp N fw k m := by
        rw [← pwPt (h := fun j => bfK sp N fw m j * cntK sp N fw k j) (n + 1) (show m < n + 1 by omega), ← pwAdd]
        refine pwCg fun j _ => ?_
        by_cases c : m = j
        · subst c
          rw [if_pos (Nat.le_refl _), if_neg (by omega), if_pos rfl, Nat.zero_add]
        · rw [if_neg c, Nat.add_zero]
          by_cases c2 : m ≤ j
          · rw [if_pos c2, if_pos (by omega)]
          · rw [if_neg c2, if_neg (by omega)]
      have e2 : ((List.range (n + 1)).map fun j => if m + 1 ≤ j then bfK sp N fw (m + 1) j * cntK sp N fw k j else 0).sum = ((List.range (n + 1)).map fun j => if m + 1 ≤ j then bfK sp N fw m j * cntK sp N fw k j else 0).sum + bfK sp N fw m m * ((chK sp N fw m).map fun x => cntK sp N fw k ((sp x).2 + 1)).sum := by
        rw [← hd, ← pwMul, ← pwAdd]
        refine pwCg fun j _ => ?_
        by_cases c : m + 1 ≤ j
        · rw [if_pos c, if_pos c]
          show (bfK sp N fw m j + bfK sp N fw m m * _) * _ = _
          rw [Nat.add_mul, Nat.mul_assoc]
        · rw [if_neg c, if_neg c, Nat.zero_add, pwZ fun x hx => ?_, Nat.zero_mul, Nat.mul_zero]
          have := (ch_mem.mp hx).2.2.1
          rw [decide_eq_false_iff_not]
          omega
      rw [List.range_succ (n := m), List.map_append, List.sum_append]
      simp only [List.map_cons, List.map_nil, List.sum_cons, List.sum_nil]
      rw [e1, hs, Nat.mul_add] at ih
      rw [e2]
      have e3 : bfK sp N fw m m * (if k ∈ chK sp N fw m then wayK sp N fw ((sp k).2 + 1) else 0) = if k ∈ chK sp N fw m then bfK sp N fw m m * wayK sp N fw ((sp k).2 + 1) else 0 := by split <;> simp
      rw [e3] at ih
      omega
  have h := inv n (Nat.le_refl _)
  have z : ((List.range (n + 1)).map fun j => if n ≤ j then bfK sp N fw n j * cntK sp N fw k j else 0).sum = 0 := by
    rw [pwCg (h := fun _ => 0) fun j hj => ?_]
    · exact pwS0 _
    · have hj := List.mem_range.mp hj
      by_cases c : n ≤ j
      · have : j = n := by omega
        subst this
        rw [if_pos c]
        have : cntK sp N fw k j = 0 := by
          unfold cntK
          rw [W.fn]
          rfl
        rw [this, Nat.mul_zero]
      · rw [if_neg c]
  rw [z, Nat.zero_add] at h
  rw [← h]
  refine pwCg fun s hs => ?_
  rw [bf_old n (Nat.le_of_lt (List.mem_range.mp hs))]
/-! ### the ways are the smallest covers -/
theorem pwNf {α β : Type} {g : α → List β} : ∀ {xs : List α}, xs.Nodup → (∀ x ∈ xs, (g x).Nodup) → (∀ x ∈ xs, ∀ y ∈ xs, x ≠ y → ∀ z, z ∈ g x → z ∉ g y) → (xs.flatMap g).Nodup
  | [], _, _, _ => List.nodup_nil
  | x :: xs, h, h2, h3 => by
    obtain ⟨n1, n2⟩ := List.nodup_cons.mp h
    rw [List.flatMap_cons]
    refine List.nodup_append.mpr ⟨h2 x (List.mem_cons_self ..), pwNf n2 (fun y hy => h2 y (List.mem_cons_of_mem _ hy)) fun y hy z hz => h3 y (List.mem_cons_of_mem _ hy) z (List.mem_cons_of_mem _ hz), fun a ha b hb e => ?_⟩
    subst e
    obtain ⟨y, hy, hb⟩ := List.mem_flatMap.mp hb
    exact h3 x (List.mem_cons_self ..) y (List.mem_cons_of_mem _ hy) (fun e => n1 (e ▸ hy)) a ha hb
theorem pwNm {α β : Type} {g : α → β} : ∀ {xs : List α}, xs.Nodup → (∀ x ∈ xs, ∀ y ∈ xs, g x = g y → x = y) → (xs.map g).Nodup
  | [], _, _ => List.nodup_nil
  | x :: xs, h, h2 => by
    obtain ⟨n1, n2⟩ := List.nodup_cons.mp h
    rw [List.map_cons]
    refine List.nodup_cons.mpr ⟨fun hm => ?_, pwNm n2 fun y hy z hz => h2 y (List.mem_cons_of_mem _ hy) z (List.mem_cons_of_mem _ hz)⟩
    obtain ⟨y, hy, e⟩ := List.mem_map.mp hm
    have := h2 y (List.mem_cons_of_mem _ hy) x (List.mem_cons_self ..) e
    exact n1 (this ▸ hy)
theorem pth_nd : ∀ t s, (pth sp N fw t s).Nodup
  | 0, s => by show [[]].Nodup; simp
  | t + 1, s => pwNf ch_nd (fun k _ => pwNm (pth_nd t _) fun x _ y _ e => (List.cons.inj e).2) fun x _ y _ ne z hz hz2 => by
    obtain ⟨a, _, rfl⟩ := List.mem_map.mp hz
    obtain ⟨b, _, e⟩ := List.mem_map.mp hz2
    exact ne (List.cons.inj e).1.symm
/-- all smallest covers, each once -/
structure AllC (sp : Nat → Nat × Nat) (N n m : Nat) (CL : List (List Nat)) : Prop where
  nd : CL.Nodup
  mem : ∀ c, c ∈ CL ↔ c.Pairwise (· < ·) ∧ (∀ k ∈ c, k < N) ∧ c.length = m ∧ ∀ x, x < n → ∃ k ∈ c, (sp k).1 ≤ x ∧ x ≤ (sp k).2
theorem Fw.all (W : Fw sp N n f fw) {CL : List (List Nat)} (h : AllC sp N n (fw 0) CL) : ((pth sp N fw (fw 0) 0).map srtN).Perm CL := by
  have key : ∀ q ∈ pth sp N fw (fw 0) 0, q.length = fw 0 ∧ (∀ k ∈ q, k < N ∧ 0 ≤ (sp k).2) ∧ q.Pairwise (fun a b => (sp a).2 < (sp b).2) ∧ ∀ x, 0 ≤ x → x < n → ∃ k ∈ q, (sp k).1 ≤ x ∧ x ≤ (sp k).2 := fun q hq => W.way q 0 (Nat.zero_le _) ((W.mem q 0 (Nat.zero_le _)).mp hq)
  refine (List.perm_ext_iff_of_nodup (pwNm (pth_nd _ _) fun q hq r hr e => ?_) h.nd).mpr fun c => ?_
  · have hp : q.Perm r := srt_perm.symm.trans (e ▸ srt_perm)
    exact List.Perm.eq_of_pairwise (fun a b _ _ h1 h2 => by omega) (key q hq).2.2.1 (key r hr).2.2.1 hp
  · rw [h.mem c, List.mem_map]
    constructor
    · rintro ⟨q, hq, rfl⟩
      obtain ⟨h1, h2, h3, h4⟩ := key q hq
      have hnd : q.Nodup := h3.imp fun hab e => by subst e; omega
      refine ⟨?_, fun k hk => (h2 k (srt_mem.mp hk)).1, by rw [srt_perm.length_eq]; exact h1, fun x hx => ?_⟩
      · exact (List.pairwise_and_iff.mpr ⟨srt_asc, (srt_perm.nodup_iff).mpr hnd⟩).imp fun h => Nat.lt_of_le_of_ne h.1 h.2
      · obtain ⟨k, hk, e⟩ := h4 x (Nat.zero_le _) hx
        exact ⟨k, srt_mem.mpr hk, e⟩
    · rintro ⟨h1, h2, h3, h4⟩
      have hnd : c.Nodup := h1.imp fun h => Nat.ne_of_lt h
      obtain ⟨q, q1, q2⟩ := W.of_cover hnd h2 n 0 (by omega) (Nat.zero_le _) (fun x _ hx => h4 x hx) (by rw [← h3]; exact List.countP_le_length)
      have hq := (W.mem q 0 (Nat.zero_le _)).mpr q1
      have hqn : q.Nodup := (key q hq).2.2.1.imp fun hab e => by subst e; omega
      have hp : q.Perm c := (List.perm_ext_iff_of_nodup hqn hnd).mpr fun k => by rw [q2 k]; exact ⟨fun h => h.1, fun h => ⟨h, Nat.zero_le _⟩⟩
      refine ⟨q, hq, ?_⟩
      exact List.Perm.eq_of_pairwise (fun a b _ _ h1 h2 => Nat.le_antisymm h1 h2) srt_asc (h1.imp fun h => Nat.le_of_lt h) (srt_perm.trans hp)
theorem Fw.all_cnt (W : Fw sp N n f fw) {CL : List (List Nat)} (h : AllC sp N n (fw 0) CL) : CL.length = wayK sp N fw 0 ∧ ∀ k, CL.countP (fun c => decide (k ∈ c)) = cntK sp N fw k 0 := by
  have hp := W.all h
  refine ⟨by rw [← hp.length_eq, List.length_map]; rfl, fun k => ?_⟩
  rw [← hp.countP_eq, List.countP_map]
  refine List.countP_congr fun q _ => ?_
  simp only [Function.comp, decide_eq_true_eq]
  exact srt_mem
end
def pushD2 (s : Nat) : List PyData := [.tuple [.int (s : Nat), .str "left"], .tuple [.int (s : Nat), .str "right"]]
def pushL (n : Nat) : List PyData := (List.range n).flatMap pushD2
theorem pushL_succ {n : Nat} : pushL (n + 1) = pushL n ++ pushD2 n := by unfold pushL; rw [List.range_succ, List.flatMap_append]; simp
theorem pushL_len : ∀ {n : Nat}, (pushL n).length = 2 * n
  | 0 => rfl
  | n + 1 => by rw [pushL_succ, List.length_append, pushL_len (n := n)]; simp [pushD2]; omega
def mf__law_pushes : MF := fun as R _ => ∃ l : SRow, as = [.d (rowD l)] ∧ l.length ≤ 1000 ∧ R (.d (.list (pushL l.length)))
noncomputable def fwl (l : SRow) (i : Nat) : Nat := gr (farE l) l.length (l.length - i) i
theorem spN_at {l : SRow} : ∀ n : Nat, (List.range n).flatMap (fun s => [(startOf l s, s), (s, endOf l s)]) = (List.range (2 * n)).map fun k => if k % 2 = 0 then (startOf l (k / 2), k / 2) else (k / 2, endOf l (k / 2))
  | 0 => rfl
  | n + 1 => by
    rw [List.range_succ, List.flatMap_append, spN_at n, show 2 * (n + 1) = 2 * n + 1 + 1 by omega, List.range_succ, List.range_succ, List.map_append, List.map_append]
    simp only [List.flatMap_cons, List.flatMap_nil, List.append_nil, List.map_cons, List.map_nil, List.append_assoc, List.singleton_append]
    rw [if_pos (by omega), if_neg (by omega), show 2 * n / 2 = n by omega, show (2 * n + 1) / 2 = n by omega]
theorem spN_len {l : SRow} : (spN l).length = 2 * l.length := by unfold spN; rw [spN_at, List.length_map, List.length_range]
theorem spG_at {l : SRow} {k : Nat} (h : k < 2 * l.length) : spG l k = if k % 2 = 0 then (startOf l (k / 2), k / 2) else (k / 2, endOf l (k / 2)) := by
  unfold spG spN
  rw [spN_at, List.getD_eq_getElem?_getD, List.getElem?_map, List.getElem?_range h]
  rfl
/-- a push by its number -/
def puD (k : Nat) : PyData := .tuple [.int ((k / 2 : Nat) : Int), .str (if k % 2 = 0 then "left" else "right")]
noncomputable def sideK (l : SRow) (k : Nat) : PyData := .tuple [puD k, .tuple [.int ((spG l k).1 : Nat), .int ((spG l k).2 : Nat)]]
theorem sides_at {l : SRow} : sidesL l l.length = (List.range (2 * l.length)).map (sideK l) := by
  have key : ∀ n, n ≤ l.length → sidesL l n = (List.range (2 * n)).map (sideK l) := by
    intro n
    induction n with
    | zero => exact fun _ => rfl
    | succ n ih =>
      intro hn
      rw [sides_succ, ih (by omega), show 2 * (n + 1) = 2 * n + 1 + 1 by omega, List.range_succ, List.range_succ, List.map_append, List.map_append]
      unfold sidesD
      simp only [List.map_cons, List.map_nil, List.append_assoc, List.singleton_append]
      unfold sideK
      rw [spG_at (show 2 * n < 2 * l.length by omega), spG_at (show 2 * n + 1 < 2 * l.length by omega), if_pos (by omega), if_neg (by omega)]
      unfold puD
      rw [if_pos (show 2 * n % 2 = 0 by omega), if_neg (show ¬ (2 * n + 1) % 2 = 0 by omega), show 2 * n / 2 = n by omega, show (2 * n + 1) / 2 = n by omega]
  exact key _ (Nat.le_refl _)
theorem pu_at : ∀ n : Nat, pushL n = (List.range (2 * n)).map puD
  | 0 => rfl
  | n + 1 => by
    rw [pushL_succ, pu_at n, show 2 * (n + 1) = 2 * n + 1 + 1 by omega, List.range_succ, List.range_succ, List.map_append, List.map_append]
    simp only [List.map_cons, List.map_nil, List.append_assoc, List.singleton_append]
    unfold puD pushD2
    rw [if_pos (show 2 * n % 2 = 0 by omega), if_neg (show ¬ (2 * n + 1) % 2 = 0 by omega), show 2 * n / 2 = n by omega, show (2 * n + 1) / 2 = n by omega]
theorem fw_anti {l : SRow} (I : Inc l) {i j : Nat} (h : i ≤ j) : fwl l j ≤ fwl l i := gr_le (fun i hi => far_own I hi) (fun i hi => far_own I hi) (mon_of I).mono _ _ i j h (Nat.le_refl _) (Nat.le_refl _)
theorem fw_step {l : SRow} (I : Inc l) {i : Nat} (h : i < l.length) : fwl l i = fwl l (farE l i + 1) + 1 := by
  have h1 := far_own I h
  have h2 : gr (farE l) l.length (l.length - (farE l i + 1)) (farE l i + 1) = gr (farE l) l.length (l.length - i - 1) (farE l i + 1) := by
    refine Nat.le_antisymm ?_ ?_
    · exact gr_le (fun i hi => far_own I hi) (fun i hi => far_own I hi) (mon_of I).mono _ _ _ _ (Nat.le_refl _) (by omega) (by omega)
    · exact gr_le (fun i hi => far_own I hi) (fun i hi => far_own I hi) (mon_of I).mono _ _ _ _ (Nat.le_refl _) (by omega) (by omega)
  unfold fwl
  rw [h2, show l.length - i = (l.length - i - 1) + 1 by omega]
  conv => lhs; unfold gr
  rw [if_pos h, show l.length - i - 1 + 1 - 1 = l.length - i - 1 by omega, Nat.add_comm]
theorem fw_of {l : SRow} (I : Inc l) : Fw (spG l) (2 * l.length) l.length (farE l) (fwl l) := ⟨fun k hk => sp_bd I (spG_mem (by rw [spN_len]; exact hk)), by unfold fwl; rw [Nat.sub_self]; rfl, fun s hs => fw_step I hs, fun k hk s h1 h2 => far_ge (spG_mem (by rw [spN_len]; exact hk)) h1 h2, fun s hs => ⟨far_own I hs, far_lt I hs⟩, fun i j h _ => fw_anti I h⟩
theorem fw_le {l : SRow} (I : Inc l) (i : Nat) : fwl l i ≤ l.length - i := by
  have key : ∀ m i, l.length - i ≤ m → fwl l i ≤ l.length - i := by
    intro m
    induction m with
    | zero =>
      intro i hi
      unfold fwl
      rw [show l.length - i = 0 by omega]
      exact Nat.le_refl _
    | succ m ih =>
      intro i hi
      rcases Nat.lt_or_ge i l.length with c | c
      · have h1 := far_own I c
        rw [fw_step I c]
        have := ih (farE l i + 1) (by omega)
        omega
      · unfold fwl
        rw [show l.length - i = 0 by omega]
        exact Nat.le_refl _
  exact key _ i (Nat.le_refl _)
noncomputable def wyl (l : SRow) (s : Nat) : Nat := wayK (spG l) (2 * l.length) (fwl l) s
noncomputable def chl (l : SRow) (s : Nat) : List Nat := chK (spG l) (2 * l.length) (fwl l) s
noncomputable def bfl (l : SRow) (m s : Nat) : Nat := bfK (spG l) (2 * l.length) (fwl l) m s
noncomputable def cnl (l : SRow) (k : Nat) : Nat := cntK (spG l) (2 * l.length) (fwl l) k 0
/-- the choices as they are told -/
noncomputable def chD (l : SRow) (k : Nat) : PyData := .tuple [puD k, .int (((spG l k).2 + 1 : Nat) : Int)]
noncomputable def covF (l : SRow) (fs ws : List Nat) : List (Str × PyData) := [("many", .int (l.length : Nat)), ("spans", .list (sidesL l l.length)), ("fewest", .list (fs.map natD)), ("ways", .list (ws.map natD))]
noncomputable def covD (l : SRow) (fs ws : List Nat) : PyData := objD "Covers" (covF l fs ws)
theorem fld_many {l : SRow} {fs ws : List Nat} {R : DV → Prop} : oFld "many" (.d (covD l fs ws)) R = R (.d (.int (l.length : Nat))) := rfl
theorem fld_spans {l : SRow} {fs ws : List Nat} {R : DV → Prop} : oFld "spans" (.d (covD l fs ws)) R = R (.d (.list (sidesL l l.length))) := rfl
theorem fld_fewest {l : SRow} {fs ws : List Nat} {R : DV → Prop} : oFld "fewest" (.d (covD l fs ws)) R = R (.d (.list (fs.map natD))) := rfl
theorem fld_ways {l : SRow} {fs ws : List Nat} {R : DV → Prop} : oFld "ways" (.d (covD l fs ws)) R = R (.d (.list (ws.map natD))) := rfl
/-- the full tables -/
noncomputable def fwT (l : SRow) : List Nat := (List.range (l.length + 1)).map (fwl l)
noncomputable def wyT (l : SRow) : List Nat := (List.range (l.length + 1)).map (wyl l)
theorem fwT_at {l : SRow} {i : Nat} (h : i ≤ l.length) : (fwT l)[i]? = some (fwl l i) := by
  unfold fwT
  rw [List.getElem?_map, List.getElem?_range (by omega)]
  rfl
theorem wyT_at {l : SRow} {i : Nat} (h : i ≤ l.length) : (wyT l)[i]? = some (wyl l i) := by
  unfold wyT
  rw [List.getElem?_map, List.getElem?_range (by omega)]
  rfl
noncomputable def covL (l : SRow) : PyData := covD l (fwT l) (wyT l)
theorem tab_of {n : Nat} {g : Nat → Nat} {xs : List Nat} (hl : xs.length = n + 1) (h : ∀ i, i ≤ n → xs[i]? = some (g i)) : xs = (List.range (n + 1)).map g := by
  refine List.ext_getElem? fun i => ?_
  rcases Nat.lt_or_ge n i with c | c
  · rw [List.getElem?_eq_none (by omega), List.getElem?_eq_none (by simp; omega)]
  · rw [h i c, List.getElem?_map, List.getElem?_range (by omega)]
    rfl
theorem natAt {ks : List Nat} {i k : Nat} (h : ks[i]? = some k) : atI (ks.map natD) ((i : Nat) : Int) = some (.int (k : Nat)) := atI_map (f := natD) i rfl h
theorem rep_nat {k v : Nat} : (List.replicate k [PyData.int (v : Nat)]).flatten = (List.replicate k v).map natD := by
  rw [List.map_replicate]
  induction k with
  | zero => rfl
  | succ k ih => rw [List.replicate_succ, List.flatten_cons, ih, List.replicate_succ]; rfl
theorem cov_mt {l : SRow} {fs ws : List Nat} {m : Str} (h : getF m (kvD (covF l fs ws)) = none) : isMt "Covers" m (.d (covD l fs ws)) := ⟨rfl, h⟩
theorem set_at {xs : List Nat} {i v j : Nat} (h : i < xs.length) : (xs.set i v)[j]? = if j = i then some v else xs[j]? := by
  by_cases e : j = i
  · subst e
    rw [if_pos rfl, List.getElem?_set_self h]
  · rw [if_neg e, List.getElem?_set_ne (fun z => e z.symm)]
/-- a table over the pushes -/
def keyP (k : Nat) : List Key := [.inl ((k / 2 : Nat) : Int), .inr (if k % 2 = 0 then "left" else "right")]
theorem keyP_inj {j k : Nat} (h : keyP j = keyP k) : j = k := by
  unfold keyP at h
  obtain ⟨h1, h2⟩ := List.cons.inj h
  obtain ⟨h2, _⟩ := List.cons.inj h2
  have h1 : ((j / 2 : Nat) : Int) = ((k / 2 : Nat) : Int) := by injection h1
  have h2 := Sum.inr.inj h2
  have n : ("left" : Str) ≠ "right" := by decide +kernel
  have h3 : j % 2 = k % 2 := by
    by_cases c : j % 2 = 0
    · by_cases d : k % 2 = 0
      · omega
      · rw [if_pos c, if_neg d] at h2; exact absurd h2 n
    · by_cases d : k % 2 = 0
      · rw [if_neg c, if_pos d] at h2; exact absurd h2.symm n
      · omega
  omega
def tabP (N : Nat) (g : Nat → Nat) : List (List Key × PyData) := (List.range N).map fun k => (keyP k, .int ((g k : Nat) : Int))
theorem tabP_succ {N : Nat} {g : Nat → Nat} : tabP (N + 1) g = tabP N g ++ [(keyP N, .int ((g N : Nat) : Int))] := by
  unfold tabP
  rw [List.range_succ, List.map_append]
  rfl
theorem tabP_len {N : Nat} {g : Nat → Nat} : (tabP N g).length = N := by unfold tabP; simp
theorem lk_none {N k : Nat} {g : Nat → Nat} (h : N ≤ k) : lkT (tabP N g) (keyP k) = none := by
  have key : ∀ (xs : List Nat), (∀ x ∈ xs, x ≠ k) → lkT (xs.map fun k => (keyP k, PyData.int ((g k : Nat) : Int))) (keyP k) = none := by
    intro xs
    induction xs with
    | nil => exact fun _ => rfl
    | cons x xs ih =>
      intro hx
      rw [List.map_cons, lkT, if_neg fun z => hx x (List.mem_cons_self ..) (keyP_inj z)]
      exact ih fun y hy => hx y (List.mem_cons_of_mem _ hy)
  exact key _ fun x hx => by have := List.mem_range.mp hx; omega
theorem lk_some {N k : Nat} {g : Nat → Nat} (h : k < N) : lkT (tabP N g) (keyP k) = some (.int ((g k : Nat) : Int)) := by
  have key : ∀ (xs : List Nat), k ∈ xs → lkT (xs.map fun k => (keyP k, PyData.int ((g k : Nat) : Int))) (keyP k) = some (.int ((g k : Nat) : Int)) := by
    intro xs
    induction xs with
    | nil => exact fun h => by cases h
    | cons x xs ih =>
      intro hx
      rw [List.map_cons, lkT]
      by_cases e : x = k
      · subst e
        rw [if_pos rfl]
      · rw [if_neg fun z => e (keyP_inj z)]
        rcases List.mem_cons.mp hx with z | z
        · exact absurd z.symm e
        · exact ih z
  exact key _ (List.mem_range.mpr h)
theorem put_new {k : Nat} {g : Nat → Nat} : putT (tabP k g) (keyP k) (.int ((g k : Nat) : Int)) = tabP (k + 1) g := by
  unfold putT
  rw [lk_none (Nat.le_refl _), if_neg (by simp), tabP_succ]
theorem put_old {N k v : Nat} {g : Nat → Nat} (h : k < N) : putT (tabP N g) (keyP k) (.int ((v : Nat) : Int)) = tabP N fun j => if j = k then v else g j := by
  unfold putT
  rw [lk_some h, if_pos (by simp)]
  unfold tabP
  rw [List.map_map]
  refine List.map_congr_left fun j _ => ?_
  simp only [Function.comp]
  by_cases e : j = k
  · subst e
    rw [if_pos rfl, if_pos rfl]
  · rw [if_neg fun z => e (keyP_inj z), if_neg e]
/-- all ascending lists below n -/
def subsN : Nat → List (List Nat)
  | 0 => [[]]
  | n + 1 => subsN n ++ (subsN n).map (· ++ [n])
theorem subs_len : ∀ n, (subsN n).length = 2 ^ n
  | 0 => rfl
  | n + 1 => by rw [subsN, List.length_append, List.length_map, subs_len n, Nat.pow_succ]; omega
theorem subs_mem : ∀ (n : Nat) (c : List Nat), c.Pairwise (· < ·) → (∀ x ∈ c, x < n) → c ∈ subsN n
  | 0, c, _, h => by
    cases c with
    | nil => exact List.mem_singleton_self _
    | cons x c => exact absurd (h x (List.mem_cons_self ..)) (Nat.not_lt_zero _)
  | n + 1, c, hp, h => by
    rw [subsN, List.mem_append]
    rcases List.eq_nil_or_concat c with rfl | ⟨d, y, rfl⟩
    · exact .inl (subs_mem n [] List.Pairwise.nil fun x hx => by cases hx)
    · rw [List.concat_eq_append] at hp h ⊢
      obtain ⟨p1, _, p3⟩ := List.pairwise_append.mp hp
      have hy := h y (List.mem_append_right _ (List.mem_singleton_self _))
      have hd : ∀ x ∈ d, x < y := fun x hx => p3 x hx y (List.mem_singleton_self _)
      by_cases e : y = n
      · subst e
        exact .inr (List.mem_map.mpr ⟨d, subs_mem y d p1 hd, rfl⟩)
      · refine .inl (subs_mem n _ hp fun x hx => ?_)
        rcases List.mem_append.mp hx with hx | hx
        · have := hd x hx; omega
        · rw [List.mem_singleton.mp hx]; omega
theorem Fw.way_bd {sp : Nat → Nat × Nat} {N n : Nat} {f fw : Nat → Nat} (W : Fw sp N n f fw) : wayK sp N fw 0 ≤ 2 ^ N := by
  have key : ∀ q ∈ pth sp N fw (fw 0) 0, q.length = fw 0 ∧ (∀ k ∈ q, k < N ∧ 0 ≤ (sp k).2) ∧ q.Pairwise (fun a b => (sp a).2 < (sp b).2) ∧ ∀ x, 0 ≤ x → x < n → ∃ k ∈ q, (sp k).1 ≤ x ∧ x ≤ (sp k).2 := fun q hq => W.way q 0 (Nat.zero_le _) ((W.mem q 0 (Nat.zero_le _)).mp hq)
  have nd : ((pth sp N fw (fw 0) 0).map srtN).Nodup := pwNm (pth_nd _ _) fun q hq r hr e => List.Perm.eq_of_pairwise (fun a b _ _ h1 h2 => by omega) (key q hq).2.2.1 (key r hr).2.2.1 (srt_perm.symm.trans (e ▸ srt_perm))
  have h := nodup_sub nd (L := subsN N) fun c hc => by
    obtain ⟨q, hq, rfl⟩ := List.mem_map.mp hc
    obtain ⟨_, h2, h3, _⟩ := key q hq
    have hnd : q.Nodup := h3.imp fun hab e => by subst e; omega
    refine subs_mem N _ ((List.pairwise_and_iff.mpr ⟨srt_asc, (srt_perm.nodup_iff).mpr hnd⟩).imp fun h => Nat.lt_of_le_of_ne h.1 h.2) fun x hx => (h2 x (srt_mem.mp hx)).1
  rw [List.length_map, subs_len] at h
  exact h
theorem mem_sum {α : Type} {g : α → Nat} : ∀ {xs : List α} {x : α}, x ∈ xs → g x ≤ (xs.map g).sum
  | [], _, h => by cases h
  | y :: xs, x, h => by
    rw [List.map_cons, List.sum_cons]
    rcases List.mem_cons.mp h with rfl | h
    · omega
    · have := mem_sum (g := g) h
      omega
/-- one of two factors is small -/
theorem bw_bd {l : SRow} (I : Inc l) (hn : l.length ≤ 40) {s k : Nat} (hs : s < l.length) (hk : k ∈ chl l s) : CMul ((bfl l l.length s : Nat) : Int) ((wyl l ((spG l k).2 + 1) : Nat) : Int) := by
  have W := fw_of I
  have h1 := W.through k
  have h2 := mem_sum (g := fun s => if k ∈ chl l s then bfl l l.length s * wyl l ((spG l k).2 + 1) else 0) (List.mem_range.mpr hs)
  have h1 : ((List.range l.length).map fun s => if k ∈ chl l s then bfl l l.length s * wyl l ((spG l k).2 + 1) else 0).sum = cnl l k := h1
  rw [h1] at h2
  simp only [if_pos hk] at h2
  have h3 : cnl l k ≤ wyl l 0 := List.countP_le_length
  have h4 : wyl l 0 ≤ 2 ^ (2 * l.length) := W.way_bd
  have h5 : 2 ^ (2 * l.length) ≤ 2 ^ 80 := Nat.pow_le_pow_right (by decide) (by omega)
  unfold CMul
  rcases Nat.lt_or_ge (bfl l l.length s) (2 ^ 64) with c | c
  · left; omega
  · right
    rcases Nat.lt_or_ge (wyl l ((spG l k).2 + 1)) (2 ^ 64) with d | d
    · omega
    · exfalso
      have := Nat.mul_le_mul c d
      rw [← Nat.pow_add] at this
      have h6 : (2 : Nat) ^ 80 < 2 ^ (64 + 64) := Nat.pow_lt_pow_right (by decide) (by decide)
      omega
theorem pu_alike (j k : Nat) : PySem.W.alike (puD j) (puD k) = true := by simp [puD, PySem.W.alike, PySem.W.alikeAll]
theorem pu_eqv {j k : Nat} : PyData.eqv (puD j) (puD k) = decide (j = k) := by
  rw [Bool.eq_iff_iff, decide_eq_true_eq]
  unfold puD
  have n1 : ("left" : Str) ≠ "right" := by decide +kernel
  have n2 : ("right" : Str) ≠ "left" := by decide +kernel
  simp only [PyData.eqv, PyData.eqvAll, Bool.and_true, Bool.and_eq_true, beq_iff_eq]
  constructor
  · rintro ⟨h1, h2⟩
    by_cases c : j % 2 = 0 <;> by_cases d : k % 2 = 0
    · omega
    · rw [if_pos c, if_neg d] at h2; exact absurd h2 n1
    · rw [if_neg c, if_pos d] at h2; exact absurd h2 n2
    · omega
  · rintro rfl; exact ⟨rfl, rfl⟩
theorem pu_lt {j k : Nat} (h : j ≤ k) : PySem.W.dataLt (puD k) (puD j) = false := by
  unfold puD
  rw [PySem.W.dataLt_pair (by simp [PySem.W.alike]) (by simp [PySem.W.alike])]
  by_cases e : k / 2 = j / 2
  · rw [e, if_pos (by simp [PyData.eqv])]
    by_cases c : j % 2 = 0 <;> by_cases d : k % 2 = 0
    · rw [if_pos c, if_pos d]; decide +kernel
    · rw [if_pos c, if_neg d]; decide +kernel
    · exfalso; omega
    · rw [if_neg c, if_neg d]; decide +kernel
  · rw [if_neg (by simp only [PyData.eqv, beq_iff_eq]; omega), PySem.W.dataLt_int, decide_eq_false_iff_not]
    omega
theorem pairs_sorted {N : Nat} {g : Nat → Nat} : sortX ((List.range N).map fun k => .tuple [puD k, .int ((g k : Nat) : Int)]) = (List.range N).map fun k => .tuple [puD k, .int ((g k : Nat) : Int)] := by
  unfold sortX
  refine List.mergeSort_of_pairwise (List.pairwise_map.mpr (List.pairwise_lt_range.imp fun {j k} h => ?_))
  show (!PySem.W.dataLt (encX _) (encX _)) = true
  unfold encX
  rw [PySem.W.dataLt_pair (pu_alike _ _) (by simp [PySem.W.alike]), pu_eqv, if_neg (by rw [decide_eq_true_eq]; omega), pu_lt (Nat.le_of_lt h)]
  rfl
theorem pairs_ok {N : Nat} {g : Nat → Nat} : SrtOk ((List.range N).map fun k => .tuple [puD k, .int ((g k : Nat) : Int)]) := by
  refine ⟨fun d hd => ?_, fun d hd e he => ?_, fun d hd => ?_, fun d hd => ?_⟩
  · obtain ⟨k, _, rfl⟩ := List.mem_map.mp hd
    exact ⟨_, _, rfl⟩
  · obtain ⟨k, _, rfl⟩ := List.mem_map.mp hd
    obtain ⟨j, _, rfl⟩ := List.mem_map.mp he
    simp [puD, PySem.W.alike, PySem.W.alikeAll]
  · obtain ⟨k, _, rfl⟩ := List.mem_map.mp hd
    simp [puD, PyData.hasDict, PyData.hasDictAll]
  · obtain ⟨k, _, rfl⟩ := List.mem_map.mp hd
    simp [puD, PyData.depth, PyData.depthAll]
theorem items_tab {N : Nat} {g : Nat → Nat} : itemsT (tabP N g) = (List.range N).map fun k => .tuple [puD k, .int ((g k : Nat) : Int)] := by
  unfold itemsT tabP
  rw [List.map_map]
  rfl
theorem shaped_pu {k : Nat} : SeqAt.shaped (puD k) = true := by
  unfold puD
  by_cases c : k % 2 = 0
  · rw [if_pos c]; simp [SeqAt.shaped, PyData.canLay0, PyData.canLayAll0, PyData.depth, PyData.depthAll]; decide +kernel
  · rw [if_neg c]; simp [SeqAt.shaped, PyData.canLay0, PyData.canLayAll0, PyData.depth, PyData.depthAll]; decide +kernel
theorem shaped_pus (q : List Nat) : SeqAt.shaped (.list (q.map puD)) = true := by
  have h1 : ∀ q : List Nat, PyData.canLayAll0 (q.map puD) = true ∧ PyData.depthAll (q.map puD) ≤ 2 := fun q => by
    induction q with
    | nil => simp [PyData.canLayAll0, PyData.depthAll]
    | cons k q ih =>
      have hk := SeqAt.canLay_of_shaped (shaped_pu (k := k))
      rw [List.map_cons, PyData.canLayAll0, PyData.depthAll, hk, ih.1]
      refine ⟨rfl, ?_⟩
      have : (puD k).depth ≤ 1 := by simp [puD, PyData.depth, PyData.depthAll]
      omega
  obtain ⟨a, b⟩ := h1 q
  unfold SeqAt.shaped
  rw [Bool.and_eq_true, decide_eq_true_eq]
  refine ⟨?_, ?_⟩
  · rw [PyData.canLay0]; exact a
  · rw [PyData.depth]; omega
theorem any_pu {q : List Nat} {i : Nat} : ((q.map puD).any fun z => z.eqv (puD i)) = decide (i ∈ q) := by
  rw [List.any_map, Bool.eq_iff_iff, List.any_eq_true, decide_eq_true_eq]
  constructor
  · rintro ⟨k, hk, e⟩
    rw [Function.comp, pu_eqv, decide_eq_true_eq] at e
    exact e ▸ hk
  · intro h
    exact ⟨i, h, by rw [Function.comp, pu_eqv, decide_eq_true rfl]⟩
def mf_Covers_count : MF := fun as R _ => ∃ l : SRow, as = [.d (covL l)] ∧ Inc l ∧ l.length ≤ 1000 ∧ R (.d (.int (wyl l 0 : Nat)))
theorem d_Covers_count {C f : Addr} {fd : FuncData} (T : Txt K mg) (hO : ObjC K "Covers" C) (hM : Meth K C "count" f) (F0 : L2.Fun K "count" "Covers.count" s_Covers_count f fd) (hb : Binds K fd ["self"] []) : DMt P w K mg base CK "Covers" "count" 1 0 1 mf_Covers_count :=
  dmt_of hO hM F0 hb sc_Covers_count (fun cdv A outer s H E cx =>
 (dss_one (ds_ret (de_ix (de_fld (de_pv 0)) de_int))))
  (by
    rintro as R ex hl ⟨l, rfl, I, hn, h⟩
    have hat : atI ((wyT l).map natD) 0 = some (.int (wyl l 0 : Nat)) := natAt (i := 0) (wyT_at (Nat.zero_le _))
    walk_at "dx"
    unfold covL
    rw [fld_ways]
    walk_at "dx"
    rw [hat]
    exact h)
noncomputable def chU (l : SRow) (s k : Nat) : List Nat := (List.range k).filter (goK (spG l) (fwl l) s)
theorem chU_succ {l : SRow} {s k : Nat} : chU l s (k + 1) = chU l s k ++ if goK (spG l) (fwl l) s k then [k] else [] := by
  unfold chU
  rw [List.range_succ, List.filter_append]
  congr 1
  rw [List.filter_cons]
  split <;> rfl
def mf_Covers_choices : MF := fun as R _ => ∃ (l : SRow) (s : Nat) (fs ws : List Nat), as = [.d (covD l fs ws), .d (.int (s : Nat))] ∧ Inc l ∧ l.length ≤ 1000 ∧ s < l.length ∧ (∀ j, s ≤ j → j ≤ l.length → fs[j]? = some (fwl l j)) ∧ R (.d (.list ((chl l s).map (chD l))))
theorem d_Covers_choices {C f : Addr} {fd : FuncData} (T : Txt K mg) (hO : ObjC K "Covers" C) (hM : Meth K C "choices" f) (F0 : L2.Fun K "choices" "Covers.choices" s_Covers_choices f fd) (hb : Binds K fd ["self", "stone"] []) : DMt P w K mg base CK "Covers" "choices" 1 0 2 mf_Covers_choices :=
  dmt_of hO hM F0 hb sc_Covers_choices (fun cdv A outer s H E cx =>
 (dss_cons (ds_set (i := 2) sc_Covers_choices.nd rfl (by first | exact Or.inl rfl | exact Or.inr rfl) (de_lst da_nil))
 (dss_cons (ds_for (Ctx.passes rfl) (by rfl) (di_list (de_fld (de_pv 0))) (dg_tup (by rfl) (dgs_cons (dg_name (i := 3) sc_Covers_choices.nd rfl (by first | exact Or.inl rfl | exact Or.inr rfl)) (dgs_cons (dg_tup (by rfl) (dgs_cons (dg_name (i := 4) sc_Covers_choices.nd rfl (by first | exact Or.inl rfl | exact Or.inr rfl)) (dgs_cons (dg_name (i := 5) sc_Covers_choices.nd rfl (by first | exact Or.inl rfl | exact Or.inr rfl)) dgs_nil))) dgs_nil))) (dss_one (ds_if (DW.dt (dw_and (dt_ch op_le op_le (de_pv 4) (de_pv 1) (de_pv 5)) (dw_and1 (dt_eq cx.u (de_ix (de_fld (de_pv 0)) (de_add (de_pv 5) de_int)) (de_sub (de_ix (de_fld (de_pv 0)) (de_pv 1)) de_int))))) (dss_one (ds_mut PySem.F.slot_list_append PySem.F.type_list_append mt_append mut_app (pv 2) (da_cons (de_tup (da_cons (de_pv 3) (da_cons (de_add (de_pv 5) de_int) da_nil))) da_nil))) dss_nil)))
 (dss_one (ds_ret (de_pv 2))))))
  (by
    rintro as R ex hl ⟨l, s, fs, ws, rfl, I, hn, hs, hf, h⟩
    walk_at "dx"
    rw [fld_spans, sides_at]
    walk_at "dx"
    refine ⟨by walk_at "lim", fun x hx => by cases List.mem_singleton.mp hx; rfl, ?_⟩
    refine for_at (fun k δ => ∃ (a b c : Option DV), k ≤ 2 * l.length ∧ δ = [some (.d (covD l fs ws)), some (.d (.int (s : Nat))), some (.own ((chU l s k).map (chD l))), a, b, c]) ⟨none, none, none, Nat.zero_le _, rfl⟩ ?_ ?_
    · rintro δ ⟨a, b, c, hk, rfl⟩
      rw [List.length_map, List.length_range]
      walk_at "dx"
      exact h
    · rintro k d δ K hd ⟨a, b, c, hk, rfl⟩ hK
      rw [List.getElem?_map] at hd
      have hkl : k < 2 * l.length := by
        rcases Nat.lt_or_ge k (2 * l.length) with q | q
        · exact q
        · rw [List.getElem?_eq_none (by simpa using q)] at hd; cases hd
      rw [List.getElem?_range hkl] at hd
      cases hd
      have hb := (fw_of I).lt k hkl
      have fs0 := natAt (hf s (Nat.le_refl _) (by omega))
      have hlen : (chU l s k).length ≤ k := by
        unfold chU
        exact Nat.le_trans (List.length_filter_le _ _) (by rw [List.length_range]; exact Nat.le_refl _)
      have no : goK (spG l) (fwl l) s k = false → K [some (.d (covD l fs ws)), some (.d (.int (s : Nat))), some (.own ((chU l s k).map (chD l))), some (.d (puD k)), some (.d (.int ((spG l k).1 : Nat))), some (.d (.int ((spG l k).2 : Nat)))] := fun e =>
        hK _ ⟨_, _, _, hkl, by rw [chU_succ, e, if_neg Bool.false_ne_true, List.append_nil]⟩
      unfold sideK
      walk_at "dx"
      refine ⟨fun c1 => ⟨fun c2 => ?_, fun c2 => ?_⟩, fun c1 => ?_⟩
      · simp only [fld_fewest]
        walk_at "dx"
        have fs1 := natAt (hf ((spG l k).2 + 1) (by omega) (by omega))
        rw [show (((spG l k).2 : Nat) : Int) + 1 = (((spG l k).2 + 1 : Nat) : Int) by push_cast; rfl, fs1, fs0]
        walk_at "dx"
        refine ⟨fun c3 => ?_, fun c3 => ?_⟩
        · rw [if_pos (show ((chU l s k).map (chD l)).length < sizeLine from by rw [List.length_map]; walk_at "lim")]
          have e : goK (spG l) (fwl l) s k = true := go_iff.mpr ⟨by omega, by omega, by omega⟩
          exact ⟨by walk_at "lim", hK _ ⟨_, _, _, hkl, by rw [chU_succ, e, if_pos rfl, List.map_append]; rfl⟩⟩
        · refine no ?_
          cases e : goK (spG l) (fwl l) s k with
          | false => rfl
          | true =>
            have := go_iff.mp e
            omega
      · refine no ?_
        cases e : goK (spG l) (fwl l) s k with
        | false => rfl
        | true =>
          have := go_iff.mp e
          omega
      · refine no ?_
        cases e : goK (spG l) (fwl l) s k with
        | false => rfl
        | true =>
          have := go_iff.mp e
          omega)
def mk_Covers : MK := fun as R _ => ∃ l : SRow, as = [.d (rowD l)] ∧ Inc l ∧ l.length ≤ 1000 ∧ R (covF l (fwT l) (wyT l))
noncomputable def onWy (l : SRow) : PyData → Option PyData
  | .tuple [_, .int i] => some (.int (wyl l i.toNat : Nat))
  | _ => none
theorem wy_lc {l : SRow} : ∀ ks : List Nat, (ks.map (chD l)).filterMap (onWy l) = ((ks.map fun k => wyl l ((spG l k).2 + 1)).map fun k : Nat => (k : Int)).map PyData.int
  | [] => rfl
  | k :: ks => by
    rw [List.map_cons, List.filterMap_cons, List.map_cons, List.map_cons, List.map_cons, wy_lc ks]
    rfl
theorem sumNI : ∀ {ks : List Nat}, (ks.map fun k : Nat => (k : Int)).sum = ((ks.sum : Nat) : Int)
  | [] => rfl
  | k :: ks => by rw [List.map_cons, List.sum_cons, List.sum_cons, sumNI (ks := ks)]; push_cast; rfl
theorem in_Covers {C f : Addr} {fd : FuncData} (T : Txt K mg) (F0 : L2.Fun K "__init__" "Covers.__init__" i_Covers f fd) (hO : ObjC K "Covers" C) (n1 : NoAttr K C "many") (n2 : NoAttr K C "spans") (n3 : NoAttr K C "fewest") (n4 : NoAttr K C "ways") (F_spans_of : DFn P w K mg base CK "spans_of" 3 0 1 mf_spans_of) (F_far_ends : DFn P w K mg base CK "far_ends" 4 0 1 mf_far_ends) (F_Covers_choices : DMt P w K mg base CK "Covers" "choices" 1 0 2 mf_Covers_choices) : FnG P w K mg base 9 f fd ["self", "row"] (spMkG K mg CK C 0 1 mk_Covers) := by
  refine fnG_of F0 si_Covers (fun vs H Q E q => q.1) fun cdv A outer s H vs Q E hg hr q => ?_
  obtain ⟨hn, G, F, x, dx, us, as, R, ex, rfl, hK, hck, hla, harg, g, hFx, hBx, hHx, ⟨l, rfl, I, hl, hR⟩, hQ, hE⟩ := q
  have W := fw_of I
  have cx : DL.Ctx (cxOf (L2.CX P w) P w K mg base ["self", "row", "ends", "stone", "push", "following"] "Covers.__init__" (defScope i_Covers) f cdv A outer s H E) ⟨fun cls d _ H => E cls d H, CK⟩ 8 := ⟨hg, hr, takes_of rfl rfl rfl rfl⟩
  refine ⟨_, pss_cons (ps_fld (pv 0) (DE.pe (W := ⟨fun cls d _ H => E cls d H, CK⟩) (de_len (by rfl) T.n_len (da_cons (de_pv 1) da_nil))) (by rfl))
    (pss_cons (ps_fld (pv 0) (DE.pe (W := ⟨fun cls d _ H => E cls d H, CK⟩) (de_call cx F_spans_of (by decide) (by rfl) (da_cons (de_pv 1) da_nil))) (by rfl))
    (pss_cons (ps_set (i := 2) si_Covers.nd rfl (by first | exact Or.inl rfl | exact Or.inr rfl) (DE.pe (W := ⟨fun cls d _ H => E cls d H, CK⟩) (de_call cx F_far_ends (by decide) (by rfl) (da_cons (de_pv 1) da_nil))))
    (pss_cons (ps_fld (pv 0) (DE.pe (W := ⟨fun cls d _ H => E cls d H, CK⟩) (de_mul (de_lst (da_cons de_int da_nil)) (de_add (de_fld (de_pv 0)) de_int))) (by rfl))
    (pss_cons (ps_fld (pv 0) (DE.pe (W := ⟨fun cls d _ H => E cls d H, CK⟩) (de_mul (de_lst (da_cons de_int da_nil)) (de_add (de_fld (de_pv 0)) de_int))) (by rfl))
    (pss_one (ps_for (Ctx.passes rfl) (by rfl) (pi_range3 (by rfl) T.n_range (DA.pa (W := ⟨fun cls d _ H => E cls d H, CK⟩) (da_cons (de_sub (de_fld (de_pv 0)) de_int) (da_cons (de_neg de_int) (da_cons (de_neg de_int) da_nil))))) (pg_name (i := 3) si_Covers.nd rfl (by first | exact Or.inl rfl | exact Or.inr rfl))
      (pss_cons (ps_asg (DE.pe (W := ⟨fun cls d _ H => E cls d H, CK⟩) (de_add de_int (de_ix (de_fld (de_pv 0)) (de_add (de_ix (de_ix (de_pv 2) (de_pv 3)) de_int) de_int)))) (pg_sub (pe_fld (pv 0) (by rfl)) (pv 3) set_list (by intro _; rfl)) (by rfl) (by rfl) (by rfl))
      (pss_one (ps_asg (DE.pe (W := ⟨fun cls d _ H => E cls d H, CK⟩) (de_sum (by rfl) (by rfl) T.n_sum (da_cons (de_lc (own := [("push", 4), ("following", 5)]) (dom := [4, 5]) (by rfl) si_Covers.nd (di_list (de_mtA cx F_Covers_choices (by decide) (de_pv 0) (da_cons (de_pv 3) da_nil))) (blkOk_by (by kernel_rfl)) (by decide) (fun _ _ _ _ _ => (dg_tup (by rfl) (dgs_cons (dg_name (i := 4) si_Covers.nd rfl (by first | exact Or.inl rfl | exact Or.inr rfl)) (dgs_cons (dg_name (i := 5) si_Covers.nd rfl (by first | exact Or.inl rfl | exact Or.inr rfl)) dgs_nil)))) (fun _ _ _ _ _ => dts_nil) (fun _ _ _ _ _ => (de_ix (de_fld (de_pv 0)) (de_pv 5)))) da_nil))) (pg_sub (pe_fld (pv 0) (by rfl)) (pv 3) set_list (by intro _; rfl)) (by rfl) (by rfl) (by rfl)))))))))), ?_⟩
  obtain ⟨vr, rfl⟩ : ∃ v, us = [v] := match us, hla with | [v], _ => ⟨v, rfl⟩
  have hrow : At G.K F vr (rowD l) := by
    obtain ⟨v, e1, e2⟩ := g.sl 0 (.d (rowD l)) rfl
    cases e1
    exact e2
  have g0 : Good G F [] [] H := Good.cut (A := []) (A' := []) (B := List.map some [DV.d (rowD l)]) (B' := List.map some [vr]) rfl g
  have cN : ¬ G.C x := fun c => g.g.cb x c hBx
  have hlen : oLen (.d (rowD l)) = fun R => R (.d (.int l.length)) := by
    unfold rowD
    funext R
    walk_at "dx"
    rw [List.length_map]
  have raw : ∀ {F H : Hp}, Good G F [] [] H → Good G F [some (.raw (.ref x))] [some (.ref x)] H := fun g => g.push (δ := []) (σ := []) (v := .ref x) (dv := .raw (.ref x)) rfl fun z => by cases z
  have nx : ∀ {F F' H H' : Hp} {δ : DL.Env} {σ : L2.St} {fs : List (Str × V)}, Good ((G.into F H).up 0) F' δ σ H' → F x = none → H x = some (.ins C dx fs) → H' x = some (.ins C dx fs) ∧ F' x = none := fun {F F' H H' δ σ fs} g' h1 h2 => by
    have hx : H' x = some (.ins C dx fs) := g'.bh x _ cN h2
    refine ⟨hx, ?_⟩
    cases e : F' x with
    | none => rfl
    | some o =>
      rcases g'.fr x (by rw [e]; exact fun z => by cases z) h1 with z | ⟨vs, z⟩
      · have z : H x = none := z
        rw [h2] at z; cases z
      · have := g'.fh _ _ z
        rw [hx] at this; cases this
  -- self.many = len(row)
  refine ev_d (as := [.raw (.ref x), .d (rowD l)]) (vs := [.ref x, vr]) (k := 4) (fun r => r = .d (.int (l.length : Nat))) hK hck ((raw g0).pushD hrow) (by simp [DV.arg]) rfl ?_ ?_
  · walk_at "dx"
    rw [hlen]
  rintro r rfl v F1 H1 gg
  cases int_of gg.top
  obtain ⟨x1, _⟩ := nx gg hFx hHx
  refine ⟨.ref x, rfl, x, C, dx, [], rfl, x1, hO.cls, n1, by decide, ?_⟩
  have g1 := (g0.reset gg).wr (o' := .ins C dx [("many", .int (l.length : Nat))]) x1 (fun φ z => by cases z) hFx hBx cN
  obtain ⟨H1', hH1'⟩ : ∃ H1', H1' = upd H1 x (.ins C dx [("many", .int (l.length : Nat))]) := ⟨_, rfl⟩
  change tSeq _ _ _ _ (upd H1 x (.ins C dx [("many", .int (l.length : Nat))]))
  rw [← hH1'] at g1 ⊢
  have x1' : H1' x = some (.ins C dx [("many", .int (l.length : Nat))]) := by rw [hH1', upd_same]
  clear gg x1 hH1'
  -- self.spans = spans_of(row)
  refine ev_d (as := [.raw (.ref x), .d (rowD l)]) (vs := [.ref x, vr]) (k := 4) (fun r => r = .d (.list (sidesL l l.length))) hK hck ((raw g1).pushD hrow) (by simp [DV.arg]) rfl ?_ ?_
  · walk_at "dx"
    exact ⟨l, rfl, I, rfl⟩
  rintro r rfl vs F2 H2 gg
  have hsp : At G.K F2 vs (.list (sidesL l l.length)) := gg.top
  obtain ⟨x2, fx2⟩ := nx gg hFx x1'
  have s2 : Same F F2 := gg.f0
  refine ⟨.ref x, rfl, x, C, dx, _, rfl, x2, hO.cls, n2, (show (1 : Nat) < 1000 by decide), ?_⟩
  have g2 := Good.wr (o' := .ins C dx [("many", .int (l.length : Nat)), ("spans", vs)]) (show Good G F2 [] [] H2 from g1.back gg) x2 (fun φ z => by cases z) fx2 hBx cN
  obtain ⟨H2', hH2'⟩ : ∃ H2', H2' = upd H2 x (.ins C dx [("many", .int (l.length : Nat)), ("spans", vs)]) := ⟨_, rfl⟩
  change tSeq _ _ _ _ (upd H2 x (.ins C dx [("many", .int (l.length : Nat)), ("spans", vs)]))
  rw [← hH2'] at g2 ⊢
  have x2' : H2' x = some (.ins C dx [("many", .int (l.length : Nat)), ("spans", vs)]) := by rw [hH2', upd_same]
  clear gg x2 hH2'
  -- ends = far_ends(row)
  refine ev_d (as := [.raw (.ref x), .d (rowD l)]) (vs := [.ref x, vr]) (k := 4) (fun r => ∃ es : List HP, Ends l l.length es ∧ r = .d (.list (es.map hpD))) hK hck ((raw g2).pushD (At.mono s2 _ _ hrow)) (by simp [DV.arg]) rfl ?_ ?_
  · walk_at "dx"
    exact ⟨l, rfl, I, fun es hE => ⟨es, hE, rfl⟩⟩
  rintro r ⟨es, hE, rfl⟩ ve F3 H3 gg
  have hen : At G.K F3 ve (.list (es.map hpD)) := gg.top
  obtain ⟨x3, fx3⟩ := nx gg fx2 x2'
  have s3 : Same F2 F3 := gg.f0
  have g3 : Good G F3 [] [] H3 := g2.back gg
  have hsp3 := At.mono s3 _ _ hsp
  have hrow3 := At.mono s3 _ _ (At.mono s2 _ _ hrow)
  change tSeq _ _ _ [some (.ref x), some vr, some ve, none, none, none] H3
  clear gg
  -- what is new is nobody's
  have new : ∀ {H : Hp} {p : Addr}, Good G F3 [] [] H → H p = none → F3 p = none ∧ G.B p = none ∧ ¬ G.C p := fun {H p} g hp => by
    have c : ¬ G.C p := fun c => g.g.jn _ _ g.jh p c hp
    refine ⟨?_, ?_, c⟩
    · cases e : F3 p with
      | none => rfl
      | some o => rw [g.fh _ _ e] at hp; cases hp
    · cases e : G.B p with
      | none => rfl
      | some o => rw [g.bh _ _ c e] at hp; cases hp
  have three : ∀ {F H : Hp} {d : PyData}, Good G F [] [] H → At G.K F (.ref x) d → At G.K F vr (rowD l) → At G.K F ve (.list (es.map hpD)) → Good G F ([DV.d d, .d (rowD l), .d (.list (es.map hpD))].map some) ([V.ref x, vr, ve].map some) H := fun g h1 h2 h3 => (((g.pushD (δ := []) (σ := []) h1).pushD h2).pushD h3)
  have hO' : ObjC G.K "Covers" C := by rw [hK]; exact hO
  have m1 : NoAttr G.K C "many" := by rw [hK]; exact n1
  have m2 : NoAttr G.K C "spans" := by rw [hK]; exact n2
  have m3 : NoAttr G.K C "fewest" := by rw [hK]; exact n3
  have m4 : NoAttr G.K C "ways" := by rw [hK]; exact n4
  have mI : ∀ ks : List Nat, ks.map natD = (ks.map fun k : Nat => (k : Int)).map PyData.int := fun ks => by rw [List.map_map]; rfl
  -- self.fewest = [0] * ..
  obtain ⟨z0, hz0⟩ : ∃ z, z = List.replicate (l.length + 1) 0 := ⟨_, rfl⟩
  obtain ⟨z1, hz1⟩ : ∃ z, z = List.replicate (l.length + 1) 1 := ⟨_, rfl⟩
  obtain ⟨sv, gv⟩ := g3.view x3 fx3 hBx cN
  refine ev_d (as := [.d (objD "Covers" [("many", .int (l.length : Nat)), ("spans", .list (sidesL l l.length))]), .d (rowD l), .d (.list (es.map hpD))]) (vs := [.ref x, vr, ve]) (k := 3) (fun r => r = .own (z0.map natD)) hK hck
    (three gv (.obj upd_same hO' (fun p hp => by
      simp only [List.mem_cons, List.not_mem_nil, or_false] at hp
      rcases hp with rfl | rfl
      · exact m1
      · exact m2) (.cons (.int _) (.cons (At.mono sv _ _ hsp3) .nil))) (At.mono sv _ _ hrow3) (At.mono sv _ _ hen)) (by simp [DV.arg]) rfl ?_ ?_
  · have fm : ∀ R : DV → Prop, oFld "many" (.d (objD "Covers" [("many", .int (l.length : Nat)), ("spans", .list (sidesL l l.length))])) R = R (.d (.int (l.length : Nat))) := fun R => rfl
    walk_at "dx"
    rw [fm]
    walk_at "dx"
    rw [show [PyData.int 0] = [PyData.int ((0 : Nat) : Int)] from rfl, show ((l.length : Nat) : Int) + 1 = ((l.length + 1 : Nat) : Int) by push_cast; rfl, Int.toNat_natCast, rep_nat, ← hz0]
    exact ⟨by walk_at "lim", by omega, by omega, by walk_at "lim", rfl⟩
  rintro r rfl v4 F4 H4 gg
  obtain ⟨l1, w1, rfl, hl1, ha1, _, hb1⟩ := gg.top
  have hb1 : H3 l1 = none := hb1
  rw [mI] at ha1
  have := AtL.ints ha1
  subst this
  obtain ⟨f1, b1, c1⟩ := new g3 hb1
  have g4 : Good G F3 [] [] H4 := g3.reset gg
  have x4 : H4 x = some (.ins C dx [("many", .int (l.length : Nat)), ("spans", vs)]) := gg.bh x _ cN x3
  have ne1 : l1 ≠ x := fun z => by rw [z, x3] at hb1; cases hb1
  refine ⟨.ref x, rfl, x, C, dx, _, rfl, x4, hO.cls, n3, (show (2 : Nat) < 1000 by decide), ?_⟩
  clear ha1 gg gv sv
  have g4 := Good.wr (o' := .ins C dx [("many", .int (l.length : Nat)), ("spans", vs), ("fewest", .ref l1)]) g4 x4 (fun φ z => by cases z) fx3 hBx cN
  obtain ⟨H4', hH4'⟩ : ∃ H4', H4' = upd H4 x (.ins C dx [("many", .int (l.length : Nat)), ("spans", vs), ("fewest", .ref l1)]) := ⟨_, rfl⟩
  change tSeq _ _ _ _ (upd H4 x (.ins C dx [("many", .int (l.length : Nat)), ("spans", vs), ("fewest", .ref l1)]))
  rw [← hH4'] at g4 ⊢
  have x4' : H4' x = some (.ins C dx [("many", .int (l.length : Nat)), ("spans", vs), ("fewest", .ref l1)]) := by rw [hH4', upd_same]
  have hl1 : H4' l1 = some (.lst ((z0.map fun k : Nat => (k : Int)).map V.int)) := by rw [hH4', upd_ne ne1]; exact hl1
  clear hH4' x4
  -- self.ways = [1] * ..
  obtain ⟨sv1, gv1⟩ := g4.view hl1 f1 b1 c1
  obtain ⟨sv2, gv2⟩ := gv1.view x4' (by rw [upd_ne (Ne.symm ne1)]; exact fx3) hBx cN
  have sv : Same F3 _ := sv1.trans sv2
  refine ev_d (as := [.d (objD "Covers" [("many", .int (l.length : Nat)), ("spans", .list (sidesL l l.length)), ("fewest", .list (z0.map natD))]), .d (rowD l), .d (.list (es.map hpD))]) (vs := [.ref x, vr, ve]) (k := 3) (fun r => r = .own (z1.map natD)) hK hck
    (three gv2 (.obj upd_same hO' (fun p hp => by
      simp only [List.mem_cons, List.not_mem_nil, or_false] at hp
      rcases hp with rfl | rfl | rfl
      · exact m1
      · exact m2
      · exact m3) (.cons (.int _) (.cons (At.mono sv _ _ hsp3) (.cons (.lst (by rw [upd_ne ne1, upd_same]) (by rw [mI]; exact atL_ints _)) .nil)))) (At.mono sv _ _ hrow3) (At.mono sv _ _ hen)) (by simp [DV.arg]) rfl ?_ ?_
  · have fm : ∀ R : DV → Prop, oFld "many" (.d (objD "Covers" [("many", .int (l.length : Nat)), ("spans", .list (sidesL l l.length)), ("fewest", .list (z0.map natD))])) R = R (.d (.int (l.length : Nat))) := fun R => rfl
    walk_at "dx"
    rw [fm]
    walk_at "dx"
    rw [show [PyData.int 1] = [PyData.int ((1 : Nat) : Int)] from rfl, show ((l.length : Nat) : Int) + 1 = ((l.length + 1 : Nat) : Int) by push_cast; rfl, Int.toNat_natCast, rep_nat, ← hz1]
    exact ⟨by walk_at "lim", by omega, by omega, by walk_at "lim", rfl⟩
  rintro r rfl v5 F5 H5 gg
  obtain ⟨l2, w2, rfl, hl2, ha2, _, hb2⟩ := gg.top
  have hb2 : H4' l2 = none := hb2
  rw [mI] at ha2
  have := AtL.ints ha2
  subst this
  obtain ⟨f2, b2, c2⟩ := new g4 hb2
  have g5 : Good G F3 [] [] H5 := g4.reset gg
  have x5 : H5 x = some (.ins C dx [("many", .int (l.length : Nat)), ("spans", vs), ("fewest", .ref l1)]) := gg.bh x _ cN x4'
  have y5 := gg.bh l1 _ c1 hl1
  have ne2 : l2 ≠ x := fun z => by rw [z, x4'] at hb2; cases hb2
  have ne3 : l2 ≠ l1 := fun z => by rw [z, hl1] at hb2; cases hb2
  refine ⟨.ref x, rfl, x, C, dx, _, rfl, x5, hO.cls, n4, (show (3 : Nat) < 1000 by decide), ?_⟩
  clear ha2 gg gv1 gv2 sv sv1 sv2
  obtain ⟨fin, hfin⟩ : ∃ fin : List (Str × V), fin = [(("many" : Str), V.int (l.length : Nat)), ("spans", vs), ("fewest", .ref l1), ("ways", .ref l2)] := ⟨_, rfl⟩
  have g5 := Good.wr (o' := .ins C dx fin) g5 x5 (fun φ z => by cases z) fx3 hBx cN
  obtain ⟨H5', hH5'⟩ : ∃ H5', H5' = upd H5 x (.ins C dx fin) := ⟨_, rfl⟩
  have pf : putF "ways" (.ref l2) [(("many" : Str), V.int (l.length : Nat)), ("spans", vs), ("fewest", .ref l1)] = fin := by
    have q1 : ("many" : Str) ≠ "ways" := by decide +kernel
    have q2 : ("spans" : Str) ≠ "ways" := by decide +kernel
    have q3 : ("fewest" : Str) ≠ "ways" := by decide +kernel
    rw [hfin]
    simp [putF, q1, q2, q3]
  rw [pf]
  dsimp only
  rw [← hH5'] at g5 ⊢
  have x5' : H5' x = some (.ins C dx fin) := by rw [hH5', upd_same]
  have y5' : H5' l1 = some (.lst ((z0.map fun k : Nat => (k : Int)).map V.int)) := by rw [hH5', upd_ne ne1]; exact y5
  have w5' : H5' l2 = some (.lst ((z1.map fun k : Nat => (k : Int)).map V.int)) := by rw [hH5', upd_ne ne2]; exact hl2
  clear hH5' x5 y5 hl2 hl1 pf
  -- the state while the tables grow
  have hkv : ∀ {Fx : Hp} {L1 L2 : List Nat}, Same F3 Fx → Fx l1 = some (.lst ((L1.map fun k : Nat => (k : Int)).map V.int)) → Fx l2 = some (.lst ((L2.map fun k : Nat => (k : Int)).map V.int)) → AtKv G.K Fx (fKv fin) (kvD (covF l L1 L2)) := fun {Fx L1 L2} sx h1 h2 => by
    rw [hfin]
    exact .cons (.int _) (.cons (At.mono sx _ _ hsp3) (.cons (.lst h1 (by rw [mI]; exact atL_ints _)) (.cons (.lst h2 (by rw [mI]; exact atL_ints _)) .nil)))
  have look : ∀ {H : Hp} {L1 L2 : List Nat}, Good G F3 [] [] H → H x = some (.ins C dx fin) → H l1 = some (.lst ((L1.map fun k : Nat => (k : Int)).map V.int)) → H l2 = some (.lst ((L2.map fun k : Nat => (k : Int)).map V.int)) →
      ∃ Fv : Hp, Same F3 Fv ∧ Good G Fv [] [] H ∧ At G.K Fv (.ref x) (covD l L1 L2) := fun {H L1 L2} g h1 h2 h3 => by
    obtain ⟨t1, k1⟩ := g.view h2 f1 b1 c1
    obtain ⟨t2, k2⟩ := k1.view h3 (by rw [upd_ne ne3]; exact f2) b2 c2
    obtain ⟨t3, k3⟩ := k2.view h1 (by rw [upd_ne (Ne.symm ne2), upd_ne (Ne.symm ne1)]; exact fx3) hBx cN
    have sv := (t1.trans t2).trans t3
    refine ⟨_, sv, k3, ?_⟩
    refine .obj upd_same hO' (fun p hp => ?_) ?_
    · rw [hfin] at hp
      simp only [List.mem_cons, List.not_mem_nil, or_false] at hp
      rcases hp with rfl | rfl | rfl | rfl
      · exact m1
      · exact m2
      · exact m3
      · exact m4
    · exact hkv sv (by rw [upd_ne ne1, upd_ne (Ne.symm ne3), upd_same]) (by rw [upd_ne ne2, upd_same])
  have lf1 : List.lookup ("fewest" : Str) fin = some (V.ref l1) := by rw [hfin]; rfl
  have lf2 : List.lookup ("ways" : Str) fin = some (V.ref l2) := by
    have q1 : (("ways" : Str) == "many") = false := by decide +kernel
    have q2 : (("ways" : Str) == "spans") = false := by decide +kernel
    have q3 : (("ways" : Str) == "fewest") = false := by decide +kernel
    rw [hfin]
    simp [List.lookup, q1, q2, q3]
  clear hfin
  obtain ⟨Fv, sv, gv, hself⟩ := look g5 x5' y5' w5'
  refine ev_a (as := [.d (covD l z0 z1), .d (rowD l), .d (.list (es.map hpD))]) (vs := [.ref x, vr, ve]) (k := 3) (fun rs => rs = [.d (.int ((l.length : Nat) - 1)), .d (.int (-1)), .d (.int (-1))]) hK hck (three gv hself (At.mono sv _ _ hrow3) (At.mono sv _ _ hen)) (by simp [DV.arg]) rfl ?_ ?_
  · walk_at "dx"
    simp only [fld_many]
    walk_at "dx"
  rintro rs rfl ws F6 H6 hlw gg
  obtain ⟨wa, wb, wc, rfl⟩ : ∃ a b c, ws = [a, b, c] := match ws, hlw with | [a, b, c], _ => ⟨a, b, c, rfl⟩
  have g6 : Good G F3 [] [] H6 := g5.reset gg
  have x6 : H6 x = some (.ins C dx fin) := gg.bh x _ cN x5'
  have y6 := gg.bh l1 _ c1 y5'
  have w6 := gg.bh l2 _ c2 w5'
  obtain ⟨τd, hτd⟩ : ∃ τd : DL.Env, τd = [DV.d (covD l z0 z1), .d (rowD l), .d (.list (es.map hpD))].map some ++ List.replicate 3 none := ⟨_, rfl⟩
  obtain ⟨τs, hτs⟩ : ∃ τs : L2.St, τs = [V.ref x, vr, ve].map some ++ List.replicate 3 none := ⟨_, rfl⟩
  rw [← hτd, ← hτs] at gg
  have gg2 : Good ((G.into Fv H5').up (0 + 0 + (0 + (0 + 0)))) F6 (τd ++ [some (.d (.int ((l.length : Nat) - 1)))] ++ [some (.d (.int (-1)))] ++ [some (.d (.int (-1)))]) (τs ++ [some wa] ++ [some wb] ++ [some wc]) H6 := by simpa using gg
  cases int_of gg2.top
  cases int_of gg2.pop.top
  cases int_of gg2.pop.pop.top
  clear gg gg2 gv hself
  have hn0 := I.n0
  refine ⟨_, _, _, l.length, rfl, ?_, ?_⟩
  · have := RgC.neg (i := ((l.length : Nat) : Int) - 1) (j := -1) (by omega) (by omega) (by omega) (by omega)
    rwa [show (((l.length : Nat) : Int) - 1 - -1).toNat = l.length by omega] at this
  refine for_rangeC (fun d σ H => ∃ (L1 L2 : List Nat) (a3 : Option V), σ = [some (.ref x), some vr, some ve, a3, none, none] ∧ Good G F3 [] [] H ∧ H x = some (.ins C dx fin) ∧ H l1 = some (.lst ((L1.map fun k : Nat => (k : Int)).map V.int)) ∧ H l2 = some (.lst ((L2.map fun k : Nat => (k : Int)).map V.int)) ∧ L1.length = l.length + 1 ∧ L2.length = l.length + 1 ∧
      (∀ j, l.length - d ≤ j → j ≤ l.length → L1[j]? = some (fwl l j)) ∧ ∀ j, l.length - d ≤ j → j ≤ l.length → L2[j]? = some (wyl l j)) ⟨z0, z1, none, rfl, g6, x6, y6, w6, by rw [hz0, List.length_replicate], by rw [hz1, List.length_replicate], fun j h1 h2 => ?_, fun j h1 h2 => ?_⟩ ?_ ?_
  · have : j = l.length := by omega
    subst this
    rw [hz0, List.getElem?_replicate_of_lt (by omega), W.fn]
  · have : j = l.length := by omega
    subst this
    rw [hz1, List.getElem?_replicate_of_lt (by omega)]
    exact congrArg some W.way_end.symm
  · rintro d σ7 H7 hd ⟨L1, L2, a3, rfl, g7, x7, y7, w7, len1, len2, t1, t2⟩
    obtain ⟨i, hi⟩ : ∃ i : Nat, i = l.length - 1 - d := ⟨_, rfl⟩
    have hil : i < l.length := by omega
    rw [show ((l.length : Nat) : Int) - 1 + (d : Nat) * -1 = (i : Nat) by omega]
    have hf1 := far_own I hil
    have hf2 := far_lt I hil
    obtain ⟨ps, px, hat⟩ := hE.get hil
    obtain ⟨Fv, sv, gv, hself⟩ := look g7 x7 y7 w7
    refine ev_d (as := [.d (covD l L1 L2), .d (rowD l), .d (.list (es.map hpD)), .d (.int (i : Nat))]) (vs := [.ref x, vr, ve, .int (i : Nat)]) (k := 2) (fun r => r = .d (.int (fwl l i : Nat))) hK hck ((three gv hself (At.mono sv _ _ hrow3) (At.mono sv _ _ hen)).pushD (.int _)) (by simp [DV.arg]) rfl ?_ ?_
    · walk_at "dx"
      simp only [fld_fewest]
      rw [hat]
      walk_at "dx"
      rw [show ((farE l i : Nat) : Int) + 1 = ((farE l i + 1 : Nat) : Int) by push_cast; rfl, natAt (t1 _ (by omega) (by omega))]
      walk_at "dx"
      rw [fw_step I hil]
      push_cast
      rw [Int.add_comm]
    rintro r rfl v F8 H8 gg
    cases int_of gg.top
    have g8 : Good G F3 [] [] H8 := g7.reset gg
    have x8 : H8 x = some (.ins C dx fin) := gg.bh x _ cN x7
    have y8 := gg.bh l1 _ c1 y7
    have w8 := gg.bh l2 _ c2 w7
    clear gg gv hself sv
    refine ⟨.ref x, rfl, x, C, dx, fin, .ref l1, rfl, x8, hO.cls, n3, lf1, .int (i : Nat), rfl, l1, _, (i : Nat), i, rfl, rfl, y8, ixN_nat (by rw [List.length_map, List.length_map]; omega), ?_⟩
    have g9 := g8.wr (o' := .lst (((L1.set i (fwl l i)).map fun k : Nat => (k : Int)).map V.int)) y8 (fun φ z => by cases z) f1 b1 c1
    obtain ⟨H9, hH9⟩ : ∃ H9, H9 = upd H8 l1 (.lst (((L1.set i (fwl l i)).map fun k : Nat => (k : Int)).map V.int)) := ⟨_, rfl⟩
    have es1 : ((L1.map fun k : Nat => (k : Int)).map V.int).set i (V.int (fwl l i : Nat)) = ((L1.set i (fwl l i)).map fun k : Nat => (k : Int)).map V.int := by rw [List.map_set, List.map_set]
    rw [es1, ← hH9]
    rw [← hH9] at g9
    have x9 : H9 x = some (.ins C dx fin) := by rw [hH9, upd_ne (Ne.symm ne1)]; exact x8
    have y9 : H9 l1 = some (.lst (((L1.set i (fwl l i)).map fun k : Nat => (k : Int)).map V.int)) := by rw [hH9, upd_same]
    have w9 : H9 l2 = some (.lst ((L2.map fun k : Nat => (k : Int)).map V.int)) := by rw [hH9, upd_ne ne3]; exact w8
    have t1' : ∀ j, i ≤ j → j ≤ l.length → (L1.set i (fwl l i))[j]? = some (fwl l j) := fun j h1 h2 => by
      rw [set_at (by omega)]
      by_cases e : j = i
      · subst e; rw [if_pos rfl]
      · rw [if_neg e]; exact t1 j (by omega) h2
    clear hH9 g8 x8 y8 w8
    obtain ⟨Fv, sv, gv, hself⟩ := look g9 x9 y9 w9
    have hmt : isMt "Covers" "choices" (.d (covD l (L1.set i (fwl l i)) L2)) := cov_mt rfl
    refine ev_d (as := [.d (covD l (L1.set i (fwl l i)) L2), .d (rowD l), .d (.list (es.map hpD)), .d (.int (i : Nat))]) (vs := [.ref x, vr, ve, .int (i : Nat)]) (k := 2) (fun r => r = .d (.int (wyl l i : Nat))) hK hck ((three gv hself (At.mono sv _ _ hrow3) (At.mono sv _ _ hen)).pushD (.int _)) (by simp [DV.arg]) rfl ?_ ?_
    · walk_at "dx"
      refine ⟨hmt, l, i, L1.set i (fwl l i), L2, rfl, I, hl, hil, t1', ?_⟩
      walk_at "dx"
      refine lc_ind (onWy l) _ _ (fun d hd K1 K0 q1 q0 => ?_) (by rw [List.length_map]; have := List.length_filter_le (goK (spG l) (fwl l) i) (List.range (2 * l.length)); rw [List.length_range] at this; simp only [List.length_nil]; unfold chl chK; walk_at "lim") ?_
      · obtain ⟨k, hk, rfl⟩ := List.mem_map.mp hd
        obtain ⟨k1, k2, k3, k4⟩ := ch_mem.mp (show k ∈ chK (spG l) (2 * l.length) (fwl l) i from hk)
        have hbk := W.lt k k1
        have hq : onWy l (chD l k) = some (.int (wyl l ((spG l k).2 + 1) : Nat)) := rfl
        unfold chD
        walk_at "dx"
        simp only [fld_ways]
        walk_at "dx"
        rw [natAt (t2 _ (by omega) (by omega))]
        walk_at "dx"
        exact q1 _ hq
      · rw [wy_lc, List.nil_append]
        walk_at "dx"
        rw [intsOf_map]
        dsimp only
        rw [sumNI]
        have e := W.way_step hil
        have e : wyl l i = ((chl l i).map fun k => wyl l ((spG l k).2 + 1)).sum := e
        rw [e]
    rintro r rfl v F10 H10 gg
    cases int_of gg.top
    have g10 : Good G F3 [] [] H10 := g9.reset gg
    have x10 : H10 x = some (.ins C dx fin) := gg.bh x _ cN x9
    have y10 := gg.bh l1 _ c1 y9
    have w10 := gg.bh l2 _ c2 w9
    clear gg gv hself sv
    refine ⟨.ref x, rfl, x, C, dx, fin, .ref l2, rfl, x10, hO.cls, n4, lf2, .int (i : Nat), rfl, l2, _, (i : Nat), i, rfl, rfl, w10, ixN_nat (by rw [List.length_map, List.length_map]; omega), ?_⟩
    have g11 := g10.wr (o' := .lst (((L2.set i (wyl l i)).map fun k : Nat => (k : Int)).map V.int)) w10 (fun φ z => by cases z) f2 b2 c2
    have es2 : ((L2.map fun k : Nat => (k : Int)).map V.int).set i (V.int (wyl l i : Nat)) = ((L2.set i (wyl l i)).map fun k : Nat => (k : Int)).map V.int := by rw [List.map_set, List.map_set]
    rw [es2]
    refine ⟨L1.set i (fwl l i), L2.set i (wyl l i), _, rfl, g11, by rw [upd_ne (Ne.symm ne2)]; exact x10, by rw [upd_ne (Ne.symm ne3)]; exact y10, upd_same, by rw [List.length_set]; exact len1, by rw [List.length_set]; exact len2, fun j h1 h2 => t1' j (by omega) h2, fun j h1 h2 => ?_⟩
    rw [set_at (by omega)]
    by_cases e : j = i
    · subst e; rw [if_pos rfl]
    · rw [if_neg e]; exact t2 j (by omega) h2
  · rintro σ7 H7 ⟨L1, L2, a3, rfl, g7, x7, y7, w7, len1, len2, t1, t2⟩
    have e1 : L1 = fwT l := tab_of len1 fun j hj => t1 j (by omega) hj
    have e2 : L2 = wyT l := tab_of len2 fun j hj => t2 j (by omega) hj
    subst e1 e2
    obtain ⟨t1, k1⟩ := g7.view y7 f1 b1 c1
    obtain ⟨t2, k2⟩ := k1.view w7 (by rw [upd_ne ne3]; exact f2) b2 c2
    refine hQ _ hR (fun p hp => ?_) fin _ H7 k2 x7 (by rw [upd_ne (Ne.symm ne2), upd_ne (Ne.symm ne1)]; exact fx3) ?_
    · unfold covF at hp
      simp only [List.mem_cons, List.not_mem_nil, or_false] at hp
      rcases hp with rfl | rfl | rfl | rfl
      · exact n1
      · exact n2
      · exact n3
      · exact n4
    · have := hkv (t1.trans t2) (by rw [upd_ne (Ne.symm ne3), upd_same]) upd_same
      rwa [hK] at this
def mf_count_covers : MF := fun as R _ => ∃ l : SRow, as = [.d (rowD l)] ∧ Inc l ∧ l.length ≤ 1000 ∧ R (.d (.int (wyl l 0 : Nat)))
theorem d_count_covers {f : Addr} {fd : FuncData} (T : Txt K mg) (hm : mg "count_covers" = some (.ref f)) (F0 : L2.Fun K "count_covers" "count_covers" s_count_covers f fd) (hb : Binds K fd ["row"] []) (F_Covers_count : DMt P w K mg base CK "Covers" "count" 1 0 1 mf_Covers_count) (M_Covers : DMkG P w K mg base CK "Covers" 9 0 1 mk_Covers) : DFn P w K mg base CK "count_covers" 11 0 1 mf_count_covers :=
  (dfn_of hm F0 hb sc_count_covers (fun cdv A outer s H E cx =>
 (dss_one (ds_ret (de_mt0 cx F_Covers_count (by decide) (de_mkG cx M_Covers (by decide) (by rfl) (da_cons (de_pv 0) da_nil))))))
  (by
    rintro as R ex hl ⟨l, rfl, I, hn, h⟩
    have hm : isMt "Covers" "count" (.d (covL l)) := cov_mt rfl
    walk_at "dx"
    exact ⟨l, rfl, I, hn, hm, l, rfl, I, hn, h⟩)).le (by decide +kernel)
def noIndex (v : PyData) : DExc := ⟨"NoIndex", some ("index", v)⟩
def mf_check_index : MF := fun as R ex => ∃ (v : PyData) (n : Int), as = [.d v, .d (.int n)] ∧ (isInt v 0 (n - 1) = true → R (.d .none)) ∧ (isInt v 0 (n - 1) = false → ex (noIndex v))
theorem d_check_index {f : Addr} {fd : FuncData} (T : Txt K mg) (hm : mg "check_index" = some (.ref f)) (F0 : L2.Fun K "check_index" "check_index" s_check_index f fd) (hb : Binds K fd ["value", "many"] []) (F_is_integer : DFn P w K mg base CK "is_integer" 1 0 3 mf_is_integer) (X_NoIndex : XMk P w K mg base "NoIndex" "index") : DFn P w K mg base CK "check_index" 3 0 2 mf_check_index :=
  (dfn_of hm F0 hb sc_check_index (fun cdv A outer s H E cx =>
 (dss_one (ds_if (dt_not (dt_val (de_call cx F_is_integer (by decide) (by rfl) (da_cons (de_pv 0) (da_cons de_int (da_cons (de_sub (de_pv 1) de_int) da_nil)))))) (dss_one (ds_raise1 cx X_NoIndex (by decide) (by rfl) (by rfl) (da_cons (de_pv 0) da_nil))) dss_nil)))
  (by
    rintro as R ex hl ⟨v, n, rfl, h1, h2⟩
    walk_at "dx"
    refine ⟨v, 0, _, rfl, ?_⟩
    cases hs : isInt v 0 (n - 1) with
    | false =>
      walk_at "dx"
      exact h2 hs
    | true =>
      walk_at "dx"
      exact h1 hs)).le (by decide +kernel)
theorem flat_at {g : Nat → List (List Nat)} : ∀ {xs : List Nat} {j k i : Nat}, xs[j]? = some k → i < (g k).length → (xs.flatMap g)[((xs.take j).map fun x => (g x).length).sum + i]? = (g k)[i]?
  | [], j, k, i, h, _ => by simp at h
  | x :: xs, 0, k, i, h, hi => by
    have h : x = k := Option.some.inj h
    subst h
    rw [List.take_zero, List.map_nil, List.sum_nil, Nat.zero_add, List.flatMap_cons, List.getElem?_append_left hi]
  | x :: xs, j + 1, k, i, h, hi => by
    rw [List.take_succ_cons, List.map_cons, List.sum_cons, List.flatMap_cons, List.getElem?_append_right (by omega), show (g x).length + ((xs.take j).map fun x => (g x).length).sum + i - (g x).length = ((xs.take j).map fun x => (g x).length).sum + i by omega]
    exact flat_at (by simpa using h) hi
/-- what ways stand ahead of the j-th choice -/
noncomputable def ahead (l : SRow) (s j : Nat) : Nat := (((chl l s).take j).map fun k => wyl l ((spG l k).2 + 1)).sum
noncomputable def pathL (l : SRow) (s : Nat) : List (List Nat) := pth (spG l) (2 * l.length) (fwl l) (fwl l s) s
theorem path_len {l : SRow} {s : Nat} : (pathL l s).length = wyl l s := rfl
theorem ahead_succ {l : SRow} {s j k : Nat} (h : (chl l s)[j]? = some k) : ahead l s (j + 1) = ahead l s j + wyl l ((spG l k).2 + 1) := by
  unfold ahead
  rw [List.take_add_one, h, List.map_append, List.sum_append]
  simp
theorem ahead_all {l : SRow} (I : Inc l) {s : Nat} (h : s < l.length) : ahead l s (chl l s).length = wyl l s := by
  unfold ahead
  rw [List.take_length]
  exact ((fw_of I).way_step h).symm
theorem ch_next {l : SRow} (I : Inc l) {s k : Nat} (h : k ∈ chl l s) : k < 2 * l.length ∧ (spG l k).1 ≤ s ∧ s ≤ (spG l k).2 ∧ (spG l k).2 < l.length ∧ fwl l ((spG l k).2 + 1) + 1 = fwl l s := by
  obtain ⟨h1, h2, h3, h4⟩ := ch_mem.mp (show k ∈ chK (spG l) (2 * l.length) (fwl l) s from h)
  exact ⟨h1, h2, h3, ((fw_of I).lt k h1).2, h4⟩
/-- the i-th way by way of the j-th choice -/
theorem path_at {l : SRow} (I : Inc l) {s j k i : Nat} (hs : s < l.length) (hj : (chl l s)[j]? = some k) (hi : i < wyl l ((spG l k).2 + 1)) : (pathL l s)[ahead l s j + i]? = (pathL l ((spG l k).2 + 1))[i]?.map (k :: ·) := by
  obtain ⟨t, ht⟩ := (fw_of I).pos hs
  have hk := ch_next I (List.mem_of_getElem? hj)
  have e1 : fwl l ((spG l k).2 + 1) = t := by omega
  have hsum : ahead l s j = (((chl l s).take j).map fun x => ((pth (spG l) (2 * l.length) (fwl l) t ((spG l x).2 + 1)).map (x :: ·)).length).sum := by
    unfold ahead
    refine pwCg fun x hx => ?_
    have hx := ch_next I (List.mem_of_mem_take hx)
    rw [List.length_map]
    show (pth (spG l) (2 * l.length) (fwl l) (fwl l ((spG l x).2 + 1)) ((spG l x).2 + 1)).length = _
    rw [show fwl l ((spG l x).2 + 1) = t by omega]
  have e2 : pathL l s = (chl l s).flatMap fun x => (pth (spG l) (2 * l.length) (fwl l) t ((spG l x).2 + 1)).map (x :: ·) := by
    unfold pathL
    rw [ht]
    rfl
  rw [e2, hsum, flat_at hj (by rw [List.length_map]; have : (pth (spG l) (2 * l.length) (fwl l) (fwl l ((spG l k).2 + 1)) ((spG l k).2 + 1)).length = wyl l ((spG l k).2 + 1) := rfl; rw [e1] at this; omega), List.getElem?_map]
  unfold pathL
  rw [e1]
theorem path_end {l : SRow} : pathL l l.length = [[]] := by
  unfold pathL
  have e : fwl l l.length = 0 := by unfold fwl; rw [Nat.sub_self]; rfl
  rw [e]
  rfl
/-! ### the number of a way -/
noncomputable def befW (l : SRow) (s k : Nat) : Nat := (((chl l s).filter fun x => decide (x < k)).map fun x => wyl l ((spG l x).2 + 1)).sum
noncomputable def idxOf (l : SRow) : Nat → List Nat → Option Nat
  | s, [] => if s = l.length then some 0 else none
  | s, k :: q => if s < l.length ∧ k ∈ chl l s then (idxOf l ((spG l k).2 + 1) q).map (befW l s k + ·) else none
theorem take_lt : ∀ {xs : List Nat} {j k : Nat}, xs.Pairwise (· < ·) → xs[j]? = some k → (xs.filter fun x => decide (x < k)) = xs.take j
  | [], j, k, _, h => by simp at h
  | x :: xs, 0, k, hp, h => by
    cases Option.some.inj h
    rw [List.take_zero, List.filter_eq_nil_iff]
    intro y hy
    rw [decide_eq_true_eq]
    rcases List.mem_cons.mp hy with rfl | hy
    · exact Nat.lt_irrefl _
    · have := (List.pairwise_cons.mp hp).1 y hy
      omega
  | x :: xs, j + 1, k, hp, h => by
    have h : xs[j]? = some k := by simpa using h
    have hx := (List.pairwise_cons.mp hp).1 k (List.mem_of_getElem? h)
    rw [List.filter_cons, if_pos (decide_eq_true hx), List.take_succ_cons, take_lt (List.pairwise_cons.mp hp).2 h]
theorem chl_asc {l : SRow} {s : Nat} : (chl l s).Pairwise (· < ·) := List.pairwise_lt_range.sublist List.filter_sublist
theorem bef_ahead {l : SRow} {s j k : Nat} (h : (chl l s)[j]? = some k) : befW l s k = ahead l s j := by
  unfold befW ahead
  rw [take_lt chl_asc h]
theorem sum_split {g : Nat → Nat} : ∀ {xs : List Nat} {i : Nat}, i < (xs.map g).sum → ∃ j k i', xs[j]? = some k ∧ i = ((xs.take j).map g).sum + i' ∧ i' < g k
  | [], i, h => by simp at h
  | x :: xs, i, h => by
    rw [List.map_cons, List.sum_cons] at h
    by_cases c : i < g x
    · exact ⟨0, x, i, rfl, by simp, c⟩
    · obtain ⟨j, k, i', h1, h2, h3⟩ := sum_split (g := g) (xs := xs) (i := i - g x) (by omega)
      exact ⟨j + 1, k, i', by simpa using h1, by rw [List.take_succ_cons, List.map_cons, List.sum_cons]; omega, h3⟩
theorem way_split {l : SRow} (I : Inc l) {s i : Nat} (hs : s < l.length) (hi : i < wyl l s) : ∃ j k i', (chl l s)[j]? = some k ∧ i = ahead l s j + i' ∧ i' < wyl l ((spG l k).2 + 1) := by
  have h := (fw_of I).way_step hs
  have hi : i < ((chl l s).map fun k => wyl l ((spG l k).2 + 1)).sum := by
    show i < ((chK (spG l) (2 * l.length) (fwl l) s).map fun k => wayK (spG l) (2 * l.length) (fwl l) ((spG l k).2 + 1)).sum
    rw [← h]
    exact hi
  exact sum_split hi
/-- a way's number is told -/
theorem path_idx {l : SRow} (I : Inc l) : ∀ (r : List Nat) (s i : Nat), s ≤ l.length → (pathL l s)[i]? = some r → idxOf l s r = some i := by
  intro r
  induction r with
  | nil =>
    intro s i hs h
    rcases Nat.lt_or_ge s l.length with c | c
    · have hi : i < wyl l s := (List.getElem?_eq_some_iff.mp h).1
      obtain ⟨j, k, i', h1, rfl, h3⟩ := way_split I c hi
      rw [path_at I c h1 h3] at h
      cases e : (pathL l ((spG l k).2 + 1))[i']? with
      | none => rw [e] at h; cases h
      | some r2 => rw [e] at h; cases h
    · have : s = l.length := by omega
      subst this
      rw [path_end] at h
      cases i with
      | zero => unfold idxOf; rw [if_pos rfl]
      | succ i => cases h
  | cons k0 r ih =>
    intro s i hs h
    rcases Nat.lt_or_ge s l.length with c | c
    · have hi : i < wyl l s := (List.getElem?_eq_some_iff.mp h).1
      obtain ⟨j, k, i', h1, rfl, h3⟩ := way_split I c hi
      rw [path_at I c h1 h3] at h
      have hk := ch_next I (List.mem_of_getElem? h1)
      cases e : (pathL l ((spG l k).2 + 1))[i']? with
      | none => rw [e] at h; cases h
      | some r2 =>
        rw [e] at h
        have h : k :: r2 = k0 :: r := Option.some.inj h
        obtain ⟨rfl, rfl⟩ := List.cons.inj h
        unfold idxOf
        rw [if_pos ⟨c, List.mem_of_getElem? h1⟩, ih _ i' (by omega) e, bef_ahead h1]
        rfl
    · have : s = l.length := by omega
      subst this
      rw [path_end] at h
      cases i with
      | zero => cases h
      | succ i => cases h
theorem pu_ltk (j k : Nat) : PySem.W.dataLt (puD j) (puD k) = decide (j < k) := by
  rcases Nat.lt_or_ge j k with c | c
  · rw [decide_eq_true c]
    unfold puD
    rw [PySem.W.dataLt_pair (by simp [PySem.W.alike]) (by simp [PySem.W.alike])]
    by_cases e : j / 2 = k / 2
    · have hj : j % 2 = 0 := by omega
      have hk : ¬ k % 2 = 0 := by omega
      rw [e, if_pos (by simp [PyData.eqv]), if_pos hj, if_neg hk]
      decide +kernel
    · rw [if_neg (by simp only [PyData.eqv, beq_iff_eq]; omega), PySem.W.dataLt_int, decide_eq_true_eq]
      omega
  · rw [decide_eq_false (by omega)]
    exact pu_lt c
/-- choices told by their pushes -/
def onOwn (k : Nat) : PyData → Option PyData
  | .tuple [p, .int i] => if PyData.eqv p (puD k) then some (.int i) else none
  | _ => none
theorem own_lc {l : SRow} {k : Nat} : ∀ {xs : List Nat}, xs.Nodup → (xs.map (chD l)).filterMap (onOwn k) = if k ∈ xs then [.int (((spG l k).2 + 1 : Nat) : Int)] else []
  | [], _ => rfl
  | x :: xs, h => by
    obtain ⟨h1, h2⟩ := List.nodup_cons.mp h
    rw [List.map_cons, List.filterMap_cons]
    have e : onOwn k (chD l x) = if x = k then some (.int (((spG l x).2 + 1 : Nat) : Int)) else none := by
      show (if PyData.eqv (puD x) (puD k) then some (PyData.int (((spG l x).2 + 1 : Nat) : Int)) else none) = _
      rw [pu_eqv]
      by_cases c : x = k
      · rw [decide_eq_true c, if_pos rfl, if_pos c]
      · rw [decide_eq_false c, if_neg Bool.false_ne_true, if_neg c]
    rw [e, own_lc h2]
    by_cases c : x = k
    · subst c
      rw [if_pos rfl, if_neg h1, if_pos (List.mem_cons_self ..)]
    · rw [if_neg c]
      by_cases d : k ∈ xs
      · rw [if_pos d, if_pos (List.mem_cons_of_mem _ d)]
      · rw [if_neg d, if_neg]
        intro z
        rcases List.mem_cons.mp z with z | z
        · exact c z.symm
        · exact d z
noncomputable def onLess (l : SRow) (k : Nat) : PyData → Option PyData
  | .tuple [p, .int i] => if PySem.W.dataLt p (puD k) then some (natD (wyl l i.toNat)) else none
  | _ => none
theorem less_lc {l : SRow} {k : Nat} : ∀ {xs : List Nat}, (xs.map (chD l)).filterMap (onLess l k) = (xs.filter fun x => decide (x < k)).map fun x => natD (wyl l ((spG l x).2 + 1))
  | [] => rfl
  | x :: xs => by
    rw [List.map_cons, List.filterMap_cons, List.filter_cons, less_lc (xs := xs)]
    have e : onLess l k (chD l x) = if decide (x < k) then some (natD (wyl l ((spG l x).2 + 1))) else none := by
      show (if PySem.W.dataLt (puD x) (puD k) then some (natD (wyl l ((((spG l x).2 + 1 : Nat) : Int).toNat))) else none) = _
      rw [pu_ltk, Int.toNat_natCast]
    rw [e]
    cases decide (x < k) <;> rfl
theorem ints_tab2 {g : Nat → Nat} : ∀ ks : List Nat, intsOf (ks.map fun k => natD (g k)) = some (ks.map fun k => ((g k : Nat) : Int))
  | [] => rfl
  | k :: ks => by rw [List.map_cons, List.map_cons, natD, intsOf, ints_tab2 ks]; rfl
theorem sum_cast2 {g : Nat → Nat} : ∀ ks : List Nat, (ks.map fun k => ((g k : Nat) : Int)).sum = (((ks.map g).sum : Nat) : Int)
  | [] => rfl
  | k :: ks => by rw [List.map_cons, List.map_cons, List.sum_cons, List.sum_cons, sum_cast2 ks]; push_cast; rfl
theorem idx_nil {l : SRow} {s : Nat} : idxOf l s [] = if s = l.length then some 0 else none := by unfold idxOf; rfl
theorem idx_none {l : SRow} {s k : Nat} {q : List Nat} (h : k ∉ chl l s) : idxOf l s (k :: q) = none := by
  unfold idxOf
  rw [if_neg fun z => h z.2]
theorem idx_end {l : SRow} {k : Nat} {q : List Nat} : idxOf l l.length (k :: q) = none := by
  unfold idxOf
  rw [if_neg fun z => Nat.lt_irrefl _ z.1]
theorem idx_step {l : SRow} {s k : Nat} {q : List Nat} (hs : s < l.length) (h : k ∈ chl l s) : idxOf l s (k :: q) = (idxOf l ((spG l k).2 + 1) q).map (befW l s k + ·) := by
  conv => lhs; unfold idxOf
  rw [if_pos ⟨hs, h⟩]
theorem pu_plain (k : Nat) : (puD k).hasDict = false ∧ (puD k).depth ≤ 60 ∧ puD k ≠ .none := ⟨by simp [puD, PyData.hasDict, PyData.hasDictAll], by simp [puD, PyData.depth, PyData.depthAll], fun z => by cases z⟩
def mf_Covers_at : MF := fun as R _ => ∃ (l : SRow) (i : Nat) (q : List Nat), as = [.d (covL l), .d (.int (i : Nat))] ∧ Inc l ∧ l.length ≤ 1000 ∧ (pathL l 0)[i]? = some q ∧ R (.d (.tuple (q.map puD)))
theorem d_Covers_at {C f : Addr} {fd : FuncData} (T : Txt K mg) (hO : ObjC K "Covers" C) (hM : Meth K C "at" f) (F0 : L2.Fun K "at" "Covers.at" s_Covers_at f fd) (hb : Binds K fd ["self", "index"] []) (F_Covers_choices : DMt P w K mg base CK "Covers" "choices" 1 0 2 mf_Covers_choices) : DMt P w K mg base CK "Covers" "at" 2 0 2 mf_Covers_at :=
  dmt_of hO hM F0 hb sc_Covers_at (fun cdv A outer s H E cx =>
 (dss_cons (ds_par2 (i := 2) (j := 3) (by rfl) sc_Covers_at.nd rfl rfl (by decide) rfl rfl (da_cons de_int (da_cons (de_lst da_nil) da_nil)) (by rfl))
 (dss_cons (ds_while (Ctx.passes rfl) (dt_lt (de_pv 2) (de_fld (de_pv 0))) (dss_cons (ds_set (i := 4) sc_Covers_at.nd rfl (by first | exact Or.inl rfl | exact Or.inr rfl) de_non)
 (dss_cons (ds_for (Ctx.passes rfl) (by rfl) (di_list (de_mtA cx F_Covers_choices (by decide) (de_pv 0) (da_cons (de_pv 2) da_nil))) (dg_tup (by rfl) (dgs_cons (dg_name (i := 5) sc_Covers_at.nd rfl (by first | exact Or.inl rfl | exact Or.inr rfl)) (dgs_cons (dg_name (i := 6) sc_Covers_at.nd rfl (by first | exact Or.inl rfl | exact Or.inr rfl)) dgs_nil))) (dss_one (ds_if (DW.dt (dw_and (dt_is (de_pv 4) de_non) (dw_and1 (dt_lt (de_pv 1) (de_ix (de_fld (de_pv 0)) (de_pv 6)))))) (dss_one (ds_set (i := 4) sc_Covers_at.nd rfl (by first | exact Or.inl rfl | exact Or.inr rfl) (de_tup (da_cons (de_pv 5) (da_cons (de_pv 6) da_nil))))) (dss_one (ds_if (dt_is (de_pv 4) de_non) (dss_one (ds_aug (i := 1) sc_Covers_at.nd rfl (by first | exact Or.inl rfl | exact Or.inr rfl) (de_ix (de_fld (de_pv 0)) (de_pv 6)) ip_sub)) dss_nil)))))
 (dss_cons (ds_mut PySem.F.slot_list_append PySem.F.type_list_append mt_append mut_app (pv 3) (da_cons (de_ix (de_pv 4) de_int) da_nil))
 (dss_one (ds_set (i := 2) sc_Covers_at.nd rfl (by first | exact Or.inl rfl | exact Or.inr rfl) (de_ix (de_pv 4) de_int)))))))
 (dss_one (ds_ret (de_tupleC (by rfl) T.n_tuple (da_cons (de_pv 3) da_nil)))))))
  (by
    rintro as R ex hl ⟨l, i, q, rfl, I, hn, hq, h⟩
    have hm : isMt "Covers" "choices" (.d (covL l)) := cov_mt rfl
    walk_at "dx"
    refine ⟨by walk_at "lim", fun n δ => ∃ (s i : Nat) (q1 r : List Nat) (a b c : Option DV), s ≤ l.length ∧ n = l.length - s ∧ (pathL l s)[i]? = some r ∧ q = q1 ++ r ∧ q1.length ≤ s ∧ δ = [some (.d (covL l)), some (.d (.int (i : Nat))), some (.d (.int (s : Nat))), some (.own (q1.map puD)), a, b, c], ⟨_, 0, i, [], q, none, none, none, Nat.zero_le _, rfl, hq, rfl, Nat.zero_le _, rfl⟩, ?_⟩
    rintro n δ ⟨s, i, q1, r, a, b, c, hs, rfl, hr, rfl, hq1, rfl⟩
    unfold covL at hm ⊢
    walk_at "dx"
    simp only [fld_many]
    walk_at "dx"
    refine ⟨fun cs => ?_, fun cs => ?_⟩
    · have hs2 : s < l.length := by omega
      have hiw : i < wyl l s := by rw [← path_len]; exact (List.getElem?_eq_some_iff.mp hr).1
      refine ⟨hm, l, s, fwT l, wyT l, rfl, I, hn, hs2, fun j h1 h2 => fwT_at h2, ?_⟩
      walk_at "dx"
      refine ⟨fun x hx => by cases List.mem_singleton.mp hx; rfl, ?_⟩
      refine for_at (fun j δ => ∃ (i2 : Nat) (b c : Option DV) (ch : PyData), j ≤ (chl l s).length ∧ ((ch = .none ∧ i2 + ahead l s j = i) ∨ ∃ (j2 k : Nat), (chl l s)[j2]? = some k ∧ i2 < wyl l ((spG l k).2 + 1) ∧ i2 + ahead l s j2 = i ∧ ch = .tuple [puD k, .int (((spG l k).2 + 1 : Nat) : Int)]) ∧ δ = [some (.d (covD l (fwT l) (wyT l))), some (.d (.int (i2 : Nat))), some (.d (.int (s : Nat))), some (.own (q1.map puD)), some (.d ch), b, c]) ⟨i, b, c, .none, Nat.zero_le _, .inl ⟨rfl, by unfold ahead; rfl⟩, rfl⟩ ?_ ?_
      · rintro δ ⟨i2, b, c, ch, hj, hch, rfl⟩
        rw [List.length_map] at hj hch
        rcases hch with ⟨_, he⟩ | ⟨j2, k, hk, hi2, he, rfl⟩
        · rw [ahead_all I hs2] at he
          omega
        · have hkn := ch_next I (List.mem_of_getElem? hk)
          have hp := path_at I hs2 hk hi2
          rw [show ahead l s j2 + i2 = i by omega, hr] at hp
          cases hr2 : (pathL l ((spG l k).2 + 1))[i2]? with
          | none => rw [hr2] at hp; cases hp
          | some r2 =>
            rw [hr2] at hp
            cases hp
            walk_at "dx"
            rw [if_pos (show (q1.map puD).length < sizeLine by rw [List.length_map]; walk_at "lim")]
            dsimp only
            refine ⟨l.length - ((spG l k).2 + 1), by omega, (spG l k).2 + 1, i2, q1 ++ [k], r2, _, _, _, by omega, rfl, hr2, by rw [List.append_assoc]; rfl, by rw [List.length_append, List.length_singleton]; omega, by rw [List.map_append]; rfl⟩
      · rintro j d δ K2 hd ⟨i2, b, c, ch, hj, hch, rfl⟩ hK2
        rw [List.getElem?_map] at hd
        cases hk : (chl l s)[j]? with
        | none => rw [hk] at hd; cases hd
        | some k =>
          rw [hk] at hd
          cases hd
          have hkn := ch_next I (List.mem_of_getElem? hk)
          have hjl : j < (chl l s).length := (List.getElem?_eq_some_iff.mp hk).1
          rcases hch with ⟨rfl, he⟩ | ⟨j2, k2, hk2, hi2, he, rfl⟩
          · unfold chD
            walk_at "dx"
            simp only [fld_ways]
            walk_at "dx"
            rw [natAt (wyT_at (show (spG l k).2 + 1 ≤ l.length by omega))]
            walk_at "dx"
            refine ⟨fun c1 => ⟨by walk_at "lim", hK2 _ ⟨i2, _, _, _, hjl, .inr ⟨j, k, hk, by omega, he, rfl⟩, rfl⟩⟩, fun c1 => ?_⟩
            rw [show (i2 : Int) - (wyl l ((spG l k).2 + 1) : Nat) = ((i2 - wyl l ((spG l k).2 + 1) : Nat) : Int) by omega]
            exact hK2 _ ⟨i2 - wyl l ((spG l k).2 + 1), _, _, _, hjl, .inl ⟨rfl, by rw [ahead_succ hk]; omega⟩, rfl⟩
          · unfold chD
            walk_at "dx"
            exact hK2 _ ⟨i2, _, _, _, hjl, .inr ⟨j2, k2, hk2, hi2, he, rfl⟩, rfl⟩
    · have : s = l.length := by omega
      subst this
      rw [path_end] at hr
      cases i with
      | zero =>
        cases hr
        rw [List.append_nil] at h
        exact h
      | succ i => cases hr)
def mf_cover_at : MF := fun as R ex => ∃ (l : SRow) (v : PyData), as = [.d (rowD l), .d v] ∧ Inc l ∧ l.length ≤ 1000 ∧ (isInt v 0 ((wyl l 0 : Nat) - 1) = false → ex (noIndex v)) ∧ ∀ (i : Nat) (q : List Nat), v = .int (i : Nat) → (pathL l 0)[i]? = some q → R (.d (.tuple (q.map puD)))
theorem d_cover_at {f : Addr} {fd : FuncData} (T : Txt K mg) (hm : mg "cover_at" = some (.ref f)) (F0 : L2.Fun K "cover_at" "cover_at" s_cover_at f fd) (hb : Binds K fd ["row", "index"] []) (F_Covers_at : DMt P w K mg base CK "Covers" "at" 2 0 2 mf_Covers_at) (F_check_index : DFn P w K mg base CK "check_index" 3 0 2 mf_check_index) (F_Covers_count : DMt P w K mg base CK "Covers" "count" 1 0 1 mf_Covers_count) (M_Covers : DMkG P w K mg base CK "Covers" 9 0 1 mk_Covers) : DFn P w K mg base CK "cover_at" 11 0 2 mf_cover_at :=
  (dfn_of hm F0 hb sc_cover_at (fun cdv A outer s H E cx =>
 (dss_cons (ds_set (i := 2) sc_cover_at.nd rfl (by first | exact Or.inl rfl | exact Or.inr rfl) (de_mkG cx M_Covers (by decide) (by rfl) (da_cons (de_pv 0) da_nil)))
 (dss_cons (ds_expr (de_call cx F_check_index (by decide) (by rfl) (da_cons (de_pv 1) (da_cons (de_mt0 cx F_Covers_count (by decide) (de_pv 2)) da_nil))))
 (dss_one (ds_ret (de_mtA cx F_Covers_at (by decide) (de_pv 2) (da_cons (de_pv 1) da_nil)))))))
  (by
    rintro as R ex hl ⟨l, v, rfl, I, hn, h0, h⟩
    have hm : isMt "Covers" "count" (.d (covL l)) := cov_mt rfl
    have hm2 : isMt "Covers" "at" (.d (covL l)) := cov_mt rfl
    walk_at "dx"
    refine ⟨l, rfl, I, hn, hm, l, rfl, I, hn, ?_⟩
    walk_at "dx"
    refine ⟨v, _, rfl, fun hv => ?_, fun hv => h0 hv⟩
    walk_at "dx"
    obtain ⟨i, rfl, hi⟩ : ∃ i : Nat, v = .int (i : Nat) ∧ i < wyl l 0 := by
      cases v with
      | int i =>
        simp only [isInt, Bool.and_eq_true, decide_eq_true_eq] at hv
        exact ⟨i.toNat, by rw [show ((i.toNat : Nat) : Int) = i by omega], by omega⟩
      | _ => cases hv
    have hq : (pathL l 0)[i]? = some (pathL l 0)[i] := List.getElem?_eq_getElem (by rw [path_len]; exact hi)
    refine ⟨hm2, l, i, _, rfl, I, hn, hq, ?_⟩
    walk_at "dx"
    exact h i _ rfl hq)).le (by decide +kernel)
def mf_each_cover : MG1 := fun as R ex => ∃ (l : SRow) (v : PyData), as = [.d (rowD l), .d v] ∧ Inc l ∧ l.length ≤ 1000 ∧ wyl l 0 < 2 ^ 60 ∧ (isInt v 0 ((wyl l 0 : Nat) - 1) = false → ex (noIndex v)) ∧ ∀ i : Nat, v = .int (i : Nat) → i < wyl l 0 → R (((pathL l 0).drop i).map fun q => .tuple (q.map puD))
theorem ec_out {l : SRow} {okp : Prop} (I : Inc l) (hn : l.length ≤ 1000) (hok : okp) {x1 : PyData} {i0 : Nat} {K : Nat → DL.Env → Prop} : ∀ (ks : List Nat) (j : Nat) (a3 : Option DV), (a3 = none ∨ ∃ y, a3 = some (DV.d y)) → (∀ (i k : Nat), ks[i]? = some k → k < wyl l 0 ∧ i0 + (j + i) = k) →
    (∀ δ, K (j + ks.length) δ) →
    forGn (gN 3) (mGSeq (mGYield (mMt "Covers" "at" 2 mf_Covers_at (mVar 2) (mCons (mVar 3) mNil))) mG0) { nx := K, out := ((pathL l 0).drop i0).map fun q => .tuple (q.map puD), ok := okp } (ks.map natD) j [some (.d (rowD l)), some (.d x1), some (.d (covL l)), a3]
  | [], j, a3, h3, _, hK => hK _
  | k :: ks, j, a3, h3, ho, hK => by
    have h0 := ho 0 k rfl
    have hm2 : isMt "Covers" "at" (.d (covL l)) := cov_mt rfl
    unfold forGn
    walk_at "dg"
    walk_at "dl"
    obtain ⟨q, hq⟩ : ∃ q, (pathL l 0)[k]? = some q := ⟨_, List.getElem?_eq_getElem (by rw [path_len]; exact h0.1)⟩
    refine ⟨hok, _, by rw [List.getElem?_map, List.getElem?_drop, show i0 + j = k by omega, hq]; rfl, ?_⟩
    walk_at "dx"
    refine ⟨hm2, l, k, _, rfl, I, hn, hq, ?_⟩
    walk_at "dx"
    refine ⟨rfl, ?_⟩
    refine ec_out I hn hok ks (j + 1) _ (.inr ⟨_, rfl⟩) (fun i k' e => ?_) fun δ => ?_
    · have := ho (i + 1) k' e
      exact ⟨this.1, by omega⟩
    · have := hK δ
      rw [List.length_cons] at this
      rw [show j + 1 + ks.length = j + (ks.length + 1) by omega]; exact this
theorem rg_nat {i n : Nat} (h : i ≤ n) : rangeD ((i : Nat) : Int) (((n : Nat) : Int) - ((i : Nat) : Int)).toNat = (List.range' i (n - i)).map natD := by
  rw [show (((n : Nat) : Int) - ((i : Nat) : Int)).toNat = n - i by omega]
  unfold rangeD
  rw [List.range'_eq_map_range, List.map_map]
  refine List.map_congr_left fun k _ => ?_
  show PyData.int _ = PyData.int _
  congr 1
theorem d_each_cover {f : Addr} {fd : FuncData} (T : Txt K mg) (hm : mg "each_cover" = some (.ref f)) (F0 : L2.Fun K "each_cover" "each_cover" s_each_cover f fd) (hb : KBind K fd ["row", "index"] 1 "index") (hd : ∃ ds dvs, Binds K fd ["row", "index"] ds ∧ Vals dvs ds ∧ dvs.length = 1 ∧ ∀ F, AtL K F dvs [.int (0)]) (F_check_index : DFn P w K mg base CK "check_index" 3 0 2 mf_check_index) (F_Covers_count : DMt P w K mg base CK "Covers" "count" 1 0 1 mf_Covers_count) (F_Covers_at : DMt P w K mg base CK "Covers" "at" 2 0 2 mf_Covers_at) (M_Covers : DMkG P w K mg base CK "Covers" 9 0 1 mk_Covers) : DGenK P w K mg base CK "each_cover" "index" 11 1 (.int (0)) mf_each_cover :=
  dgenK_of hm F0 hb rfl hd sc_each_cover nc_each_cover (pre := (defBody s_each_cover).take 2) (rest := (defBody s_each_cover).drop 2) (by rfl) (fun cdv A outer s E pn v H cx =>
 (dss_cons (ds_set (i := 2) sc_each_cover.nd rfl (by first | exact Or.inl rfl | exact Or.inr rfl) (de_mkG cx M_Covers (by decide) (by rfl) (da_cons (de_pv 0) da_nil)))
 (dss_one (ds_expr (de_call cx F_check_index (by decide) (by rfl) (da_cons (de_pv 1) (da_cons (de_mt0 cx F_Covers_count (by decide) (de_pv 2)) da_nil)))))))
  (fun cdv A outer s H E pn cy =>
 (dys_one (dy_for (fun v H1 => (diy_range2 (by rfl) T.n_range (da_cons (de_pv 1) (da_cons (de_mt0 (cy v H1) F_Covers_count (by decide) (de_pv 2)) da_nil)))) (fun v H1 => (dg_name (i := 3) sc_each_cover.nd rfl (by first | exact Or.inl rfl | exact Or.inr rfl))) (dys_one (dy_yield fun v H1 => (de_mtA (cy v H1) F_Covers_at (by decide) (de_pv 2) (da_cons (de_pv 3) da_nil)))))))
  (by
    rintro as R ex hl ⟨l, v, rfl, I, hn, hw, h0, h⟩
    have hm : isMt "Covers" "count" (.d (covL l)) := cov_mt rfl
    cases hv : isInt v 0 ((wyl l 0 : Nat) - 1) with
    | false =>
      refine ⟨[], ?_⟩
      walk_at "dx"
      refine ⟨l, rfl, I, hn, hm, l, rfl, I, hn, ?_⟩
      walk_at "dx"
      exact ⟨v, _, rfl, fun c => (by rw [hv] at c; cases c), fun _ => h0 hv⟩
    | true =>
      obtain ⟨i, rfl, hi⟩ : ∃ i : Nat, v = .int (i : Nat) ∧ i < wyl l 0 := by
        cases v with
        | int i =>
          simp only [isInt, Bool.and_eq_true, decide_eq_true_eq] at hv
          exact ⟨i.toNat, by rw [show ((i.toNat : Nat) : Int) = i by omega], by omega⟩
        | _ => cases hv
      refine ⟨((pathL l 0).drop i).map fun q => .tuple (q.map puD), ?_⟩
      walk_at "dx"
      refine ⟨l, rfl, I, hn, hm, l, rfl, I, hn, ?_⟩
      walk_at "dx"
      refine ⟨_, _, rfl, fun _ => ?_, fun c => by rw [hv] at c; cases c⟩
      walk_at "dg"
      walk_at "dx"
      refine ⟨hm, l, rfl, I, hn, ?_⟩
      walk_at "dx"
      refine ⟨by omega, ?_⟩
      rw [rg_nat (by omega)]
      exact ec_out I hn (h i rfl hi) _ 0 _ (.inl rfl) (fun a b e => by
        obtain ⟨ha, e⟩ := List.getElem?_eq_some_iff.mp e
        rw [List.length_range'] at ha
        rw [List.getElem_range'] at e
        omega) fun δ => by
        walk_at "dg"
        exact ⟨by rw [List.length_map, List.length_drop, List.length_range', path_len, Nat.zero_add], h i rfl hi⟩)
theorem d__law_opened {f : Addr} {fd : FuncData} (T : Txt K mg) (hm : mg "_law_opened" = some (.ref f)) (F0 : L2.Fun K "_law_opened" "_law_opened" s__law_opened f fd) (hb : Binds K fd ["_law_script"] []) : DBag P w K mg base := by
  refine ⟨f, fd, _, hm, F0.kp, hb, rfl, fnG_of F0 sc__law_opened (fun vs H Q E h => ?_) fun cdv A outer s H vs Q E hg hr h => ?_⟩
  · obtain ⟨a, ns, rfl, _⟩ := h
    rfl
  · obtain ⟨a, ns, rfl, hl, hS, k⟩ := h
    have cx : DL.Ctx (cxOf (L2.CX P w) P w K mg base ["_law_script", "_law_great", "_law_small", "_law_cell"] "_law_opened" (defScope s__law_opened) f cdv A outer s H E) ⟨fun _ _ _ _ => False, fun _ _ _ _ => True⟩ 0 := ⟨hg, hr, takes0⟩
    refine ⟨_, pss_cons (DS.ps (W := ⟨fun _ _ _ _ => False, fun _ _ _ _ => True⟩) (ds_par2 (i := 1) (j := 2) (by rfl) sc__law_opened.nd rfl rfl (by decide) rfl rfl (da_cons de_int (da_cons (de_add de_int (de_len (by rfl) T.n_len (da_cons (de_pv 0) da_nil))) da_nil)) (by rfl))) (pss_cons (DS.ps (W := ⟨fun _ _ _ _ => False, fun _ _ _ _ => True⟩) (ds_for (Ctx.passes rfl) (by rfl) (di_list (de_slice (de_pv 0) do_none (do_some de_int))) (dg_name (i := 3) sc__law_opened.nd rfl (by first | exact Or.inl rfl | exact Or.inr rfl)) (dss_one (ds_if (dt_lt (de_abs (by rfl) T.n_abs (da_cons (de_pv 3) da_nil)) (de_pow de_int de_int)) (dss_one (ds_set (i := 2) sc__law_opened.nd rfl (by first | exact Or.inl rfl | exact Or.inr rfl) (de_mod (de_add (de_add (de_mul (de_pv 2) de_int) (de_mul de_int (de_abs (by rfl) T.n_abs (da_cons (de_pv 3) da_nil)))) (de_intC (by rfl) T.n_int (da_cons (de_lt (de_pv 3) de_int) da_nil))) de_int))) (dss_one (ds_if (dt_eq cx.u (de_pv 1) de_int) (dss_one (ds_set (i := 1) sc__law_opened.nd rfl (by first | exact Or.inl rfl | exact Or.inr rfl) (de_abs (by rfl) T.n_abs (da_cons (de_pv 3) da_nil)))) dss_nil))))))
      (pss_one (ps_ret (pe_disp (pps_cons pe_str (pv 1) (pps_cons pe_str (pv 2) (pps_cons pe_str pe_int pps_nil))) (by rfl) (by rfl) (fun z => by cases z) (by show 3 ≤ 15; decide))))), ?_⟩
    have nol : ∀ {u : Nat} {G : Gm} {τ : DL.Env} {ts : L2.St}, Link K mg ⟨fun _ _ _ _ => False, fun _ _ _ _ => True⟩ u G τ ts (fun _ _ => False) := fun _ _ _ _ _ _ _ _ _ _ _ _ _ _ z => z
    have nb : ∀ {x y z : Option DV}, (∀ t, x = some t → t.isBor = false) → (∀ t, y = some t → t.isBor = false) → (∀ t, z = some t → t.isBor = false) → NoBor ([some (.scr ns), x, y, z] ++ []) := fun {x y z} h1 h2 h3 i t e => by
      match i, e with
      | 0, e => cases e; rfl
      | 1, e => simp at e; exact h1 t e
      | 2, e => simp at e; exact h2 t e
      | 3, e => simp at e; exact h3 t e
      | i + 4, e => simp at e
    have no0 : ∀ t, (none : Option DV) = some t → t.isBor = false := fun t e => by cases e
    have noI : ∀ {i : Int} t, some (DV.d (.int i)) = some t → t.isBor = false := fun t e => by cases e; rfl
    have last : ∀ (g z : Int) (σ : L2.St) (F1 H1 : Hp) (a3 : Option DV) (G : Gm), σ.length = 4 → 0 ≤ z → z < 2 ^ 63 → Good G F1 [some (.scr ns), some (.d (.int g)), some (.d (.int z)), a3] σ H1 → (tDisp [(tC (.str "great"), tVar 1), (tC (.str "small"), tVar 2), (tC (.str "drawn"), tC (.int 0))]) σ H1 Q := fun g z σ F1 H1 a3 G hl q0 q1 gg => by
      obtain ⟨v1, e1, h1⟩ := gg.sl 1 _ rfl
      obtain ⟨v2, e2, h2⟩ := gg.sl 2 _ rfl
      cases int_of h1
      cases int_of h2
      have n1 : ("great" : Str) ≠ "small" := by decide +kernel
      have n2 : ("great" : Str) ≠ "drawn" := by decide +kernel
      have n3 : ("small" : Str) ≠ "drawn" := by decide +kernel
      intro p hp
      refine ⟨.int g, e1, .int z, e2, upd_same, [(.inr "great", .int g), (.inr "small", .int z), (.inr "drawn", .int 0)], rfl, by show 3 ≤ 15; decide, ?_⟩
      refine k p _ ⟨g, z, 0, ?_, q0, q1, Int.le_refl _, Int.le_refl _⟩
      rw [upd_same]
      simp [mergeK, putK, bagK, n1, n2, n3, n1.symm, n2.symm, n3.symm]
    refine ⟨fun _ _ => False, _, _, [some (.scr ns), none, none, none], [], [], ⟨fun δ => ∃ (g z : Int), δ = [some (.scr ns), some (.d (.int g)), some (.d (.int z)), none] ∧ 0 ≤ z ∧ z < 2 ^ 63, fun _ => False, fun _ => False, fun _ => False, fun _ _ => False⟩, ⟨rfl, rfl, rfl, good_script hS 3 0, nol, trivial, Nat.le_refl _⟩, nb no0 no0 no0, ⟨?_, fun _ z => z.elim, fun _ z => z.elim, fun _ z => z.elim, fun _ _ z => z.elim⟩, ?_⟩
    · rintro δ ⟨g, z, rfl, z0, z1⟩ b σ F1 H1 hb hl1 nb1 g1
      cases Nat.le_zero.mp hb
      have g1' := g1
      simp only [List.append_nil] at g1'
      refine ⟨fun _ _ => False, _, F1, [some (.scr ns), some (.d (.int g)), some (.d (.int z)), none], [], [], ⟨fun δ => ∃ (g z : Int) (a3 : Option DV), δ = [some (.scr ns), some (.d (.int g)), some (.d (.int z)), a3] ∧ 0 ≤ z ∧ z < 2 ^ 63, fun _ => False, fun _ => False, fun _ => False, fun _ _ => False⟩, ⟨rfl, hl1, rfl, by simpa using g1', nol, trivial, Nat.le_refl _⟩, nb noI noI no0, ⟨?_, fun _ z => z.elim, fun _ z => z.elim, fun _ z => z.elim, fun _ _ z => z.elim⟩, ?_⟩
      · rintro δ ⟨g, z, a3, rfl, z0, z1⟩ b σ F1 H1 hb hl1 nb1 g1
        simp only [List.append_nil] at g1
        exact last g z σ F1 H1 a3 _ hl1.symm z0 z1 g1
      · walk_at "dl"
        have e62 : cutD (ns.map PyData.int) none (some 62) = (ns.take 62).map PyData.int := by rw [cut_pre (by decide), List.map_take]; rfl
        rw [e62]
        refine ⟨by simp [DV.isBor], ?_⟩
        refine for_ind (fun ds δ => (∃ ms : List Int, ds = ms.map PyData.int) ∧ ∃ (g z : Int) (a3 : Option DV), δ = [some (.scr ns), some (.d (.int g)), some (.d (.int z)), a3] ∧ 0 ≤ z ∧ z < 2 ^ 63) ?_ ?_ _ _ ⟨⟨_, rfl⟩, g, z, none, rfl, z0, z1⟩
        · rintro δ ⟨_, g, z, a3, rfl, z0, z1⟩
          exact ⟨g, z, a3, rfl, z0, z1⟩
        · rintro x ds δ Kn ⟨⟨ms, hms⟩, g, z, a3, rfl, z0, z1⟩ hK
          cases ms with
          | nil => cases hms
          | cons n ms =>
            obtain ⟨rfl, rfl⟩ := List.cons.inj hms
            walk_at "dx"
            have m0 := Int.emod_nonneg ((z * 524287 + 2 * if n < 0 then -n else n) + if n < 0 then 1 else 0) (show (9223372036854775783 : Int) ≠ 0 by decide)
            have m1 := Int.emod_lt_of_pos ((z * 524287 + 2 * if n < 0 then -n else n) + if n < 0 then 1 else 0) (show (0 : Int) < 9223372036854775783 by decide)
            generalize ((z * 524287 + 2 * if n < 0 then -n else n) + if n < 0 then 1 else 0) % 9223372036854775783 = A at m0 m1 ⊢
            exact ⟨fun _ => ⟨.inr ⟨by decide, by decide⟩, .inl ⟨by decide, by decide⟩, by decide, hK _ ⟨⟨ms, rfl⟩, _, A, _, rfl, m0, by omega⟩⟩, fun _ => ⟨fun _ => hK _ ⟨⟨ms, rfl⟩, _, z, _, rfl, z0, z1⟩, fun _ => hK _ ⟨⟨ms, rfl⟩, _, z, _, rfl, z0, z1⟩⟩⟩
    · walk_at "dl"
      exact ⟨_, _, rfl, by omega, by omega⟩
theorem d__law_take {f : Addr} {fd : FuncData} (T : Txt K mg) (hm : mg "_law_take" = some (.ref f)) (F0 : L2.Fun K "_law_take" "_law_take" s__law_take f fd) (hb : Binds K fd ["_law_bag", "_law_many"] []) : DFn P w K mg base CK "_law_take" 1 1 2 mf__law_take := by
  refine ⟨f, fd, _, hm, F0.kp, hb, rfl, fnG_of F0 sc__law_take (fun vs H Q E q => q.1) fun cdv A outer s H vs Q E hg hr q => ?_⟩
  obtain ⟨hn, G, F, as, R, ex, hK, ⟨⟨c, hC, hcv, hJ, hlim⟩, hnu⟩, hl, harg, g, ⟨m, rfl, hm0, hm1, hR⟩, hQ, hE⟩ := q
  obtain ⟨v1, v2, rfl, h1, h2, _⟩ := two_of (A := []) (A' := []) hl (by simpa using g)
  have e1 : v1 = .ref c := by rw [← hcv]; exact h1
  subst e1
  cases int_of h2
  have hj := g.jh
  rw [hJ] at hj
  obtain ⟨gr, sm, dn, hc, hs0, hs1, hd0, hd1⟩ := hj
  have hdl : dn ≤ 2 ^ 40 := by rw [hlim] at hnu; omega
  have hu := hu_of hr
  have hu64 := hr.units
  have hu1 := Nat.lt_of_le_of_lt (Nat.add_le_add_left (show 1 ≤ 64 by decide) _) hr.units
  have n1 : ("great" : Str) ≠ "small" := by decide +kernel
  have n2 : ("great" : Str) ≠ "drawn" := by decide +kernel
  have n3 : ("small" : Str) ≠ "drawn" := by decide +kernel
  refine ⟨_, pss_cons (ps_if (pt_cmpR op_gt (pe_dget hu1 (pv 0) pe_str (fun _ _ => rfl)) pe_int (nomark _))
      (pss_cons (ps_set (i := 2) sc__law_take.nd rfl (Or.inl rfl) (pe_op op_mod (pe_dget hu1 (pv 0) pe_str (fun _ _ => rfl)) (pv 1)))
      (pss_cons (ps_dput hu1 (pv 0) pe_str (pe_op op_fdivW (pe_dget hu1 (pv 0) pe_str (fun _ _ => rfl)) (pv 1)) (by rfl))
      (pss_one (ps_ret (pv 2))))) pss_nil)
    (pss_cons (ps_set (i := 3) sc__law_take.nd rfl (Or.inl rfl) (pe_op op_add (pe_dget hu1 (pv 0) pe_str (fun _ _ => rfl)) pe_int))
    (pss_cons (ps_dput hu1 (pv 0) pe_str (pv 3) (by rfl))
    (pss_cons (ps_set (i := 4) sc__law_take.nd rfl (Or.inl rfl) (pe_op op_mod (pe_op op_mul (pe_op op_add (pe_dget hu1 (pv 0) pe_str (fun _ _ => rfl)) (pe_op op_mul pe_int (pv 3))) (pe_op op_add (pe_op op_mul pe_int (pv 3)) pe_int)) pe_int))
    (pss_cons (ps_set (i := 4) sc__law_take.nd rfl (Or.inl rfl) (pe_op op_mod (pe_op op_mul (pv 4) (pv 4)) pe_int))
    (pss_one (ps_ret (pe_op op_mod (pe_op op_fdivW (pe_op op_mod (pe_op op_mul (pv 4) (pe_op op_add (pe_op op_mod (pv 4) pe_int) pe_int)) pe_int) pe_int) (pv 1)))))))), ?_⟩
  have fin : ∀ (H' : Hp) (gr' sm' dn' : Int) (r : Int), H' c = some (.dK (bagK gr' sm' dn')) → 0 ≤ sm' → sm' < 2 ^ 63 → 0 ≤ dn' → dn' ≤ G.n + 1 → (∀ p, p ≠ c → ∀ o, H p = some o → H' p = some o) → 0 ≤ r → r < m → Q (.int r) H' := fun H' gr' sm' dn' r q1 q2 q3 q4 q4' q5 q6 q7 => by
    refine hQ (.d (.int r)) (hR r q6 q7) rfl (.int r) F H' ?_
    have g0 : Good (G.up 1) F ([] : DL.Env) ([] : L2.St) H' := g.draw (k := 1) (fun p np o e => by
      rw [hC] at np
      exact q5 p np o e) (by
      rw [hJ]
      exact ⟨gr', sm', dn', q1, q2, q3, q4, by push_cast; exact q4'⟩)
    exact Good.pushD (δ := []) (σ := []) g0 (.int r)
  have gG : ∀ {H' : Hp} {g s d : Int}, H' c = some (.dK (bagK g s d)) → DGet H' c (.str "great") (some (.int g)) := fun {H' g s d} e => by
    have := DGet.k (k := .inr "great") e
    rwa [show valV (bagK g s d) (.inr "great") = some (.int g) from rfl] at this
  have gS : ∀ {H' : Hp} {g s d : Int}, H' c = some (.dK (bagK g s d)) → DGet H' c (.str "small") (some (.int s)) := fun {H' g s d} e => by
    have := DGet.k (k := .inr "small") e
    rwa [show valV (bagK g s d) (.inr "small") = some (.int s) by simp [valV, bagK, n1, n2, n3]] at this
  have gD : ∀ {H' : Hp} {g s d : Int}, H' c = some (.dK (bagK g s d)) → DGet H' c (.str "drawn") (some (.int d)) := fun {H' g s d} e => by
    have := DGet.k (k := .inr "drawn") e
    rwa [show valV (bagK g s d) (.inr "drawn") = some (.int d) by simp [valV, bagK, n1, n2, n3]] at this
  refine ⟨.ref c, rfl, c, .int gr, rfl, gG hc, gr, 0, rfl, rfl, _, rfl, ?_⟩
  refine ite2 (fun c0 => ?_) (fun c0 => ?_)
  · refine ⟨.ref c, rfl, c, .int gr, rfl, gG hc, .int m, rfl, gr, m, rfl, rfl, hm0, ?_⟩
    refine ⟨.ref c, rfl, c, .int gr, rfl, gG hc, .int m, rfl, gr, m, rfl, rfl, cdiv hm0 hm1, ?_⟩
    refine ⟨.ref c, rfl, c, _, rfl, DPut.k (k := .inr "great") hc (by show 3 < sizeLine; decide), ?_⟩
    refine ⟨.int (gr % m), rfl, ?_⟩
    refine fin _ (gr / m) sm dn _ (by rw [upd_same]; rfl) hs0 hs1 hd0 (by omega) (fun p np o e => by rw [upd_ne np]; exact e) (Int.emod_nonneg _ (by omega)) (Int.emod_lt_of_pos _ hm0)
  · refine ⟨.ref c, rfl, c, .int dn, rfl, gD hc, dn, 1, rfl, rfl, ?_⟩
    refine ⟨.int (dn + 1), rfl, .ref c, rfl, c, _, rfl, DPut.k (k := .inr "drawn") hc (by show 3 < sizeLine; decide), ?_⟩
    obtain ⟨H2, hH2⟩ : ∃ H2, H2 = upd H c (.dK (putK (bagK gr sm dn) (.inr "drawn") (.int (dn + 1)))) := ⟨_, rfl⟩
    rw [← hH2]
    have y1 : H2 c = some (.dK (bagK gr sm (dn + 1))) := by rw [hH2, upd_same]; simp [putK, bagK, n1, n2, n3]
    have y2 : ∀ p, p ≠ c → ∀ o, H p = some o → H2 p = some o := fun p np o e => by rw [hH2, upd_ne np]; exact e
    refine ⟨.ref c, rfl, c, .int sm, rfl, gS y1, .int (dn + 1), rfl, 40503, dn + 1, rfl, rfl, .inl ⟨by decide, by decide⟩, sm, _, rfl, rfl, .int (dn + 1), rfl, 2, dn + 1, rfl, rfl, .inl ⟨by decide, by decide⟩, _, 131071, rfl, rfl, _, _, rfl, rfl, .inl ⟨by omega, by omega⟩, _, 9223372036854775783, rfl, rfl, (by show (0 : Int) < _; decide), ?_⟩
    show gName _ (.int ((sm + 40503 * (dn + 1)) * (2 * (dn + 1) + 131071) % 9223372036854775783)) _ _ _
    have a0 := Int.emod_nonneg ((sm + 40503 * (dn + 1)) * (2 * (dn + 1) + 131071)) (show (9223372036854775783 : Int) ≠ 0 by decide)
    have a1 := Int.emod_lt_of_pos ((sm + 40503 * (dn + 1)) * (2 * (dn + 1) + 131071)) (show (0 : Int) < 9223372036854775783 by decide)
    generalize (sm + 40503 * (dn + 1)) * (2 * (dn + 1) + 131071) % 9223372036854775783 = A at a0 a1 ⊢
    refine ⟨.int A, rfl, .int A, rfl, A, A, rfl, rfl, .inl ⟨by omega, by omega⟩, _, 9223372036854775783, rfl, rfl, (by show (0 : Int) < _; decide), ?_⟩
    show gName _ (.int (A * A % 9223372036854775783)) _ _ _
    have b0 := Int.emod_nonneg (A * A) (show (9223372036854775783 : Int) ≠ 0 by decide)
    have b1 := Int.emod_lt_of_pos (A * A) (show (0 : Int) < 9223372036854775783 by decide)
    generalize A * A % 9223372036854775783 = B at b0 b1 ⊢
    refine ⟨.int B, rfl, .int B, rfl, B, 65521, rfl, rfl, (by show (0 : Int) < _; decide), _, 1, rfl, rfl, B, _, rfl, rfl, .inl ⟨by omega, by omega⟩, _, 9223372036854775783, rfl, rfl, (by show (0 : Int) < _; decide), _, 8192, rfl, rfl, cdiv (by decide) (by decide), .int m, rfl, _, m, rfl, rfl, hm0, ?_⟩
    exact fin H2 gr sm (dn + 1) _ y1 hs0 hs1 (by omega) (by omega) y2 (Int.emod_nonneg _ (by omega)) (Int.emod_lt_of_pos _ hm0)
/-- a row as it is taken -/
structure RowC (l : SRow) : Prop where
  i : Inc l
  n : l.length ≤ 64
  b : ∀ i, i < l.length → 0 ≤ pl l i ∧ pl l i ≤ 10000000000000 ∧ 1 ≤ ht l i ∧ ht l i ≤ 10000000000000
theorem sz_rowC {l : SRow} (h : RowC l) : Sz (rowD l) 2 (4 + 64 * (4 + 2 * (1922 + 2) + 2)) := by
  refine Sz.tup (fun x hx => ?_) (by rw [List.length_map]; exact h.n)
  obtain ⟨p, hp, rfl⟩ := List.mem_map.mp hx
  obtain ⟨i, hi, e1, e2⟩ := row_mem hp
  have := h.b i hi
  exact Sz.pair (Sz.int' ⟨by omega, by omega⟩) (Sz.int' ⟨by omega, by omega⟩)
structure RowG (l : SRow) (w pp : Int) : Prop where
  inc : ∀ i j, i < j → j < l.length → pl l i < pl l j
  lt : ∀ i, i < l.length → pl l i < pp
  b : ∀ i, i < l.length → 0 ≤ pl l i ∧ pl l i ≤ w + i * w ∧ 1 ≤ ht l i ∧ ht l i ≤ 10000000000000
theorem plA {l : SRow} {p : Int × Int} {i : Nat} (h : i < l.length) : pl (l ++ [p]) i = pl l i ∧ ht (l ++ [p]) i = ht l i := by
  unfold pl ht
  rw [List.getD_eq_getElem?_getD, List.getD_eq_getElem?_getD, List.getElem?_append_left h]
  exact ⟨rfl, rfl⟩
theorem plE {l : SRow} {p : Int × Int} : pl (l ++ [p]) l.length = p.1 ∧ ht (l ++ [p]) l.length = p.2 := by
  unfold pl ht
  rw [List.getD_eq_getElem?_getD, List.getElem?_append_right (Nat.le_refl _)]
  simp
theorem RowG.snoc {l : SRow} {w pp q h : Int} (r : RowG l w pp) (h0 : 0 ≤ pp) (h1 : pp ≤ w + l.length * w) (hq : pp < q) (h2 : 1 ≤ h) (h3 : h ≤ 10000000000000) : RowG (l ++ [(pp, h)]) w q := by
  refine ⟨fun i j a b => ?_, fun i a => ?_, fun i a => ?_⟩
  · rw [List.length_append, List.length_singleton] at b
    rw [(plA (p := (pp, h)) (show i < l.length by omega)).1]
    rcases Nat.lt_or_ge j l.length with c | c
    · rw [(plA c).1]; exact r.inc i j a c
    · have : j = l.length := by omega
      subst this
      rw [plE.1]
      exact r.lt i a
  · rw [List.length_append, List.length_singleton] at a
    rcases Nat.lt_or_ge i l.length with c | c
    · rw [(plA c).1]
      have := r.lt i c
      omega
    · have : i = l.length := by omega
      subst this
      rw [plE.1]
      exact hq
  · rw [List.length_append, List.length_singleton] at a
    rcases Nat.lt_or_ge i l.length with c | c
    · rw [(plA c).1, (plA c).2]
      exact r.b i c
    · have : i = l.length := by omega
      subst this
      rw [plE.1, plE.2]
      exact ⟨h0, h1, h2, h3⟩
theorem four_of {a b c d : PyData} {z : Int} (z0 : 0 ≤ z) (z1 : z < 4) : atI [a, b, c, d] z = some a ∨ atI [a, b, c, d] z = some b ∨ atI [a, b, c, d] z = some c ∨ atI [a, b, c, d] z = some d := by
  have : z = 0 ∨ z = 1 ∨ z = 2 ∨ z = 3 := by omega
  rcases this with rfl | rfl | rfl | rfl
  · exact .inl rfl
  · exact .inr (.inl rfl)
  · exact .inr (.inr (.inl rfl))
  · exact .inr (.inr (.inr rfl))
def mf__law_stones : MF := fun as R _ => ∃ n w : Int, as = [.cask, .d (.int n), .d (.int w)] ∧ 0 < n ∧ n ≤ 64 ∧ 0 < w ∧ w ≤ 100000000000 ∧ ∀ l, RowC l → (l.length : Int) ≤ n → R (.d (rowD l))
theorem d__law_stones {f : Addr} {fd : FuncData} (T : Txt K mg) (hm : mg "_law_stones" = some (.ref f)) (F0 : L2.Fun K "_law_stones" "_law_stones" s__law_stones f fd) (hb : Binds K fd ["_law_bag", "_law_bound", "_law_wide"] []) (F__law_take : DFn P w K mg base CK "_law_take" 1 1 2 mf__law_take) : DFn P w K mg base CK "_law_stones" 2 323 3 mf__law_stones :=
  (dfn_of hm F0 hb sc__law_stones (fun cdv A outer s H E cx =>
 (dss_cons (ds_par2 (i := 3) (j := 4) (by rfl) sc__law_stones.nd rfl rfl (by decide) rfl rfl (da_cons (de_add de_int (de_call cx F__law_take (by decide) (by rfl) (da_cons (de_pv 0) (da_cons (de_pv 1) da_nil)))) (da_cons (de_call cx F__law_take (by decide) (by rfl) (da_cons (de_pv 0) (da_cons de_int da_nil))) da_nil)) (by rfl))
 (dss_cons (ds_set (i := 5) sc__law_stones.nd rfl (by first | exact Or.inl rfl | exact Or.inr rfl) (de_ix (de_lst (da_cons de_int (da_cons de_int (da_cons de_int (da_cons (de_pv 2) da_nil))))) (de_pv 4)))
 (dss_cons (ds_par2 (i := 6) (j := 7) (by rfl) sc__law_stones.nd rfl rfl (by decide) rfl rfl (da_cons (de_lst da_nil) (da_cons (de_call cx F__law_take (by decide) (by rfl) (da_cons (de_pv 0) (da_cons (de_pv 5) da_nil))) da_nil)) (by rfl))
 (dss_cons (ds_forN 64 (Ctx.passes rfl) (by rfl) (di_range1 (by rfl) T.n_range (da_cons (de_pv 3) da_nil)) (dg_name (i := 8) sc__law_stones.nd rfl (by first | exact Or.inl rfl | exact Or.inr rfl)) (dss_cons (ds_set (i := 9) sc__law_stones.nd rfl (by first | exact Or.inl rfl | exact Or.inr rfl) (de_lst (da_cons de_int (da_cons (de_add de_int (de_call cx F__law_take (by decide) (by rfl) (da_cons (de_pv 0) (da_cons (de_pv 5) da_nil)))) (da_cons (de_add de_int (de_call cx F__law_take (by decide) (by rfl) (da_cons (de_pv 0) (da_cons (de_mul de_int (de_pv 5)) da_nil)))) (da_cons (de_add de_int (de_call cx F__law_take (by decide) (by rfl) (da_cons (de_pv 0) (da_cons (de_mul (de_pv 3) (de_pv 5)) da_nil)))) da_nil))))))
 (dss_cons (ds_mut PySem.F.slot_list_append PySem.F.type_list_append mt_append mut_app (pv 6) (da_cons (de_tup (da_cons (de_pv 7) (da_cons (de_ix (de_pv 9) (de_call cx F__law_take (by decide) (by rfl) (da_cons (de_pv 0) (da_cons de_int da_nil)))) da_nil))) da_nil))
 (dss_one (ds_set (i := 7) sc__law_stones.nd rfl (by first | exact Or.inl rfl | exact Or.inr rfl) (de_add (de_add (de_pv 7) de_int) (de_call cx F__law_take (by decide) (by rfl) (da_cons (de_pv 0) (da_cons (de_pv 5) da_nil)))))))))
 (dss_one (ds_ret (de_tupleC (by rfl) T.n_tuple (da_cons (de_pv 6) da_nil)))))))))
  (by
    rintro as R ex hl ⟨n, w, rfl, n0, n1, w0, w1, h⟩
    walk_at "dx"
    refine ⟨n, rfl, by omega, by omega, fun r r0 r1 => ?_⟩
    walk_at "dx"
    refine ⟨4, rfl, by decide, by decide, fun q q0 q1 => ?_⟩
    have q1 : q < 4 := q1
    walk_at "dx"
    refine ⟨by walk_at "lim", ?_⟩
    obtain ⟨t, ht, t0, t1⟩ : ∃ t : Int, atI [PyData.int 3, .int 9, .int 2, .int w] q = some (.int t) ∧ 1 ≤ t ∧ t ≤ 100000000000 := by
      rcases four_of (a := .int 3) (b := .int 9) (c := .int 2) (d := .int w) q0 q1 with e | e | e | e
      · exact ⟨3, e, by omega, by omega⟩
      · exact ⟨9, e, by omega, by omega⟩
      · exact ⟨2, e, by omega, by omega⟩
      · exact ⟨w, e, by omega, by omega⟩
    rw [ht]
    walk_at "dx"
    refine ⟨by walk_at "lim", t, rfl, by omega, by omega, fun z z0 z1 => ?_⟩
    refine ⟨rfl, by omega, by omega, by rw [rangeD_len]; omega, ?_⟩
    obtain ⟨nn, hnn⟩ : ∃ nn : Nat, (1 + r : Int) = (nn : Nat) := ⟨(1 + r).toNat, by omega⟩
    rw [hnn, Int.toNat_natCast]
    refine for_range (fun k δ => ∃ (l : SRow) (pp : Int) (a b : Option DV), δ = [some .cask, some (.d (.int n)), some (.d (.int w)), some (.d (.int (nn : Nat))), some (.d (.int q)), some (.d (.int t)), some (.own (l.map stD)), some (.d (.int pp)), a, b] ∧ l.length = k ∧ RowG l t pp ∧ 0 ≤ pp ∧ pp ≤ t + k * t) ⟨[], z, none, none, rfl, rfl, ⟨fun i j a b => by simp at b, fun i a => by simp at a, fun i a => by simp at a⟩, z0, by omega⟩ ?_ ?_
    · rintro δ ⟨l, pp, a, b, rfl, hk, hb, h0, h1⟩
      walk_at "dx"
      refine h l ⟨⟨by omega, by omega, hb.inc, fun i hi => by have := hb.b i hi; omega⟩, by omega, fun i hi => ?_⟩ (by omega)
      have h1 := hb.b i hi
      have h3 : (i : Int) * t ≤ 64 * 100000000000 := Int.mul_le_mul (by omega) t1 (by omega) (by decide)
      omega
    · rintro k δ K hk ⟨l, pp, a, b, rfl, hlk, hb, h0, h1⟩ hK
      have hsz : (l.map stD).length < sizeLine := by walk_at "lim"
      have hnt : (nn : Int) * t ≤ 64 * 100000000000 := Int.mul_le_mul (by omega) t1 (by omega) (by decide)
      have hnt0 : 0 < (nn : Int) * t := Int.mul_pos (by omega) (by omega)
      walk_at "dx"
      refine ⟨t, rfl, by omega, by omega, fun ra ra0 ra1 => ?_⟩
      walk_at "dx"
      refine ⟨.inl ⟨by decide, by decide⟩, 3 * t, rfl, by omega, by omega, fun rb rb0 rb1 => ?_⟩
      walk_at "dx"
      refine ⟨.inr ⟨by omega, by omega⟩, (nn : Int) * t, rfl, hnt0, by omega, fun rc rc0 rc1 => ?_⟩
      walk_at "dx"
      refine ⟨by walk_at "lim", 4, rfl, by decide, by decide, fun rd rd0 rd1 => ?_⟩
      have rd1 : rd < 4 := rd1
      obtain ⟨hh, hx, hh1, hh2⟩ : ∃ hh : Int, atI [PyData.int 1, .int (1 + ra), .int (1 + rb), .int (1 + rc)] rd = some (.int hh) ∧ 1 ≤ hh ∧ hh ≤ 10000000000000 := by
        rcases four_of (a := .int 1) (b := .int (1 + ra)) (c := .int (1 + rb)) (d := .int (1 + rc)) rd0 rd1 with e | e | e | e
        · exact ⟨1, e, by omega, by omega⟩
        · exact ⟨1 + ra, e, by omega, by omega⟩
        · exact ⟨1 + rb, e, by omega, by omega⟩
        · exact ⟨1 + rc, e, by omega, by omega⟩
      walk_at "dx"
      rw [hx]
      walk_at "dx"
      rw [if_pos hsz]
      refine ⟨by walk_at "lim", t, rfl, by omega, by omega, fun re re0 re1 => ?_⟩
      walk_at "dx"
      refine hK _ ⟨l ++ [(pp, hh)], pp + 1 + re, _, _, by rw [List.map_append]; rfl, by simp [hlk], hb.snoc h0 (by rw [hlk]; exact h1) (by omega) hh1 hh2, by omega, ?_⟩
      have e : ((k + 1 : Nat) : Int) * t = k * t + t := by push_cast; rw [Int.add_mul, Int.one_mul]
      rw [e]
      omega)).le (by decide +kernel)
/-- what can be asked for sameness with itself, of depth below n -/
def Alk : Nat → PyData → Prop
  | 0, _ => False
  | n + 1, .list xs => xs.length ≤ 5000 ∧ ∀ x ∈ xs, Alk n x
  | n + 1, .tuple xs => xs.length ≤ 5000 ∧ ∀ x ∈ xs, Alk n x
  | n + 1, .dict xs => xs = []
  | n + 1, _ => True
theorem alk_succ : ∀ (n : Nat) (x : PyData), Alk n x → Alk (n + 1) x
  | 0, _, h => h.elim
  | n + 1, .list xs, h => ⟨h.1, fun x hx => alk_succ n x (h.2 x hx)⟩
  | n + 1, .tuple xs, h => ⟨h.1, fun x hx => alk_succ n x (h.2 x hx)⟩
  | n + 1, .dict xs, h => h
  | n + 1, .none, _ => trivial
  | n + 1, .bool _, _ => trivial
  | n + 1, .int _, _ => trivial
  | n + 1, .str _, _ => trivial
theorem alk_mono {n m : Nat} {x : PyData} (h : n ≤ m) (hx : Alk n x) : Alk m x := by
  induction h with
  | refl => exact hx
  | step _ ih => exact alk_succ _ _ ih
def mf__law_same : Nat → MF := fun fu as R _ => ∃ x : PyData, as = [.d x, .d x] ∧ Alk fu x ∧ R (.d (.bool true))
theorem z__law_same : ∀ as R ex, ¬ (mf__law_same 0 as R ex) := fun as R ex h => by
  obtain ⟨x, _, h, _⟩ := h
  exact h
theorem eqk_b {b : Bool} {R : DV → Prop} (h : R (.d (.bool true))) : oEqK (.d (.bool b)) (.d (.bool b)) R := .inr (by
  walk_at "dx"
  rw [decide_eq_true trivial]
  exact h)
theorem eqk_i {b : Int} {R : DV → Prop} (h : R (.d (.bool true))) : oEqK (.d (.int b)) (.d (.int b)) R := .inr (by
  walk_at "dx"
  rw [decide_eq_true trivial]
  exact h)
theorem eqk_s {b : Str} {R : DV → Prop} (h : R (.d (.bool true))) : oEqK (.d (.str b)) (.d (.str b)) R := .inr (by
  walk_at "dx"
  rw [eqv_same]
  exact h)
theorem eqk_n {R : DV → Prop} (h : R (.d (.bool true))) : oEqK (.d .none) (.d .none) R := .inr (by
  walk_at "dx"
  exact h)
theorem st__law_same (fu : Nat) {f : Addr} {fd : FuncData} (T : Txt K mg) (hm : mg "_law_same" = some (.ref f)) (F0 : L2.Fun K "_law_same" "_law_same" s__law_same f fd) (hb : Binds K fd ["_law_one", "_law_other"] []) (F__law_same : DFn P w K mg base CK "_law_same" (2 + fu) 0 2 (mf__law_same fu)) : DFn P w K mg base CK "_law_same" (2 + fu + 1) 0 2 (mf__law_same (fu + 1)) :=
  (dfn_of hm F0 hb sc__law_same (fun cdv A outer s H E cx =>
 (dss_cons (ds_if (DW.dt (dw_and (dt_val (de_isi2 (T1 := "list") (T2 := "tuple") (by decide) (by decide) (by rfl) T.n_isinstance (de_pv 0) (by rfl) T.n_list (by decide +kernel) (by rfl) T.n_tuple (by decide +kernel))) (dw_and1 (dt_val (de_isi2 (T1 := "list") (T2 := "tuple") (by decide) (by decide) (by rfl) T.n_isinstance (de_pv 1) (by rfl) T.n_list (by decide +kernel) (by rfl) T.n_tuple (by decide +kernel)))))) (dss_cons (ds_if (DW.dt (dw_or (dt_ne cx.u (de_isi (by rfl) T.n_isinstance (da_cons (de_pv 0) (da_cons (de_ty (T := "list") (by rfl) T.n_list (by decide +kernel)) da_nil))) (de_isi (by rfl) T.n_isinstance (da_cons (de_pv 1) (da_cons (de_ty (T := "list") (by rfl) T.n_list (by decide +kernel)) da_nil)))) (dw_or1 (dt_ne cx.u (de_len (by rfl) T.n_len (da_cons (de_pv 0) da_nil)) (de_len (by rfl) T.n_len (da_cons (de_pv 1) da_nil)))))) (dss_one (ds_ret de_bl)) dss_nil)
 (dss_one (ds_ret (de_eq cx.u (de_lc (own := [("_law_k", 2)]) (dom := [2]) (by rfl) sc__law_same.nd (di_range1 (by rfl) T.n_range (da_cons (de_len (by rfl) T.n_len (da_cons (de_pv 0) da_nil)) da_nil)) (blkOk_by (by kernel_rfl)) (by decide) (fun _ _ _ _ _ => (dg_name (i := 2) sc__law_same.nd rfl (by first | exact Or.inl rfl | exact Or.inr rfl))) (fun _ _ _ _ _ => (dts_one (dt_not (dt_val (de_call cx.blk F__law_same (by first | decide | omega) (by rfl) (da_cons (de_ix (de_pv 0) (de_pv 2)) (da_cons (de_ix (de_pv 1) (de_pv 2)) da_nil))))))) (fun _ _ _ _ _ => (de_pv 2))) (de_lst da_nil))))) dss_nil)
 (dss_cons (ds_if (DW.dt (dw_or (dt_ne cx.u (de_isi (by rfl) T.n_isinstance (da_cons (de_pv 0) (da_cons (de_ty (T := "bool") (by rfl) T.n_bool (by decide +kernel)) da_nil))) (de_isi (by rfl) T.n_isinstance (da_cons (de_pv 1) (da_cons (de_ty (T := "bool") (by rfl) T.n_bool (by decide +kernel)) da_nil)))) (dw_or1 (dt_ne cx.u (de_isi (by rfl) T.n_isinstance (da_cons (de_pv 0) (da_cons (de_ty (T := "int") (by rfl) T.n_int (by decide +kernel)) da_nil))) (de_isi (by rfl) T.n_isinstance (da_cons (de_pv 1) (da_cons (de_ty (T := "int") (by rfl) T.n_int (by decide +kernel)) da_nil))))))) (dss_one (ds_ret de_bl)) dss_nil)
 (dss_one (ds_ret (de_and (de_eqK cx.u (de_isi (by rfl) T.n_isinstance (da_cons (de_pv 0) (da_cons (de_ty (T := "str") (by rfl) T.n_str (by decide +kernel)) da_nil))) (de_isi (by rfl) T.n_isinstance (da_cons (de_pv 1) (da_cons (de_ty (T := "str") (by rfl) T.n_str (by decide +kernel)) da_nil)))) (de_and (de_eqK cx.u (de_is (de_pv 0) de_non) (de_is (de_pv 1) de_non)) (de_one (de_eqK cx.u (de_pv 0) (de_pv 1))))))))))
  (by
    rintro as R ex hl ⟨x, rfl, hx, h⟩
    have t1 : "list" ∈ tys := by decide
    have t2 : "bool" ∈ tys := by decide
    have t3 : "int" ∈ tys := by decide
    have t4 : "str" ∈ tys := by decide
    cases x with
    | none =>
      walk_at "dx"
      rw [show (isTy (.none) "list" || isTy (.none) "tuple") = false from rfl]
      refine ⟨fun c => (by cases c), fun _ => ⟨t2, t2, fun c => absurd trivial c, t3, t3, fun c => absurd trivial c, t4, t4, ?_⟩⟩
      refine eqk_b ?_
      walk_at "dx"
      cases isTy (.none) "str" <;> (refine eqk_b ?_; walk_at "dx"; exact eqk_n h)
    | bool b =>
      walk_at "dx"
      rw [show (isTy (.bool b) "list" || isTy (.bool b) "tuple") = false from rfl]
      refine ⟨fun c => (by cases c), fun _ => ⟨t2, t2, fun c => absurd trivial c, t3, t3, fun c => absurd trivial c, t4, t4, ?_⟩⟩
      refine eqk_b ?_
      walk_at "dx"
      cases isTy (.bool b) "str" <;> (refine eqk_b ?_; walk_at "dx"; exact eqk_b h)
    | int i =>
      walk_at "dx"
      rw [show (isTy (.int i) "list" || isTy (.int i) "tuple") = false from rfl]
      refine ⟨fun c => (by cases c), fun _ => ⟨t2, t2, fun c => absurd trivial c, t3, t3, fun c => absurd trivial c, t4, t4, ?_⟩⟩
      refine eqk_b ?_
      walk_at "dx"
      cases isTy (.int i) "str" <;> (refine eqk_b ?_; walk_at "dx"; exact eqk_i h)
    | str x =>
      walk_at "dx"
      rw [show (isTy (.str x) "list" || isTy (.str x) "tuple") = false from rfl]
      refine ⟨fun c => (by cases c), fun _ => ⟨t2, t2, fun c => absurd trivial c, t3, t3, fun c => absurd trivial c, t4, t4, ?_⟩⟩
      refine eqk_b ?_
      walk_at "dx"
      cases isTy (.str x) "str" <;> (refine eqk_b ?_; walk_at "dx"; exact eqk_s h)
    | list xs =>
      walk_at "dx"
      rw [show (isTy (.list xs) "list" || isTy (.list xs) "tuple") = true from rfl]
      refine ⟨fun _ => ⟨fun _ => ⟨t1, t1, fun c => absurd trivial c, fun c => absurd trivial c, by have := hx.1; omega, by have := hx.1; omega, ?_⟩, fun c => (by cases c)⟩, fun c => (by cases c)⟩
      refine lc_ind (fun _ => none) _ _ (fun d hd K1 K0 q1 q0 => ?_) (by rw [rangeD_len]; have := hx.1; simp only [List.length_nil]; walk_at "lim") ?_
      · obtain ⟨i, hi, rfl⟩ := List.mem_map.mp hd
        have hi := List.mem_range.mp hi
        walk_at "dx"
        rw [atI_nat (List.getElem?_eq_getElem hi)]
        walk_at "dx"
        refine ⟨_, rfl, hx.2 _ (List.getElem_mem hi), ?_⟩
        walk_at "dx"
        exact q0 rfl
      · rw [show (rangeD 0 xs.length).filterMap (fun _ => (none : Option PyData)) = [] by simp]
        walk_at "dx"
        rw [show PyData.eqv (.list []) (.list []) = true by decide +kernel]; exact ⟨by walk_at "lim", h⟩
    | tuple xs =>
      walk_at "dx"
      rw [show (isTy (.tuple xs) "list" || isTy (.tuple xs) "tuple") = true from rfl]
      refine ⟨fun _ => ⟨fun _ => ⟨t1, t1, fun c => absurd trivial c, fun c => absurd trivial c, by have := hx.1; omega, by have := hx.1; omega, ?_⟩, fun c => (by cases c)⟩, fun c => (by cases c)⟩
      refine lc_ind (fun _ => none) _ _ (fun d hd K1 K0 q1 q0 => ?_) (by rw [rangeD_len]; have := hx.1; simp only [List.length_nil]; walk_at "lim") ?_
      · obtain ⟨i, hi, rfl⟩ := List.mem_map.mp hd
        have hi := List.mem_range.mp hi
        walk_at "dx"
        rw [atI_nat (List.getElem?_eq_getElem hi)]
        walk_at "dx"
        refine ⟨_, rfl, hx.2 _ (List.getElem_mem hi), ?_⟩
        walk_at "dx"
        exact q0 rfl
      · rw [show (rangeD 0 xs.length).filterMap (fun _ => (none : Option PyData)) = [] by simp]
        walk_at "dx"
        rw [show PyData.eqv (.list []) (.list []) = true by decide +kernel]; exact ⟨by walk_at "lim", h⟩
    | dict xs =>
      cases (show xs = [] from hx)
      walk_at "dx"
      rw [show (isTy (.dict []) "list" || isTy (.dict []) "tuple") = false from rfl]
      refine ⟨fun c => (by cases c), fun _ => ⟨t2, t2, fun c => absurd trivial c, t3, t3, fun c => absurd trivial c, t4, t4, ?_⟩⟩
      refine eqk_b ?_
      walk_at "dx"
      simp only [oIsN]
      refine eqk_b ?_
      walk_at "dx"
      exact .inl ⟨rfl, rfl, h⟩)).le (by decide +kernel)
theorem d__law_same {f : Addr} {fd : FuncData} (T : Txt K mg) (hm : mg "_law_same" = some (.ref f)) (F0 : L2.Fun K "_law_same" "_law_same" s__law_same f fd) (hb : Binds K fd ["_law_one", "_law_other"] []) : DFn P w K mg base CK "_law_same" (7) 0 2 (mf__law_same 5) := by
  have all : ∀ fu : Nat, DFn P w K mg base CK "_law_same" (2 + fu) 0 2 (mf__law_same fu) := fun fu => by
    induction fu with
    | zero => exact DFn.void (ps := ["_law_one", "_law_other"]) hm F0 hb z__law_same
    | succ fu ih => exact st__law_same fu T hm F0 hb ih
  exact all 5
/-- the lower ends ascend too -/
theorem low_asc {l : SRow} (I : Inc l) : ∀ (q : List Nat) (s : Nat), s ≤ l.length → Pth (spG l) (2 * l.length) l.length (fwl l) s q → ∀ i a b, q[i]? = some a → q[i + 1]? = some b → (spG l a).1 < (spG l b).1
  | [], s, _, _, i, a, b, h, _ => by simp at h
  | k :: q, s, hs, ⟨hk, hq⟩, i, a, b, ha, hb => by
    have W := fw_of I
    obtain ⟨k1, k2, k3, k4⟩ := ch_mem.mp hk
    have hbk := W.lt k k1
    cases i with
    | succ i => exact low_asc I q _ (by omega) hq i a b (by simpa using ha) (by simpa using hb)
    | zero =>
      cases Option.some.inj ha
      cases q with
      | nil => simp at hb
      | cons m q =>
        have hb : m = b := by simpa using hb
        subst hb
        obtain ⟨m1, m2, m3, m4⟩ := ch_mem.mp hq.1
        rcases Nat.lt_or_ge (spG l k).1 (spG l m).1 with c | c
        · exact c
        · exfalso
          have hsn : s < l.length := by omega
          have := W.far m m1 s (by omega) (by omega)
          have := W.fl s hsn
          have := W.anti ((spG l m).2 + 1) (farE l s + 1) (by omega) (by omega)
          have := W.step s hsn
          omega
/-! ### the ways stand in order -/
inductive LexN : List Nat → List Nat → Prop
  | hd {a b : Nat} {x y : List Nat} : a < b → LexN (a :: x) (b :: y)
  | tl {a : Nat} {x y : List Nat} : LexN x y → LexN (a :: x) (a :: y)
theorem lex_lt {x y : List Nat} (h : LexN x y) : PySem.W.dataLt (.tuple (x.map puD)) (.tuple (y.map puD)) = true := by
  rw [PySem.W.dataLt_tuple]
  induction h with
  | hd h =>
    rw [List.map_cons, List.map_cons, PySem.W.dataLt_cons (pu_alike _ _), pu_eqv, if_neg (by rw [decide_eq_true_eq]; omega), pu_ltk]
    exact decide_eq_true h
  | tl _ ih =>
    rw [List.map_cons, List.map_cons, PySem.W.dataLt_cons (pu_alike _ _), pu_eqv, if_pos (decide_eq_true rfl)]
    exact ih
theorem flat_pw {R : List Nat → List Nat → Prop} {g : Nat → List (List Nat)} : ∀ {xs : List Nat}, xs.Pairwise (· < ·) → (∀ x ∈ xs, (g x).Pairwise R) → (∀ x ∈ xs, ∀ y ∈ xs, x < y → ∀ a ∈ g x, ∀ b ∈ g y, R a b) → (xs.flatMap g).Pairwise R
  | [], _, _, _ => List.Pairwise.nil
  | x :: xs, hp, h1, h2 => by
    obtain ⟨p1, p2⟩ := List.pairwise_cons.mp hp
    rw [List.flatMap_cons]
    refine List.pairwise_append.mpr ⟨h1 x (List.mem_cons_self ..), flat_pw p2 (fun y hy => h1 y (List.mem_cons_of_mem _ hy)) (fun y hy z hz => h2 y (List.mem_cons_of_mem _ hy) z (List.mem_cons_of_mem _ hz)), fun a ha b hb => ?_⟩
    obtain ⟨y, hy, hb⟩ := List.mem_flatMap.mp hb
    exact h2 x (List.mem_cons_self ..) y (List.mem_cons_of_mem _ hy) (p1 y hy) a ha b hb
theorem pth_lex {sp : Nat → Nat × Nat} {N : Nat} {fw : Nat → Nat} : ∀ t s, (pth sp N fw t s).Pairwise LexN
  | 0, s => List.pairwise_singleton _ _
  | t + 1, s => by
    unfold pth
    refine flat_pw (List.pairwise_lt_range.sublist List.filter_sublist) (fun x _ => List.Pairwise.map _ (fun a b h => .tl h) (pth_lex t _)) fun x _ y _ hxy a ha b hb => ?_
    obtain ⟨a', _, rfl⟩ := List.mem_map.mp ha
    obtain ⟨b', _, rfl⟩ := List.mem_map.mp hb
    exact .hd hxy
theorem path_lex {l : SRow} {i j : Nat} {x y : List Nat} (h : i < j) (hx : (pathL l 0)[i]? = some x) (hy : (pathL l 0)[j]? = some y) : LexN x y := by
  have hp : (pathL l 0).Pairwise LexN := pth_lex _ _
  obtain ⟨h1, e1⟩ := List.getElem?_eq_some_iff.mp hx
  obtain ⟨h2, e2⟩ := List.getElem?_eq_some_iff.mp hy
  have := List.pairwise_iff_getElem.mp hp i j h1 h2 h
  rw [e1, e2] at this
  exact this
theorem pu_inj {j k : Nat} (h : puD j = puD k) : j = k := by
  have e : PyData.eqv (puD j) (puD k) = true := by rw [h, pu_eqv]; exact decide_eq_true rfl
  rw [pu_eqv] at e
  exact of_decide_eq_true e
theorem pus_inj : ∀ {x y : List Nat}, x.map puD = y.map puD → x = y
  | [], [], _ => rfl
  | [], b :: y, h => by cases h
  | a :: x, [], h => by cases h
  | a :: x, b :: y, h => by
    obtain ⟨h1, h2⟩ := List.cons.inj h
    rw [pu_inj h1, pus_inj h2]
theorem alike_pus : ∀ (x y : List Nat), PySem.W.alikeAll (x.map puD) (y.map puD) = true
  | [], [] => by simp [PySem.W.alikeAll]
  | [], b :: y => by simp [PySem.W.alikeAll]
  | a :: x, [] => by simp [PySem.W.alikeAll]
  | a :: x, b :: y => by simp [PySem.W.alikeAll, pu_alike, alike_pus x y]
theorem alike_pusT (x y : List Nat) : PySem.W.alike (.tuple (x.map puD)) (.tuple (y.map puD)) = true := by simp [PySem.W.alike, alike_pus]
theorem dict_pus : ∀ x : List Nat, PyData.hasDictAll (x.map puD) = false
  | [] => by simp [PyData.hasDictAll]
  | a :: x => by simp [PyData.hasDictAll, dict_pus x, (pu_plain a).1]
theorem dict_pusT (x : List Nat) : PyData.hasDict (.tuple (x.map puD)) = false := by simp [PyData.hasDict, dict_pus]
theorem depth_pus : ∀ x : List Nat, PyData.depthAll (x.map puD) ≤ 2
  | [] => by simp [PyData.depthAll]
  | a :: x => by
    have h1 := depth_pus x
    have h2 : (puD a).depth ≤ 2 := by simp [puD, PyData.depth, PyData.depthAll]
    simp only [List.map_cons, PyData.depthAll]
    omega
theorem depth_pusT (x : List Nat) : PyData.depth (.tuple (x.map puD)) ≤ 60 := by
  have := depth_pus x
  simp only [PyData.depth]
  omega
theorem way_pos {l : SRow} (I : Inc l) : ∀ (m s : Nat), l.length - s ≤ m → s ≤ l.length → 0 < wyl l s := by
  intro m
  induction m with
  | zero =>
    intro s h1 h2
    have : s = l.length := by omega
    subst this
    have := (fw_of I).way_end
    show 0 < wayK (spG l) (2 * l.length) (fwl l) l.length
    omega
  | succ m ih =>
    intro s h1 h2
    rcases Nat.lt_or_ge s l.length with c | c
    · obtain ⟨q, q1, q2, q3, q4⟩ := far_ex I c
      obtain ⟨k, hk, rfl⟩ := spG_of q1
      have hf := far_lt I c
      have hk2 : k ∈ chl l s := ch_mem.mpr ⟨by rw [spN_len] at hk; exact hk, q2, q3, by rw [q4]; exact (fw_step I c).symm⟩
      have h3 := mem_sum (g := fun k => wyl l ((spG l k).2 + 1)) hk2
      have h4 : wyl l s = ((chl l s).map fun k => wyl l ((spG l k).2 + 1)).sum := (fw_of I).way_step c
      have h5 := ih ((spG l k).2 + 1) (by omega) (by omega)
      omega
    · have : s = l.length := by omega
      subst this
      have := (fw_of I).way_end
      show 0 < wayK (spG l) (2 * l.length) (fwl l) l.length
      omega
noncomputable def coD2 (q : List Nat) : PyData := .tuple (q.map puD)
noncomputable def twD (l : SRow) (q : List Nat) : PyData := .tuple [coD2 q, coD2 ((pathL l 0).getD 0 [])]
noncomputable def begL (l : SRow) (s b : Nat) : List PyData := (((pathL l 0).drop s).take b).map (twD l)
def mf__law_begun : MF := fun as R _ => ∃ (l : SRow) (s b : Nat), as = [.d (rowD l), .d (.int (s : Nat)), .d (.int (b : Nat))] ∧ Inc l ∧ l.length ≤ 1000 ∧ wyl l 0 < 2 ^ 60 ∧ s < wyl l 0 ∧ b ≤ 3 ∧ R (.d (.list (begL l s b)))
theorem ec_go {l : SRow} (I : Inc l) (hn : l.length ≤ 1000) (hw : wyl l 0 < 2 ^ 60) {v : PyData} {s : Nat} (hs : s < wyl l 0) (hv : v = .int (s : Nat)) {R : List PyData → Prop} {ex : DExc → Prop} (h : R (((pathL l 0).drop s).map coD2)) : mf_each_cover [.d (rowD l), .d v] R ex := by
  refine ⟨l, v, rfl, I, hn, hw, fun c => ?_, fun i e hi => ?_⟩
  · subst hv
    exfalso
    simp only [isInt, Bool.and_eq_false_iff, decide_eq_false_iff_not] at c
    omega
  · subst hv
    have e := PyData.int.inj e
    have : i = s := by omega
    subst this
    exact h
theorem d__law_begun {f : Addr} {fd : FuncData} (T : Txt K mg) (hm : mg "_law_begun" = some (.ref f)) (F0 : L2.Fun K "_law_begun" "_law_begun" s__law_begun f fd) (hb : Binds K fd ["_law_row", "_law_since", "_law_bound"] []) (F_each_cover : DGenK P w K mg base CK "each_cover" "index" 11 1 (.int (0)) mf_each_cover) : DFn P w K mg base CK "_law_begun" 15 0 3 mf__law_begun :=
  (dfn_of hm F0 hb sc__law_begun (fun cdv A outer s H E cx =>
 (dss_cons (ds_set (i := 3) sc__law_begun.nd rfl (by first | exact Or.inl rfl | exact Or.inr rfl) (de_lst da_nil))
 (dss_cons (ds_forG [] (Ctx.passes rfl) cx (dge_callK cx F_each_cover (by decide) (by rfl) (da_cons (de_pv 0) da_nil) (de_pv 1)) (by decide) stops_nil (dg_name (i := 4) sc__law_begun.nd rfl (by first | exact Or.inl rfl | exact Or.inr rfl)) (fun cxg pxg => (dss_cons (ds_if (dt_eq cxg.u (de_len (by rfl) T.n_len (da_cons (de_pv 3) da_nil)) (de_pv 2)) (dss_one ds_break) dss_nil)
 (dss_cons (ds_set (i := 5) sc__law_begun.nd rfl (by first | exact Or.inl rfl | exact Or.inr rfl) de_non)
 (dss_cons (ds_forG [] pxg cxg (dge_callD cxg F_each_cover (by decide) (by rfl) (da_cons (de_pv 0) da_nil)) (by decide) stops_nil (dg_name (i := 6) sc__law_begun.nd rfl (by first | exact Or.inl rfl | exact Or.inr rfl)) (fun cxg pxg => (dss_cons (ds_set (i := 5) sc__law_begun.nd rfl (by first | exact Or.inl rfl | exact Or.inr rfl) (de_pv 6))
 (dss_one ds_break))))
 (dss_one (ds_mut PySem.F.slot_list_append PySem.F.type_list_append mt_append mut_app (pv 3) (da_cons (de_tup (da_cons (de_pv 4) (da_cons (de_pv 5) da_nil))) da_nil))))))))
 (dss_one (ds_ret (de_pv 3))))))
  (by
    rintro as R ex hl ⟨l, s, b, rfl, I, hn, hw, hs, hb, h⟩
    obtain ⟨out, hout⟩ : ∃ out, out = (pathL l 0).drop s := ⟨_, rfl⟩
    obtain ⟨q0, rest, hq0⟩ : ∃ q0 rest, pathL l 0 = q0 :: rest := by
      cases e : pathL l 0 with
      | nil =>
        have := path_len (l := l) (s := 0)
        rw [e] at this
        simp at this
        omega
      | cons q r => exact ⟨q, r, rfl⟩
    have hg : (pathL l 0).getD 0 [] = q0 := by rw [hq0]; rfl
    have hbeg : begL l s b = (out.take b).map (twD l) := by rw [hout]; rfl
    rw [hbeg] at h
    walk_at "dx"
    refine ⟨by walk_at "lim", ?_⟩
    walk_at "dg"
    walk_at "dx"
    refine ⟨rfl, ec_go I hn hw hs rfl ?_⟩
    rw [← hout]
    refine for_at (fun i δ => ∃ (a4 a5 a6 : Option DV), i ≤ b ∧ δ = [some (.d (rowD l)), some (.d (.int (s : Nat))), some (.d (.int (b : Nat))), some (.own ((out.take i).map (twD l))), a4, a5, a6]) ⟨_, _, _, Nat.zero_le _, rfl⟩ ?_ ?_
    · rintro δ ⟨a4, a5, a6, hib, rfl⟩
      walk_at "dx"
      rw [List.length_map] at hib ⊢
      rw [List.take_length]
      rw [List.take_of_length_le hib] at h
      exact h
    · rintro i d δ K2 hd ⟨a4, a5, a6, hib, rfl⟩ hK2
      rw [List.getElem?_map] at hd
      cases hq : out[i]? with
      | none => rw [hq] at hd; cases hd
      | some q =>
      rw [hq] at hd
      cases hd
      have hil := (List.getElem?_eq_some_iff.mp hq).1
      have hlen : ((out.take i).map (twD l)).length = i := by rw [List.length_map, List.length_take]; omega
      walk_at "dx"
      rw [hlen]
      refine ⟨fun c => ?_, fun c => ?_⟩
      · have : i = b := by omega
        subst this
        exact h
      · walk_at "dg"
        walk_at "dx"
        refine ⟨rfl, ec_go (s := 0) I hn hw (Nat.lt_of_le_of_lt (Nat.zero_le _) hs) rfl ?_⟩
        rw [List.drop_zero, hq0, List.map_cons]
        unfold forRun
        walk_at "dx"
        rw [hlen]
        have e : (out.take i).map (twD l) ++ [.tuple [coD2 q, coD2 q0]] = (out.take (i + 1)).map (twD l) := by
          rw [List.take_add_one, hq, List.map_append]
          show _ = _ ++ [twD l q]
          unfold twD
          rw [hg]
        refine ⟨by walk_at "lim", ?_⟩
        rw [if_pos (show i < sizeLine by walk_at "lim")]
        dsimp only
        rw [e]
        exact hK2 _ ⟨_, _, _, by omega, rfl⟩)).le (by decide +kernel)
/-! ### there are fewer than 2 ^ 60 ways over 40 stones -/
noncomputable def lyC (l : SRow) (t : Nat) : Nat := (List.range (l.length + 1)).countP fun s => decide (fwl l s = t)
noncomputable def lyB (l : SRow) (t : Nat) : Nat := (List.range (l.length + 1)).countP fun s => decide (fwl l s < t)
theorem ly_succ {l : SRow} {t : Nat} : lyB l (t + 1) = lyB l t + lyC l t := by
  unfold lyB lyC
  induction List.range (l.length + 1) with
  | nil => rfl
  | cons s xs ih =>
    rw [List.countP_cons, List.countP_cons, List.countP_cons, ih]
    simp only [decide_eq_true_eq]
    split <;> split <;> split <;> omega
theorem ly_le {l : SRow} {t : Nat} : lyB l t ≤ l.length + 1 := by
  unfold lyB
  exact Nat.le_trans List.countP_le_length (by rw [List.length_range]; exact Nat.le_refl _)
theorem ch_few {l : SRow} (I : Inc l) {s t : Nat} (hs : s < l.length) (ht : fwl l s = t + 1) : (chl l s).length ≤ lyC l (t + 1) + lyC l t := by
  have W := fw_of I
  have sp : ∀ k ∈ chl l s, k < 2 * l.length ∧ (spG l k).1 ≤ s ∧ s ≤ (spG l k).2 ∧ (spG l k).2 < l.length ∧ fwl l ((spG l k).2 + 1) + 1 = fwl l s := fun k hk => ch_next I hk
  have nd : (chl l s).Nodup := ch_nd
  have e1 : (chl l s).length = ((chl l s).filter fun k => decide (k % 2 = 0)).length + ((chl l s).filter fun k => !decide (k % 2 = 0)).length := by
    rw [← List.countP_eq_length_filter, ← List.countP_eq_length_filter]
    have h := List.length_eq_countP_add_countP (p := fun k => decide (k % 2 = 0)) (l := chl l s)
    rw [h]
    congr 1
    exact List.countP_congr fun x _ => by simp
  have h1 : ((chl l s).filter fun k => decide (k % 2 = 0)).length ≤ lyC l t := by
    have n1 := pwNm (g := fun k => k / 2 + 1) (nd.sublist (List.filter_sublist (p := fun k => decide (k % 2 = 0)))) fun x hx y hy e => by
      have a := of_decide_eq_true (List.mem_filter.mp hx).2
      have b := of_decide_eq_true (List.mem_filter.mp hy).2
      have e : x / 2 + 1 = y / 2 + 1 := e
      omega
    have := L2.nodup_sub (L := (List.range (l.length + 1)).filter fun s => decide (fwl l s = t)) n1 fun x hx => by
      obtain ⟨k, hk, rfl⟩ := List.mem_map.mp hx
      obtain ⟨hk1, hk2⟩ := List.mem_filter.mp hk
      have hk2 := of_decide_eq_true hk2
      obtain ⟨k1, k2, k3, k4, k5⟩ := sp k hk1
      have e : (spG l k).2 = k / 2 := by rw [spG_at k1, if_pos hk2]
      rw [e] at k4 k5
      exact List.mem_filter.mpr ⟨List.mem_range.mpr (by omega), decide_eq_true (by omega)⟩
    rw [List.length_map] at this
    exact Nat.le_trans this (Nat.le_of_eq (List.countP_eq_length_filter ..).symm)
  have h2 : ((chl l s).filter fun k => !decide (k % 2 = 0)).length ≤ lyC l (t + 1) := by
    have n1 := pwNm (g := fun k => k / 2) (nd.sublist (List.filter_sublist (p := fun k => !decide (k % 2 = 0)))) fun x hx y hy e => by
      have a := (List.mem_filter.mp hx).2
      have b := (List.mem_filter.mp hy).2
      simp only [Bool.not_eq_true', decide_eq_false_iff_not] at a b
      have e : x / 2 = y / 2 := e
      omega
    have := L2.nodup_sub (L := (List.range (l.length + 1)).filter fun s => decide (fwl l s = t + 1)) n1 fun x hx => by
      obtain ⟨k, hk, rfl⟩ := List.mem_map.mp hx
      obtain ⟨hk1, hk2⟩ := List.mem_filter.mp hk
      simp only [Bool.not_eq_true', decide_eq_false_iff_not] at hk2
      obtain ⟨k1, k2, k3, k4, k5⟩ := sp k hk1
      have e : (spG l k).1 = k / 2 := by rw [spG_at k1, if_neg hk2]
      have a1 := fw_anti I k2
      have a2 := W.far k k1 (spG l k).1 (Nat.le_refl _) (by omega)
      have a3 := fw_anti I (show (spG l k).2 + 1 ≤ farE l (spG l k).1 + 1 by omega)
      have a4 := fw_step I (show (spG l k).1 < l.length by omega)
      rw [e] at a1 a3 a4 k2
      exact List.mem_filter.mpr ⟨List.mem_range.mpr (by omega), decide_eq_true (by omega)⟩
    rw [List.length_map] at this
    exact Nat.le_trans this (Nat.le_of_eq (List.countP_eq_length_filter ..).symm)
  omega
theorem sum_le_mul {α : Type} {g : α → Nat} {c : Nat} : ∀ {xs : List α}, (∀ x ∈ xs, g x ≤ c) → (xs.map g).sum ≤ xs.length * c
  | [], _ => Nat.zero_le _
  | x :: xs, h => by
    rw [List.map_cons, List.sum_cons, List.length_cons, Nat.succ_mul]
    have h1 := h x (List.mem_cons_self ..)
    have h2 := sum_le_mul (xs := xs) fun y hy => h y (List.mem_cons_of_mem _ hy)
    omega
theorem cube_le : ∀ x : Nat, x ^ 3 ≤ 3 ^ x
  | 0 => by decide
  | 1 => by decide
  | 2 => by decide
  | 3 => by decide
  | x + 4 => by
    have ih := cube_le (x + 3)
    have e : (x + 4) ^ 3 ≤ 3 * (x + 3) ^ 3 := by
      have h : ∀ a : Nat, (a + 1) ^ 3 = a ^ 3 + 3 * a ^ 2 + 3 * a + 1 := fun a => by
        simp only [Nat.pow_succ, Nat.pow_zero, Nat.one_mul, Nat.add_mul, Nat.mul_add, Nat.mul_one]
        omega
      rw [h (x + 3)]
      have h3 : (x + 3) ^ 2 = (x + 3) * (x + 3) := Nat.pow_two _
      have h2 : (x + 3) ^ 3 = (x + 3) * (x + 3) * (x + 3) := by rw [Nat.pow_succ, h3]
      rw [h2, h3]
      have h5 : 3 * ((x + 3) * (x + 3)) ≤ (x + 3) * (x + 3) * (x + 3) := by rw [Nat.mul_comm 3]; exact Nat.mul_le_mul_left _ (by omega)
      have h4 : 2 * (x + 3) ≤ (x + 3) * (x + 3) := Nat.mul_le_mul_right _ (by omega)
      generalize (x + 3) * (x + 3) * (x + 3) = C at h5 ⊢
      generalize (x + 3) * (x + 3) = S at h5 h4 ⊢
      omega
    calc (x + 4) ^ 3 ≤ 3 * (x + 3) ^ 3 := e
      _ ≤ 3 * 3 ^ (x + 3) := Nat.mul_le_mul_left _ ih
      _ = 3 ^ (x + 4) := by rw [Nat.mul_comm, ← Nat.pow_succ]
theorem way_cube {l : SRow} (I : Inc l) : ∀ (t s : Nat), s ≤ l.length → fwl l s = t → wyl l s ^ 3 ≤ 3 ^ (lyC l t + 2 * lyB l t) := by
  have W := fw_of I
  have key : ∀ t : Nat, ∃ B : Nat, B ^ 3 ≤ 3 ^ (lyC l t + 2 * lyB l t) ∧ ∀ s, s ≤ l.length → fwl l s = t → wyl l s ≤ B := fun t => by
    induction t with
    | zero =>
      refine ⟨1, by rw [Nat.one_pow]; exact Nat.pow_pos (by decide), fun s hs h => ?_⟩
      have : s = l.length := by
        rcases Nat.lt_or_ge s l.length with c | c
        · obtain ⟨u, hu⟩ := W.pos c
          rw [hu] at h; cases h
        · omega
      subst this
      exact Nat.le_of_eq W.way_end
    | succ t ih =>
      obtain ⟨B, hB, ih⟩ := ih
      refine ⟨(lyC l (t + 1) + lyC l t) * B, ?_, fun s hs h => ?_⟩
      · rw [Nat.mul_pow]
        have h1 := cube_le (lyC l (t + 1) + lyC l t)
        have h2 := Nat.mul_le_mul h1 hB
        rw [← Nat.pow_add] at h2
        refine Nat.le_trans h2 (Nat.pow_le_pow_right (by decide) ?_)
        rw [ly_succ]
        omega
      · have hsn : s < l.length := by
          rcases Nat.lt_or_ge s l.length with c | c
          · exact c
          · have : s = l.length := by omega
            subst this
            have := W.fn
            rw [this] at h; cases h
        have e : wyl l s = ((chl l s).map fun k => wyl l ((spG l k).2 + 1)).sum := W.way_step hsn
        rw [e]
        refine Nat.le_trans (sum_le_mul (c := B) fun k hk => ?_) (Nat.mul_le_mul_right _ (ch_few I hsn h))
        obtain ⟨k1, k2, k3, k4, k5⟩ := ch_next I hk
        exact ih _ (by omega) (by omega)
  intro t s hs h
  obtain ⟨B, hB, hw⟩ := key t
  exact Nat.le_trans (Nat.pow_le_pow_left (hw s hs h) 3) hB
theorem way_b60 {l : SRow} (I : Inc l) (hn : l.length ≤ 40) : wyl l 0 < 2 ^ 60 := by
  have h1 := way_cube I _ 0 (Nat.zero_le _) rfl
  have h2 := ly_le (l := l) (t := fwl l 0 + 1)
  rw [ly_succ] at h2
  have h3 := Nat.le_trans h1 (Nat.pow_le_pow_right (by decide) (show lyC l (fwl l 0) + 2 * lyB l (fwl l 0) ≤ 82 by omega))
  rcases Nat.lt_or_ge (wyl l 0) (2 ^ 60) with c | c
  · exact c
  · exfalso
    have h4 := Nat.pow_le_pow_left c 3
    exact absurd (Nat.le_trans h4 h3) (by decide)
/-! ### some ways, as a list of covers -/
theorem lex_no {x y : List Nat} (h : LexN x y) : PySem.W.dataLt (.tuple (y.map puD)) (.tuple (x.map puD)) = false := by
  rw [PySem.W.dataLt_tuple]
  induction h with
  | hd h =>
    rw [List.map_cons, List.map_cons, PySem.W.dataLt_cons (pu_alike _ _), pu_eqv, if_neg (by rw [decide_eq_true_eq]; omega), pu_ltk]
    exact decide_eq_false (by omega)
  | tl _ ih =>
    rw [List.map_cons, List.map_cons, PySem.W.dataLt_cons (pu_alike _ _), pu_eqv, if_pos (decide_eq_true rfl)]
    exact ih
theorem lex_self (x : List Nat) : PySem.W.dataLt (.tuple (x.map puD)) (.tuple (x.map puD)) = false := by
  rw [PySem.W.dataLt_tuple]
  induction x with
  | nil => rfl
  | cons a x ih =>
    rw [List.map_cons, PySem.W.dataLt_cons (pu_alike _ _), pu_eqv, if_pos (decide_eq_true rfl)]
    exact ih
theorem lex_nd {L : List (List Nat)} (pw : L.Pairwise LexN) : L.Nodup := pw.imp fun {a b} h e => by
  subst e
  have h1 := lex_lt h
  rw [lex_self] at h1; cases h1
theorem sort_some {L : List (List Nat)} (pw : L.Pairwise LexN) : sortX (L.map coD2) = L.map coD2 := by
  unfold sortX
  refine List.mergeSort_of_pairwise (List.pairwise_map.mpr (pw.imp fun {x y} h => ?_))
  show (!PySem.W.dataLt (encX (coD2 y)) (encX (coD2 x))) = true
  unfold encX coD2
  rw [lex_no h]
  rfl
theorem srt_some {L : List (List Nat)} (h : ∀ q ∈ L, q ≠ []) : SrtOk (L.map coD2) := by
  refine ⟨fun d hd => ?_, fun d hd e he => ?_, fun d hd => ?_, fun d hd => ?_⟩
  · obtain ⟨q, hq, rfl⟩ := List.mem_map.mp hd
    cases q with
    | nil => exact absurd rfl (h _ hq)
    | cons x r => exact ⟨_, _, rfl⟩
  · obtain ⟨q, hq, rfl⟩ := List.mem_map.mp hd
    obtain ⟨q2, hq2, rfl⟩ := List.mem_map.mp he
    exact alike_pusT q q2
  · obtain ⟨q, hq, rfl⟩ := List.mem_map.mp hd
    exact dict_pusT q
  · obtain ⟨q, hq, rfl⟩ := List.mem_map.mp hd
    have := depth_pus q
    unfold coD2
    simp only [PyData.depth]
    omega
theorem lay_pus : ∀ q : List Nat, PyData.canLayAll0 (q.map puD) = true ∧ PyData.depthAll (q.map puD) ≤ 2 := fun q => by
  induction q with
  | nil => simp [PyData.canLayAll0, PyData.depthAll]
  | cons k q ih =>
    have hk := SeqAt.canLay_of_shaped (shaped_pu (k := k))
    rw [List.map_cons, PyData.canLayAll0, PyData.depthAll, hk, ih.1]
    refine ⟨rfl, ?_⟩
    have : (puD k).depth ≤ 1 := by simp [puD, PyData.depth, PyData.depthAll]
    omega
theorem shaped_some (L : List (List Nat)) : SeqAt.shaped (.list (L.map coD2)) = true := by
  have h1 : PyData.canLayAll0 (L.map coD2) = true ∧ PyData.depthAll (L.map coD2) ≤ 4 := by
    induction L with
    | nil => simp [PyData.canLayAll0, PyData.depthAll]
    | cons q L ih =>
      obtain ⟨a, b⟩ := lay_pus q
      have e1 : (coD2 q).canLay0 = true := by unfold coD2; rw [PyData.canLay0]; exact a
      have e2 : (coD2 q).depth ≤ 4 := by unfold coD2; rw [PyData.depth]; omega
      rw [List.map_cons, PyData.canLayAll0, PyData.depthAll, e1, ih.1]
      exact ⟨rfl, by omega⟩
  obtain ⟨a, b⟩ := h1
  unfold SeqAt.shaped
  rw [Bool.and_eq_true, decide_eq_true_eq]
  refine ⟨?_, ?_⟩
  · rw [PyData.canLay0]; exact a
  · rw [PyData.depth]; omega
def puK (k : Nat) : NestedKey := .tup [.num ((k / 2 : Nat) : Int), .text (if k % 2 = 0 then "left" else "right")]
def coK (q : List Nat) : NestedKey := .tup (q.map puK)
theorem pu_key (k : Nat) : keyN (puD k) = some (puK k) := by
  unfold puD puK
  simp [keyN, keyNs]
theorem pus_key : ∀ q : List Nat, keyNs (q.map puD) = some (q.map puK)
  | [] => by simp [keyNs]
  | k :: q => by rw [List.map_cons, keyNs, pu_key, pus_key q]; rfl
theorem co_key (q : List Nat) : keyN (coD2 q) = some (coK q) := by
  unfold coD2 coK
  rw [keyN, pus_key]; rfl
theorem cos_key : ∀ L : List (List Nat), keyNs (L.map coD2) = some (L.map coK)
  | [] => by simp [keyNs]
  | q :: L => by rw [List.map_cons, keyNs, co_key, cos_key L]; rfl
theorem puK_inj {j k : Nat} (h : puK j = puK k) : j = k := by
  unfold puK at h
  have h := NestedKey.tup.inj h
  have h1 := (List.cons.inj h).1
  have h2 := (List.cons.inj (List.cons.inj h).2).1
  have h1 := NestedKey.num.inj h1
  have h2 := NestedKey.text.inj h2
  have n : ("left" : Str) ≠ "right" := by decide +kernel
  have m : j % 2 = 0 ↔ k % 2 = 0 := by
    by_cases a : j % 2 = 0 <;> by_cases b : k % 2 = 0
    · exact ⟨fun _ => b, fun _ => a⟩
    · rw [if_pos a, if_neg b] at h2; exact absurd h2 n
    · rw [if_neg a, if_pos b] at h2; exact absurd h2.symm n
    · exact ⟨fun c => absurd c a, fun c => absurd c b⟩
  omega
theorem coK_inj {x y : List Nat} (h : coK x = coK y) : x = y := by
  have h := NestedKey.tup.inj h
  exact (List.map_inj_right fun a b e => puK_inj e).mp h
theorem coK_depth (q : List Nat) : (coK q).depth ≤ 8 := by
  have : ∀ q : List Nat, NestedKey.depthAll (q.map puK) ≤ 1 := fun q => by
    induction q with
    | nil => simp [NestedKey.depthAll]
    | cons k q ih => rw [List.map_cons, NestedKey.depthAll]; simp only [puK, NestedKey.depth, NestedKey.depthAll]; omega
  have := this q
  unfold coK
  rw [NestedKey.depth]
  omega
theorem set_some {L : List (List Nat)} (nd : L.Nodup) (hl : L.length ≤ 76) {R : DV → Prop} (h : R (.d (.int (L.length : Nat)))) : oLenSetQ (.d (.list (L.map coD2))) R := by
  show (∀ d ∈ L.map coD2, ∃ xs, d = PyData.tuple xs) ∧ ∃ kss, keyNs (L.map coD2) = some kss ∧ kss.length ≤ 76 ∧ (∀ k ∈ kss, k.depth ≤ 8) ∧ ∀ c : Nat, c ≤ kss.length → (c = kss.length ↔ kss.Nodup) → R (.d (.int (c : Nat)))
  refine ⟨fun d hd => ?_, L.map coK, cos_key L, by rw [List.length_map]; exact hl, fun k hk => ?_, fun c _ hc => ?_⟩
  · obtain ⟨q, _, rfl⟩ := List.mem_map.mp hd
    exact ⟨_, rfl⟩
  · obtain ⟨q, _, rfl⟩ := List.mem_map.mp hk
    exact coK_depth q
  · have := hc.mpr (pwNm nd fun x _ y _ e => coK_inj e)
    rw [List.length_map] at this
    rw [this]
    exact h
theorem row_gen {P : Nat → Int × Int → Prop} {zs : List PyData} (h : ∀ i z, zs[i]? = some z → ∃ p, P i p ∧ z = stD p) : ∃ l : SRow, zs = l.map stD ∧ l.length = zs.length ∧ ∀ i, i < l.length → P i (pl l i, ht l i) := by
  have hz : ∀ i z, zs[i]? = some z → stD ((pairOf z).getD (0, 0)) = z := fun i z e => by
    obtain ⟨p, _, rfl⟩ := h i z e
    rfl
  refine ⟨zs.map fun z => (pairOf z).getD (0, 0), ?_, by simp, fun i hi => ?_⟩
  · rw [List.map_map]
    apply List.ext_getElem?
    intro i
    rw [List.getElem?_map]
    cases e : zs[i]? with
    | none => rfl
    | some z => exact (congrArg some (hz i z e)).symm
  · rw [List.length_map] at hi
    obtain ⟨p, h1, e⟩ := h i _ (List.getElem?_eq_getElem hi)
    have e1 : (zs.map fun z => (pairOf z).getD (0, 0))[i]? = some p := by
      rw [List.getElem?_map, List.getElem?_eq_getElem hi, e]
      rfl
    unfold pl ht
    rw [List.getD_eq_getElem?_getD, e1]
    exact h1
noncomputable def onDue (l : SRow) : PyData → Option PyData
  | .int i => some (twD l ((pathL l 0).getD i.toNat []))
  | _ => none
theorem due_eq {l : SRow} {j b : Nat} : ((List.range' j (min (wyl l 0) (j + b) - j)).map natD).filterMap (onDue l) = begL l j b := by
  rw [List.filterMap_map]
  have e : (onDue l ∘ natD) = fun i : Nat => some (twD l ((pathL l 0).getD i [])) := by
    funext i
    show some (twD l ((pathL l 0).getD ((i : Nat) : Int).toNat [])) = _
    rw [Int.toNat_natCast]
  rw [e, show (fun i : Nat => some (twD l ((pathL l 0).getD i []))) = some ∘ fun i => twD l ((pathL l 0).getD i []) from rfl, List.filterMap_eq_map]
  unfold begL
  apply List.ext_getElem?
  intro i
  rw [List.getElem?_map, List.getElem?_map, List.getElem?_take, List.getElem?_drop]
  have hl := path_len (l := l) (s := 0)
  rcases Nat.lt_or_ge i (min (wyl l 0) (j + b) - j) with c | c
  · rw [List.getElem?_range' c, if_pos (show i < b by omega), List.getElem?_eq_getElem (show j + i < (pathL l 0).length by omega)]
    show some (twD l ((pathL l 0).getD (j + 1 * i) [])) = some (twD l (pathL l 0)[j + i])
    rw [Nat.one_mul, List.getD_eq_getElem?_getD, List.getElem?_eq_getElem (show j + i < (pathL l 0).length by omega)]
    rfl
  · rw [List.getElem?_eq_none (by rw [List.length_range']; exact c)]
    split
    · rw [List.getElem?_eq_none (by omega)]; rfl
    · rfl
theorem ca_go {l : SRow} (I : Inc l) (hn : l.length ≤ 1000) {v : PyData} {i : Nat} (hi : i < wyl l 0) (hv : v = .int (i : Nat)) {R : DV → Prop} {ex : DExc → Prop} (h : R (.d (coD2 ((pathL l 0).getD i [])))) : mf_cover_at [.d (rowD l), .d v] R ex := by
  refine ⟨l, v, rfl, I, hn, fun c => ?_, fun i' q e hq => ?_⟩
  · subst hv
    exfalso
    simp only [isInt, Bool.and_eq_false_iff, decide_eq_false_iff_not] at c
    omega
  · subst hv
    have e := PyData.int.inj e
    have : i' = i := by omega
    subst this
    rw [List.getD_eq_getElem?_getD, hq] at h
    exact h
theorem q_len {l : SRow} (I : Inc l) {q : List Nat} (h : q ∈ pathL l 0) : q.length = fwl l 0 ∧ ∀ k ∈ q, k < 2 * l.length := by
  have hp := (fw_of I).way q 0 (Nat.zero_le _) (((fw_of I).mem q 0 (Nat.zero_le _)).mp h)
  exact ⟨hp.1, fun k hk => (hp.2.1 k hk).1⟩
theorem alk_q {q : List Nat} (h : q.length ≤ 1000) : Alk 3 (coD2 q) := by
  refine ⟨by rw [List.length_map]; omega, fun x hx => ?_⟩
  obtain ⟨k, _, rfl⟩ := List.mem_map.mp hx
  refine ⟨by simp, fun y hy => ?_⟩
  simp only [List.mem_cons, List.not_mem_nil, or_false] at hy
  rcases hy with rfl | rfl <;> trivial
theorem alk_way {l : SRow} (I : Inc l) (hn : l.length ≤ 40) {q : List Nat} (h : q ∈ pathL l 0) : Alk 3 (coD2 q) := by
  have h1 := (q_len I h).1
  have h2 := fw_le I 0
  exact alk_q (by omega)
theorem alk_tw {l : SRow} (I : Inc l) (hn : l.length ≤ 40) {q : List Nat} (h : q ∈ pathL l 0) (hw : 0 < wyl l 0) : Alk 4 (twD l q) := by
  refine ⟨by simp, fun x hx => ?_⟩
  simp only [List.mem_cons, List.not_mem_nil, or_false] at hx
  rcases hx with rfl | rfl
  · exact alk_way I hn h
  · refine alk_way I hn ?_
    rw [← path_len] at hw
    rw [List.getD_eq_getElem?_getD, List.getElem?_eq_getElem hw]
    exact List.getElem_mem hw
def onFst : PyData → Option PyData
  | .tuple [a, _] => some a
  | _ => none
theorem fst_lc {l : SRow} : ∀ L : List (List Nat), (L.map (twD l)).filterMap onFst = L.map coD2
  | [] => rfl
  | q :: L => by
    rw [List.map_cons, List.filterMap_cons, show onFst (twD l q) = some (coD2 q) from rfl, List.map_cons, fst_lc L]
theorem cask_ok {K : PySem.W.Frag} {F0 H : Hp} {c : Addr} {n lim : Nat} (hC : BagAt c n H) : Gm.Ok ⟨K, F0, H, fun p => p = c, .ref c, BagAt c, n, lim⟩ := by
  have full : ∀ {n : Nat} {H : Hp}, BagAt c n H → ∀ p, p = c → H p ≠ none := fun h p q z => by
    obtain ⟨m, gs, d, h1, _⟩ := h
    rw [q, h1] at z; cases z
  refine ⟨fun n H H' h e _ => ?_, fun n k H hnk h => ?_, fun n H h p q => full (n := n) h p q, fun p q => full (n := n) hC p q, fun n H h p q vs z => by
    obtain ⟨m, gs, d, h1, _⟩ := h
    rw [q, h1] at z; cases z⟩
  · obtain ⟨m, gs, d, h1, h2⟩ := h
    exact ⟨m, gs, d, by rw [e c rfl]; exact h1, h2⟩
  · obtain ⟨m, gs, d, h1, h2, h3, h4, h5⟩ := h
    exact ⟨m, gs, d, h1, h2, h3, h4, by omega⟩
theorem nb_cask (n i : Nat) : NoBor ((List.replicate n (none : Option DV)).set i (some .cask) ++ []) := fun j x e => by
  rw [List.append_nil] at e
  rcases get_set e with ⟨_, q, _⟩ | ⟨_, q⟩
  · cases q; rfl
  · rw [List.getElem?_replicate] at q
    split at q <;> cases q
theorem d_law {f : Addr} {fd : FuncData} (T : Txt K mg) (F0 : L2.Fun K "law" "law" s_law f fd) (F__law_opened : DBag P w K mg base) (F__law_stones : DFn P w K mg base CK "_law_stones" 2 323 3 mf__law_stones) (F_count_covers : DFn P w K mg base CK "count_covers" 11 0 1 mf_count_covers) (F__law_take : DFn P w K mg base CK "_law_take" 1 1 2 mf__law_take) (F__law_same : DFn P w K mg base CK "_law_same" 7 0 2 (mf__law_same 5)) (F_cover_at : DFn P w K mg base CK "cover_at" 11 0 2 mf_cover_at) (F__law_begun : DFn P w K mg base CK "_law_begun" 15 0 3 mf__law_begun) (F_each_cover : DGenK P w K mg base CK "each_cover" "index" 11 1 (.int (0)) mf_each_cover) : FnG P w K mg base 16 f fd ["_law_script"] (spLaw K) := by
  obtain ⟨fc, fdc, psc, hmc, hkc, hbc, hnc, hFc⟩ := F__law_opened.ex
  refine fnG_of F0 sc_law (fun vs H Q E h => ?_) fun cdv A outer s H vs Q E hg hr h => ?_
  · obtain ⟨a, ns, rfl, _⟩ := h
    rfl
  · obtain ⟨a, ns, rfl, hl, hS, k⟩ := h
    have cx : DL.Ctx (cxOf (L2.CX P w) P w K mg base ["_law_script", "_law_bag", "_law_turn", "_law_row", "_law_k", "_law_held", "_law_many", "_law_since", "_law_bound", "_law_due", "_law_some", "_law_cover", "_law_early"] "law" (defScope s_law) f cdv A outer s H E) ⟨fun _ _ _ _ => False, CK⟩ 15 := ⟨hg, hr, takes0⟩
    refine ⟨_, pss_cons (ps_set (i := 1) sc_law.nd rfl (by first | exact Or.inl rfl | exact Or.inr rfl) (pe_callG hg hr takes0 hFc (by decide) hmc hkc hbc (by rfl) (pa_cons (pv 0) pa_nil)))
      (DSs.pss (W := ⟨fun _ _ _ _ => False, CK⟩)
 (dss_cons (ds_forN 2 (Ctx.passes rfl) (by rfl) (di_range1 (by rfl) T.n_range (da_cons de_int da_nil)) (dg_name (i := 2) sc_law.nd rfl (by first | exact Or.inl rfl | exact Or.inr rfl)) (dss_cons (ds_set (i := 3) sc_law.nd rfl (by first | exact Or.inl rfl | exact Or.inr rfl) (de_call cx F__law_stones (by decide) (by rfl) (da_cons (de_pv 1) (da_cons (de_ix (de_lst (da_cons de_int (da_cons de_int da_nil))) (de_pv 2)) (da_cons (de_pow de_int de_int) da_nil)))))
 (dss_cons (ds_if (DW.dt (dw_and (dt_eq cx.u (de_pv 2) de_int) (dw_and1 (dt_eq cx.u (de_call cx F__law_take (by decide) (by rfl) (da_cons (de_pv 1) (da_cons de_int da_nil))) de_int)))) (dss_one (ds_set (i := 3) sc_law.nd rfl (by first | exact Or.inl rfl | exact Or.inr rfl) (de_tupleC (by rfl) T.n_tuple (da_cons (de_lcN 64 (own := [("_law_k", 4)]) (dom := [4]) (by rfl) sc_law.nd (di_range1 (by rfl) T.n_range (da_cons de_int da_nil)) (blkOk_by (by kernel_rfl)) (by decide) (fun _ _ _ _ _ => (dg_name (i := 4) sc_law.nd rfl (by first | exact Or.inl rfl | exact Or.inr rfl))) (fun _ _ _ _ _ => dts_nil) (fun _ _ _ _ _ => (de_tup (da_cons (de_mul de_int (de_pv 4)) (da_cons (de_add de_int (de_call cx.blk F__law_take (by decide) (by rfl) (da_cons (de_pv 1) (da_cons de_int da_nil)))) da_nil))))) da_nil)))) dss_nil)
 (dss_cons (ds_par2 (i := 5) (j := 6) (by rfl) sc_law.nd rfl rfl (by decide) rfl rfl (da_cons (de_reprD cx.u (by rfl) T.n_repr (da_cons (de_pv 3) da_nil)) (da_cons (de_call cx F_count_covers (by decide) (by rfl) (da_cons (de_pv 3) da_nil)) da_nil)) (by rfl))
 (dss_cons (ds_forN 3 (Ctx.passes rfl) (by rfl) (di_list (de_lst (da_cons de_int (da_cons (de_call cx F__law_take (by decide) (by rfl) (da_cons (de_pv 1) (da_cons (de_pv 6) da_nil))) (da_cons (de_max2 (by rfl) (by rfl) T.n_max (da_cons de_int (da_cons (de_sub (de_pv 6) de_int) da_nil))) da_nil))))) (dg_name (i := 7) sc_law.nd rfl (by first | exact Or.inl rfl | exact Or.inr rfl)) (dss_cons (ds_set (i := 8) sc_law.nd rfl (by first | exact Or.inl rfl | exact Or.inr rfl) (de_add de_int (de_call cx F__law_take (by decide) (by rfl) (da_cons (de_pv 1) (da_cons de_int da_nil)))))
 (dss_cons (ds_setLc (i := 9) (own := [("_law_k", 4)]) (dom := [4]) (by rfl) sc_law.nd rfl rfl (sw_true rfl rfl rfl (by decide +kernel)) (di_range2 (by rfl) T.n_range (da_cons (de_pv 7) (da_cons (de_min2 (by rfl) (by rfl) T.n_min (da_cons (de_pv 6) (da_cons (de_add (de_pv 7) (de_pv 8)) da_nil))) da_nil))) (blkOk_by (by kernel_rfl)) (by decide) (fun _ _ _ _ _ => (dg_name (i := 4) sc_law.nd rfl (by first | exact Or.inl rfl | exact Or.inr rfl))) (fun _ _ _ _ _ => dts_nil) (fun _ _ _ _ _ => (de_tup (da_cons (de_call cx.blk F_cover_at (by decide) (by rfl) (da_cons (de_pv 3) (da_cons (de_pv 4) da_nil))) (da_cons (de_call cx.blk F_cover_at (by decide) (by rfl) (da_cons (de_pv 3) (da_cons de_int da_nil))) da_nil)))))
 (dss_cons (ds_frz 9 (ds_if (dt_not (dt_val (de_call cx F__law_same (by decide) (by rfl) (da_cons (de_call cx F__law_begun (by decide) (by rfl) (da_cons (de_pv 3) (da_cons (de_pv 7) (da_cons (de_pv 8) da_nil)))) (da_cons (de_pv 9) da_nil))))) (dss_one (ds_ret de_bl)) dss_nil))
 (dss_cons (ds_setLc (i := 10) (own := [("_law_cover", 11), ("_law_early", 12)]) (dom := [11, 12]) (by rfl) sc_law.nd rfl rfl (sw_true rfl rfl rfl (by decide +kernel)) (di_list (de_pv 9)) (blkOk_by (by kernel_rfl)) (by decide) (fun _ _ _ _ _ => (dg_tup (by rfl) (dgs_cons (dg_name (i := 11) sc_law.nd rfl (by first | exact Or.inl rfl | exact Or.inr rfl)) (dgs_cons (dg_name (i := 12) sc_law.nd rfl (by first | exact Or.inl rfl | exact Or.inr rfl)) dgs_nil)))) (fun _ _ _ _ _ => dts_nil) (fun _ _ _ _ _ => (de_pv 11)))
 (dss_one (ds_frz 10 (ds_if (DW.dt (dw_or (dt_ne cx.u (de_pv 10) (de_sortedX cx.u (by rfl) T.n_sorted (da_cons (de_pv 10) da_nil))) (dw_or (dt_ne cx.u (de_lenSetQ (by rfl) cx.u (by rfl) T.n_len (by rfl) T.n_set (de_pv 10)) (de_len (by rfl) T.n_len (da_cons (de_pv 10) da_nil))) (dw_or1 (dt_ne cx.u (de_reprD cx.u (by rfl) T.n_repr (da_cons (de_pv 3) da_nil)) (de_pv 5)))))) (dss_one (ds_ret de_bl)) dss_nil))))))))
 (dss_one (ds_if (dt_not (dt_val (de_call cx F__law_same (by decide) (by rfl) (da_cons (de_lcG (own := [("_law_cover", 11)]) cx (dge_callK cx F_each_cover (by decide) (by rfl) (da_cons (de_pv 3) da_nil) (de_sub (de_pv 6) de_int)) (by decide) (blkOk_by (by kernel_rfl)) (by rfl)) (da_cons (de_lst (da_cons (de_call cx F_cover_at (by decide) (by rfl) (da_cons (de_pv 3) (da_cons (de_sub (de_pv 6) de_int) da_nil))) da_nil)) da_nil))))) (dss_one (ds_ret de_bl)) dss_nil)))))))
 (dss_one (ds_ret de_bl)))), ?_⟩
    refine ⟨.ref a, rfl, a, ns, rfl, hl, hS, fun c H' hC => ?_⟩
    refine ⟨fun _ _ => False, ⟨K, fun _ => none, H', fun p => p = c, .ref c, BagAt c, 0, 2 ^ 40⟩, fun _ => none, (List.replicate 13 none).set 1 (some .cask), [], [], ⟨fun _ => False, fun r => r = .d (.bool true), fun _ => False, fun _ => False, fun _ _ => False⟩,
      ⟨rfl, by simp [L2.start], rfl, ?_, fun _ _ _ _ _ _ _ _ _ _ _ _ _ _ z => z.elim, ⟨c, rfl, rfl, rfl, rfl⟩, by first | exact Nat.le_of_ble_eq_true rfl | decide +kernel⟩, nb_cask _ _, ⟨fun _ z => z.elim, fun _ z => z.elim, fun _ z => z.elim, fun r hr' _ b v F2 H2 _ g => ?_, fun _ _ z => z.elim⟩, ?_⟩
    · have g := good_cask (G := ⟨K, fun _ => none, H', fun p => p = c, .ref c, BagAt c, 0, 2 ^ 40⟩) (H := H') (i := 1) (σ := (L2.start ["_law_script", "_law_bag", "_law_turn", "_law_row", "_law_k", "_law_held", "_law_many", "_law_since", "_law_bound", "_law_due", "_law_some", "_law_cover", "_law_early"] [.ref a]).set 1 (some (.ref c))) (cask_ok hC) rfl rfl hC rfl
      simpa [L2.start] using g
    · cases hr'
      obtain ⟨v', e1, h1⟩ := g.sl 0 _ rfl
      cases e1
      have h2 : At K F2 v (.bool true) := h1
      cases h2
      exact k H2
    · exact (by
      walk_at "dx"
      refine ⟨by decide, by decide, by decide, ?_⟩
      refine for_range (fun _ δ => ∃ (a2 a3 a4 a5 a6 a7 a8 a9 a10 a11 a12 : Option DV), δ = [none, some .cask, a2, a3, a4, a5, a6, a7, a8, a9, a10, a11, a12]) ⟨_, _, _, _, _, _, _, _, _, _, _, rfl⟩ ?_ ?_
      · rintro δ ⟨a2, a3, a4, a5, a6, a7, a8, a9, a10, a11, a12, rfl⟩
        walk_at "dx"
      · rintro k δ Kn hk ⟨a2, a3, a4, a5, a6, a7, a8, a9, a10, a11, a12, rfl⟩ hK
        have hk : k < 2 := hk
        obtain ⟨z, h1, hz0, hz1⟩ : ∃ z : Int, atI [PyData.int 16, .int 40] (k : Nat) = some (.int z) ∧ 0 < z ∧ z ≤ 40 := by
          have : k = 0 ∨ k = 1 := by omega
          rcases this with rfl | rfl
          · exact ⟨16, rfl, by decide, by decide⟩
          · exact ⟨40, rfl, by decide, by decide⟩
        rw [show (0 : Int) + (k : Nat) = (k : Nat) from Int.zero_add _]
        refine ⟨rfl, by simp, ?_⟩
        change mSeq _ _ _ _ [none, some .cask, some (.d (.int (k : Nat))), a3, a4, a5, a6, a7, a8, a9, a10, a11, a12]
        refine seq_gen (fun δ => ∃ row : SRow, RowC row ∧ row.length ≤ 40 ∧ δ = [none, some .cask, some (.d (.int (k : Nat))), some (.d (rowD row)), a4, a5, a6, a7, a8, a9, a10, a11, a12]) ?_ fun K2 hK2 => ?_
        rotate_left
        · walk_at "dx"
          rw [h1]
          refine ⟨by walk_at "lim", z, _, rfl, by omega, by omega, by decide, by decide, fun row hB hr6 => ?_⟩
          exact ⟨rfl, hK2 _ ⟨row, hB, by omega, rfl⟩⟩
        rintro δ ⟨row, I, hr6, rfl⟩
        refine seq_gen (fun δ => ∃ (row : SRow) (b4 : Option DV), RowC row ∧ row.length ≤ 40 ∧ δ = [none, some .cask, some (.d (.int (k : Nat))), some (.d (rowD row)), b4, a5, a6, a7, a8, a9, a10, a11, a12]) ?_ fun K2 hK2 => ?_
        rotate_left
        · have same : K2 [none, some .cask, some (.d (.int (k : Nat))), some (.d (rowD row)), a4, a5, a6, a7, a8, a9, a10, a11, a12] := hK2 _ ⟨row, a4, I, hr6, rfl⟩
          walk_at "dx"
          refine ⟨fun _ => ⟨2, rfl, by decide, by decide, fun r r0 r1 => ?_⟩, fun _ => same⟩
          walk_at "dx"
          refine ⟨fun _ => ?_, fun _ => same⟩
          refine ⟨by decide, by decide, by decide, ?_⟩
          refine lc_rel (fun i d z => ∃ p : Int × Int, (p.1 = 4 * (i : Int) ∧ 1 ≤ p.2 ∧ p.2 ≤ 5) ∧ z = stD p) _ _ 0 (fun i d hd K2 K0 k2 => ?_) (by rw [rangeD_len, List.length_nil]; walk_at "lim") fun zs hz1 hz2 => ?_
          · rw [rangeD_get] at hd
            split at hd
            · cases hd
              walk_at "dx"
              refine ⟨.inl ⟨by decide, by decide⟩, 5, rfl, by decide, by decide, fun r2 r20 r21 => ?_⟩
              walk_at "dx"
              exact ⟨by walk_at "lim", k2 _ ⟨(4 * (i : Int), 1 + r2), ⟨by simp only; omega, by simp only; omega, by simp only; omega⟩, rfl⟩⟩
            · cases hd
          rw [rangeD_len] at hz1
          have hz1 : zs.length = 40 := hz1
          obtain ⟨l, rfl, e2, e3⟩ := row_gen (P := fun i p => p.1 = 4 * (i : Int) ∧ 1 ≤ p.2 ∧ p.2 ≤ 5) (zs := zs) fun i z e => by
            have hi : i < 40 := by
              have := (List.getElem?_eq_some_iff.mp e).1
              rw [hz1] at this
              exact this
            have := hz2 i (.int (0 + (i : Nat))) z (by rw [rangeD_get]; exact if_pos hi) e
            rwa [Nat.zero_add] at this
          rw [hz1] at e2
          have I2 : RowC l := ⟨⟨by omega, by omega, fun i j hij hj => by have := e3 i (by omega); have := e3 j hj; simp only at *; omega, fun i hi => by have := e3 i hi; simp only at *; omega⟩, by omega, fun i hi => by have := e3 i hi; simp only at *; omega⟩
          rw [List.nil_append]
          walk_at "dx"
          exact hK2 _ ⟨l, _, I2, by omega, rfl⟩
        rintro δ ⟨row, b4, hB, hr6, rfl⟩
        have I := hB.i
        have hS := (sz_rowC hB).d.shows (by decide) (by decide)
        obtain ⟨held, hheld⟩ : ∃ x : Str, x = (rowD row).shown := ⟨_, rfl⟩
        have hw := way_b60 I hr6
        have hw1 : 0 < wyl row 0 := way_pos I _ 0 (Nat.le_refl _) (Nat.zero_le _)
        refine seq_gen (fun δ => δ = [none, some .cask, some (.d (.int (k : Nat))), some (.d (rowD row)), b4, some (.d (.str held)), some (.d (.int (wyl row 0 : Nat))), a7, a8, a9, a10, a11, a12]) ?_ fun K2 hK2 => ?_
        rotate_left
        · walk_at "dx"
          refine ⟨hS, row, rfl, I, by omega, ?_⟩
          rw [← hheld]
          exact ⟨rfl, hK2 _ rfl⟩
        rintro δ rfl
        refine seq_gen (fun δ => ∃ (b4 b7 b8 b9 b10 b11 b12 : Option DV), δ = [none, some .cask, some (.d (.int (k : Nat))), some (.d (rowD row)), b4, some (.d (.str held)), some (.d (.int (wyl row 0 : Nat))), b7, b8, b9, b10, b11, b12]) ?_ fun K2 hK2 => ?_
        rotate_left
        · walk_at "dx"
          refine ⟨_, rfl, by omega, by omega, fun r r0 r1 => ?_⟩
          walk_at "dx"
          refine ⟨by walk_at "lim", by show 3 ≤ 3; decide, fun x hx => by cases List.mem_singleton.mp hx; rfl, ?_⟩
          refine for_at (fun i δ => ∃ (b4 b7 b8 b9 b10 b11 b12 : Option DV), δ = [none, some .cask, some (.d (.int (k : Nat))), some (.d (rowD row)), b4, some (.d (.str held)), some (.d (.int (wyl row 0 : Nat))), b7, b8, b9, b10, b11, b12]) ⟨_, _, _, _, _, _, _, rfl⟩ ?_ ?_
          · rintro δ ⟨b4, b7, b8, b9, b10, b11, b12, rfl⟩
            exact hK2 _ ⟨_, _, _, _, _, _, _, rfl⟩
          · rintro i d δ K3 hd ⟨b4, b7, b8, b9, b10, b11, b12, rfl⟩ hK3
            obtain ⟨j, rfl, hj⟩ : ∃ j : Nat, d = .int (j : Nat) ∧ j < wyl row 0 := by
              have := List.mem_of_getElem? hd
              simp only [List.mem_cons, List.not_mem_nil, or_false] at this
              rcases this with rfl | rfl | rfl
              · exact ⟨0, rfl, hw1⟩
              · exact ⟨r.toNat, by rw [show ((r.toNat : Nat) : Int) = r by omega], by omega⟩
              · split
                · exact ⟨wyl row 0 - 2, by rw [show (((wyl row 0 - 2 : Nat)) : Int) = (wyl row 0 : Nat) - 2 by omega], by omega⟩
                · exact ⟨0, rfl, hw1⟩
            walk_at "dx"
            refine ⟨3, rfl, by decide, by decide, fun r2 q0 q1 => ?_⟩
            walk_at "dx"
            obtain ⟨bd, hbd, hb1, hb3⟩ : ∃ bd : Nat, 1 + r2 = (bd : Int) ∧ 1 ≤ bd ∧ bd ≤ 3 := ⟨r2.toNat + 1, by omega, by omega, by omega⟩
            rw [hbd]
            have hmin : (if (j : Int) + (bd : Int) < ((wyl row 0 : Nat) : Int) then (j : Int) + (bd : Int) else ((wyl row 0 : Nat) : Int)) = ((min (wyl row 0) (j + bd) : Nat) : Int) := by
              split <;> omega
            rw [hmin]
            refine ⟨by omega, ?_⟩
            rw [rg_nat (by omega)]
            refine lc_ind (onDue row) _ _ (fun d hd K1 K0 q1 q0 => ?_) ?_ ?_
            · obtain ⟨i, hi, rfl⟩ := List.mem_map.mp hd
              have hi := List.mem_range'_1.mp hi
              walk_at "dx"
              refine ca_go I (by omega) (show i < wyl row 0 by omega) rfl (ca_go I (by omega) hw1 rfl ?_)
              walk_at "dx"
              refine ⟨by walk_at "lim", q1 _ ?_⟩
              show some (twD row ((pathL row 0).getD ((i : Nat) : Int).toNat [])) = _
              rw [Int.toNat_natCast]
              rfl
            · rw [List.length_map, List.length_range', List.length_nil]
              walk_at "lim"
            rw [due_eq, List.nil_append]
            walk_at "dx"
            obtain ⟨L, hL⟩ : ∃ L, L = ((pathL row 0).drop j).take bd := ⟨_, rfl⟩
            have hbeg : begL row j bd = L.map (twD row) := by rw [hL]; rfl
            have hll : L.length ≤ 3 := by rw [hL, List.length_take]; omega
            have hsub : L.Sublist (pathL row 0) := by rw [hL]; exact (List.take_sublist _ _).trans (List.drop_sublist _ _)
            have hpw : L.Pairwise LexN := (pth_lex _ _ : (pathL row 0).Pairwise LexN).sublist hsub
            have hne : ∀ q ∈ L, q ≠ [] := fun q hq e => by
              have := (q_len I (hsub.subset hq)).1
              rw [e] at this
              have := fw_step I I.n0
              simp only [List.length_nil] at *
              omega
            have hal : Alk 5 (.list (begL row j bd)) := by
              rw [hbeg]
              refine ⟨by rw [List.length_map]; omega, fun x hx => ?_⟩
              obtain ⟨q, hq, rfl⟩ := List.mem_map.mp hx
              exact alk_tw I (by omega) (hsub.subset hq) hw1
            refine ⟨row, j, bd, rfl, I, by omega, hw, hj, hb3, ?_⟩
            walk_at "dx"
            refine ⟨_, rfl, hal, ?_⟩
            walk_at "dx"
            rw [hbeg]
            refine lc_ind onFst _ _ (fun d hd K1 K0 q1 q0 => ?_) ?_ ?_
            · obtain ⟨q, hq, rfl⟩ := List.mem_map.mp hd
              unfold twD
              walk_at "dx"
              exact q1 _ rfl
            · rw [List.length_map, List.length_nil]
              walk_at "lim"
            rw [fst_lc, List.nil_append]
            walk_at "dx"
            rw [sort_some hpw]
            refine ⟨srt_some hne, shaped_some L, shaped_some L, fun c => ?_, fun _ => ?_⟩
            · rw [eqv_rfl _ (SeqAt.canLay_of_shaped (shaped_some L))] at c; cases c
            unfold mLenSetQ
            walk_at "dx"
            refine set_some (lex_nd hpw) (by omega) ?_
            walk_at "dx"
            refine ⟨fun c => absurd (by rw [List.length_map]) c, fun _ => ⟨hS, fun c => ?_, fun _ => hK3 _ ⟨_, _, _, _, _, _, _, rfl⟩⟩⟩
            rw [← hheld, eqv_same] at c
            cases c
        rintro δ ⟨b4, b7, b8, b9, b10, b11, b12, rfl⟩
        walk_at "dx"
        walk_at "dg"
        walk_at "dx"
        obtain ⟨m, hm⟩ : ∃ m, wyl row 0 = m + 1 := ⟨wyl row 0 - 1, by omega⟩
        have hv : PyData.int (((wyl row 0 : Nat) : Int) - 1) = .int ((m : Nat) : Int) := by rw [show ((wyl row 0 : Nat) : Int) - 1 = (m : Int) by omega]
        have hd : (pathL row 0).drop m = [(pathL row 0).getD m []] := by
          have hl := path_len (l := row) (s := 0)
          rw [List.drop_eq_getElem_cons (show m < (pathL row 0).length by omega), List.drop_of_length_le (by omega), List.getD_eq_getElem?_getD, List.getElem?_eq_getElem (show m < (pathL row 0).length by omega)]
          rfl
        refine ⟨rfl, ec_go I (by omega) hw (show m < wyl row 0 by omega) hv ?_⟩
        rw [hd]
        refine ⟨by show 1 ≤ sizeLine; walk_at "lim", ca_go I (by omega) (show m < wyl row 0 by omega) hv ?_⟩
        walk_at "dx"
        refine ⟨by walk_at "lim", _, rfl, ⟨by simp, fun x hx => ?_⟩, ?_⟩
        · have hx : x ∈ [coD2 ((pathL row 0).getD m [])] := hx
          rw [List.mem_singleton.mp hx]
          have hl := path_len (l := row) (s := 0)
          refine alk_mono (show 3 ≤ 4 by decide) (alk_way I (by omega) ?_)
          rw [List.getD_eq_getElem?_getD, List.getElem?_eq_getElem (show m < (pathL row 0).length by omega)]
          exact List.getElem_mem _
        · walk_at "dx"
          exact hK _ ⟨_, _, _, _, _, _, _, _, _, _, _, rfl⟩)
def mf_Covers_index_of : MF := fun as R _ => ∃ (l : SRow) (q : List Nat), as = [.d (covL l), .d (.tuple (q.map puD))] ∧ Inc l ∧ l.length ≤ 40 ∧ (idxOf l 0 q = none → R (.d .none)) ∧ ∀ i : Nat, idxOf l 0 q = some i → R (.d (.int (i : Nat)))
def mf_Covers_before : MF := fun as R _ => ∃ l : SRow, as = [.d (covL l)] ∧ Inc l ∧ l.length ≤ 1000 ∧ R (.d (.list (((List.range (l.length + 1)).map (bfl l l.length)).map natD)))
noncomputable def thD (l : SRow) (k : Nat) : PyData := .tuple [puD k, .int ((cnl l k : Nat) : Int)]
def mf_Covers_through : MF := fun as R _ => ∃ l : SRow, as = [.d (covL l)] ∧ Inc l ∧ l.length ≤ 40 ∧ R (.d (.list ((List.range (2 * l.length)).map (thD l))))
end
theorem all_mk {l : PySem.W.OpenLaw} {w : World} {K : PySem.W.Frag} {h : Heap} {mg : Str → Option Value} {fa : Addr} (X : K.In h) (G : h.Ns mainGlobals mg) (hfa : mg "law" = some (.ref fa))
    (gget : PySem.W.specialIn K (.builtin "object.__class__") "__get__" = some (some (.builtin "getset_descriptor.__get__")))
    (gtak : PySem.W.takesIn K (.builtin "object.__class__") = some true)
    {oc_Covers oi_Covers : Addr} {ood_Covers oan_Covers : Option Addr} {osl_Covers : Array (Option Value)} {ooc_Covers okV_Covers odc_Covers opm_Covers ocd_Covers oct_Covers : Value}
    (oq_Covers : PySem.W.nsIn K mainGlobals "Covers" = some (some (.ref oc_Covers)))
    (opg_Covers : PySem.W.plainGet K oc_Covers Str.empty = true)
    (ohd_Covers : PySem.W.hasDictIn K oc_Covers = true)
    (opo_Covers : PySem.W.plainOver K oc_Covers = true)
    (osa_Covers : PySem.W.findIn K (.ref oc_Covers) "__setattr__" = some (some (.builtin "object.__setattr__")))
    (omk_Covers : PySem.W.makesIn K oc_Covers = true)
    (okc_Covers : PySem.W.keepIn K (.ref oc_Covers) = true)
    (ocl_Covers : PySem.W.findIn K (.ref oc_Covers) "__class__" = some (some (.builtin "object.__class__")))
    (oob_Covers : PySem.W.mroIn K oc_Covers (.type "object") = some true)
    (oint_Covers : PySem.W.subIn K (.ref oc_Covers) (.type "int") = some false)
    (obool_Covers : PySem.W.subIn K (.ref oc_Covers) (.type "bool") = some false)
    (ostr_Covers : PySem.W.subIn K (.ref oc_Covers) (.type "str") = some false)
    (otuple_Covers : PySem.W.subIn K (.ref oc_Covers) (.type "tuple") = some false)
    (olist_Covers : PySem.W.subIn K (.ref oc_Covers) (.type "list") = some false)
    (odict_Covers : PySem.W.subIn K (.ref oc_Covers) (.type "dict") = some false)
    (on_Covers_many : PySem.W.findIn K (.ref oc_Covers) "many" = some none)
    (on_Covers_spans : PySem.W.findIn K (.ref oc_Covers) "spans" = some none)
    (on_Covers_fewest : PySem.W.findIn K (.ref oc_Covers) "fewest" = some none)
    (on_Covers_ways : PySem.W.findIn K (.ref oc_Covers) "ways" = some none)
    (oia_Covers : PySem.W.findIn K (.ref oc_Covers) "__init__" = some (some (.ref oi_Covers)))
    (oit_Covers : PySem.W.isFn K (.ref oi_Covers) = true)
    (oil_Covers : K.lookup oi_Covers = some ⟨ooc_Covers, ood_Covers, .func (PySem.W.fnOf "__init__" "Covers.__init__" (defArgs i_Covers) (defBody i_Covers) (defScope i_Covers) .none okV_Covers odc_Covers opm_Covers oan_Covers ocd_Covers oct_Covers), osl_Covers⟩)
    (oic_Covers : PySem.W.codeIn K ocd_Covers "Covers.__init__" = true)
    (oik_Covers : PySem.W.keepIn K (.ref oi_Covers) = true)
    {f0 : Addr} {od0 an0 : Option Addr} {sl0 : Array (Option Value)} {oc0 kV0 dc0 pm0 cd0 ct0 : Value}
    {f1 : Addr} {od1 an1 : Option Addr} {sl1 : Array (Option Value)} {oc1 kV1 dc1 pm1 cd1 ct1 : Value}
    {f2 : Addr} {od2 an2 : Option Addr} {sl2 : Array (Option Value)} {oc2 kV2 dc2 pm2 cd2 ct2 : Value}
    {f3 : Addr} {od3 an3 : Option Addr} {sl3 : Array (Option Value)} {oc3 kV3 dc3 pm3 cd3 ct3 : Value}
    {f4 : Addr} {od4 an4 : Option Addr} {sl4 : Array (Option Value)} {oc4 kV4 dc4 pm4 cd4 ct4 : Value}
    {f5 : Addr} {od5 an5 : Option Addr} {sl5 : Array (Option Value)} {oc5 kV5 dc5 pm5 cd5 ct5 : Value}
    {f6 : Addr} {od6 an6 : Option Addr} {sl6 : Array (Option Value)} {oc6 kV6 dc6 pm6 cd6 ct6 : Value}
    {f7 : Addr} {od7 an7 : Option Addr} {sl7 : Array (Option Value)} {oc7 kV7 dc7 pm7 cd7 ct7 : Value}
    {f8 : Addr} {od8 an8 : Option Addr} {sl8 : Array (Option Value)} {oc8 kV8 dc8 pm8 cd8 ct8 : Value}
    {f9 : Addr} {od9 an9 : Option Addr} {sl9 : Array (Option Value)} {oc9 kV9 dc9 pm9 cd9 ct9 : Value}
    {f10 : Addr} {od10 an10 : Option Addr} {sl10 : Array (Option Value)} {oc10 kV10 dc10 pm10 cd10 ct10 : Value}
    {f11 : Addr} {od11 an11 : Option Addr} {sl11 : Array (Option Value)} {oc11 kV11 dc11 pm11 cd11 ct11 : Value}
    {f12 : Addr} {od12 an12 : Option Addr} {sl12 : Array (Option Value)} {oc12 dc12 pm12 cd12 ct12 : Value}
    {f13 : Addr} {od13 an13 : Option Addr} {sl13 : Array (Option Value)} {oc13 kV13 dc13 pm13 cd13 ct13 : Value}
    {f14 : Addr} {od14 an14 : Option Addr} {sl14 : Array (Option Value)} {oc14 kV14 dc14 pm14 cd14 ct14 : Value}
    {f15 : Addr} {od15 an15 : Option Addr} {sl15 : Array (Option Value)} {oc15 kV15 dc15 pm15 cd15 ct15 : Value}
    {f16 : Addr} {od16 an16 : Option Addr} {sl16 : Array (Option Value)} {oc16 kV16 dc16 pm16 cd16 ct16 : Value}
    {f17 : Addr} {od17 an17 : Option Addr} {sl17 : Array (Option Value)} {oc17 kV17 dc17 pm17 cd17 ct17 : Value}
    {f18 : Addr} {od18 an18 : Option Addr} {sl18 : Array (Option Value)} {oc18 kV18 dc18 pm18 cd18 ct18 : Value}
    (a0 : PySem.W.nsIn K mainGlobals "is_integer" = some (some (.ref f0))) (l0 : K.lookup f0 = some ⟨oc0, od0, .func (PySem.W.fnOf "is_integer" "is_integer" (defArgs s_is_integer) (defBody s_is_integer) (defScope s_is_integer) .none kV0 dc0 pm0 an0 cd0 ct0), sl0⟩) (c0 : PySem.W.codeIn K cd0 "is_integer" = true) (k0 : PySem.W.keepIn K (.ref f0) = true)
    (a1 : PySem.W.nsIn K mainGlobals "right_ends" = some (some (.ref f1))) (l1 : K.lookup f1 = some ⟨oc1, od1, .func (PySem.W.fnOf "right_ends" "right_ends" (defArgs s_right_ends) (defBody s_right_ends) (defScope s_right_ends) .none kV1 dc1 pm1 an1 cd1 ct1), sl1⟩) (c1 : PySem.W.codeIn K cd1 "right_ends" = true) (k1 : PySem.W.keepIn K (.ref f1) = true)
    (a2 : PySem.W.nsIn K mainGlobals "mirrored" = some (some (.ref f2))) (l2 : K.lookup f2 = some ⟨oc2, od2, .func (PySem.W.fnOf "mirrored" "mirrored" (defArgs s_mirrored) (defBody s_mirrored) (defScope s_mirrored) .none kV2 dc2 pm2 an2 cd2 ct2), sl2⟩) (c2 : PySem.W.codeIn K cd2 "mirrored" = true) (k2 : PySem.W.keepIn K (.ref f2) = true)
    (a3 : PySem.W.nsIn K mainGlobals "stretches" = some (some (.ref f3))) (l3 : K.lookup f3 = some ⟨oc3, od3, .func (PySem.W.fnOf "stretches" "stretches" (defArgs s_stretches) (defBody s_stretches) (defScope s_stretches) .none kV3 dc3 pm3 an3 cd3 ct3), sl3⟩) (c3 : PySem.W.codeIn K cd3 "stretches" = true) (k3 : PySem.W.keepIn K (.ref f3) = true)
    (a4 : PySem.W.nsIn K mainGlobals "spans_of" = some (some (.ref f4))) (l4 : K.lookup f4 = some ⟨oc4, od4, .func (PySem.W.fnOf "spans_of" "spans_of" (defArgs s_spans_of) (defBody s_spans_of) (defScope s_spans_of) .none kV4 dc4 pm4 an4 cd4 ct4), sl4⟩) (c4 : PySem.W.codeIn K cd4 "spans_of" = true) (k4 : PySem.W.keepIn K (.ref f4) = true)
    (a5 : PySem.W.nsIn K mainGlobals "far_ends" = some (some (.ref f5))) (l5 : K.lookup f5 = some ⟨oc5, od5, .func (PySem.W.fnOf "far_ends" "far_ends" (defArgs s_far_ends) (defBody s_far_ends) (defScope s_far_ends) .none kV5 dc5 pm5 an5 cd5 ct5), sl5⟩) (c5 : PySem.W.codeIn K cd5 "far_ends" = true) (k5 : PySem.W.keepIn K (.ref f5) = true)
    (a6 : PySem.W.findIn K (.ref oc_Covers) "count" = some (some (.ref f6))) (j6 : PySem.W.isFn K (.ref f6) = true) (l6 : K.lookup f6 = some ⟨oc6, od6, .func (PySem.W.fnOf "count" "Covers.count" (defArgs s_Covers_count) (defBody s_Covers_count) (defScope s_Covers_count) .none kV6 dc6 pm6 an6 cd6 ct6), sl6⟩) (c6 : PySem.W.codeIn K cd6 "Covers.count" = true) (k6 : PySem.W.keepIn K (.ref f6) = true)
    (a7 : PySem.W.findIn K (.ref oc_Covers) "choices" = some (some (.ref f7))) (j7 : PySem.W.isFn K (.ref f7) = true) (l7 : K.lookup f7 = some ⟨oc7, od7, .func (PySem.W.fnOf "choices" "Covers.choices" (defArgs s_Covers_choices) (defBody s_Covers_choices) (defScope s_Covers_choices) .none kV7 dc7 pm7 an7 cd7 ct7), sl7⟩) (c7 : PySem.W.codeIn K cd7 "Covers.choices" = true) (k7 : PySem.W.keepIn K (.ref f7) = true)
    (a8 : PySem.W.nsIn K mainGlobals "count_covers" = some (some (.ref f8))) (l8 : K.lookup f8 = some ⟨oc8, od8, .func (PySem.W.fnOf "count_covers" "count_covers" (defArgs s_count_covers) (defBody s_count_covers) (defScope s_count_covers) .none kV8 dc8 pm8 an8 cd8 ct8), sl8⟩) (c8 : PySem.W.codeIn K cd8 "count_covers" = true) (k8 : PySem.W.keepIn K (.ref f8) = true)
    (a9 : PySem.W.nsIn K mainGlobals "check_index" = some (some (.ref f9))) (l9 : K.lookup f9 = some ⟨oc9, od9, .func (PySem.W.fnOf "check_index" "check_index" (defArgs s_check_index) (defBody s_check_index) (defScope s_check_index) .none kV9 dc9 pm9 an9 cd9 ct9), sl9⟩) (c9 : PySem.W.codeIn K cd9 "check_index" = true) (k9 : PySem.W.keepIn K (.ref f9) = true)
    (a10 : PySem.W.findIn K (.ref oc_Covers) "at" = some (some (.ref f10))) (j10 : PySem.W.isFn K (.ref f10) = true) (l10 : K.lookup f10 = some ⟨oc10, od10, .func (PySem.W.fnOf "at" "Covers.at" (defArgs s_Covers_at) (defBody s_Covers_at) (defScope s_Covers_at) .none kV10 dc10 pm10 an10 cd10 ct10), sl10⟩) (c10 : PySem.W.codeIn K cd10 "Covers.at" = true) (k10 : PySem.W.keepIn K (.ref f10) = true)
    (a11 : PySem.W.nsIn K mainGlobals "cover_at" = some (some (.ref f11))) (l11 : K.lookup f11 = some ⟨oc11, od11, .func (PySem.W.fnOf "cover_at" "cover_at" (defArgs s_cover_at) (defBody s_cover_at) (defScope s_cover_at) .none kV11 dc11 pm11 an11 cd11 ct11), sl11⟩) (c11 : PySem.W.codeIn K cd11 "cover_at" = true) (k11 : PySem.W.keepIn K (.ref f11) = true)
    {kD12 : Addr} {tk12 : Tok} (a12 : PySem.W.nsIn K mainGlobals "each_cover" = some (some (.ref f12))) (l12 : K.lookup f12 = some ⟨oc12, od12, .func (PySem.W.fnOf "each_cover" "each_cover" (defArgs s_each_cover) (defBody s_each_cover) (defScope s_each_cover) .none (.ref kD12) dc12 pm12 an12 cd12 ct12), sl12⟩) (c12 : PySem.W.codeIn K cd12 "each_cover" = true) (k12 : PySem.W.keepIn K (.ref f12) = true) (w12 : PySem.W.nsIn K kD12 "index" = some (some (.int (0) tk12)))
    (a13 : PySem.W.nsIn K mainGlobals "_law_opened" = some (some (.ref f13))) (l13 : K.lookup f13 = some ⟨oc13, od13, .func (PySem.W.fnOf "_law_opened" "_law_opened" (defArgs s__law_opened) (defBody s__law_opened) (defScope s__law_opened) .none kV13 dc13 pm13 an13 cd13 ct13), sl13⟩) (c13 : PySem.W.codeIn K cd13 "_law_opened" = true) (k13 : PySem.W.keepIn K (.ref f13) = true)
    (a14 : PySem.W.nsIn K mainGlobals "_law_take" = some (some (.ref f14))) (l14 : K.lookup f14 = some ⟨oc14, od14, .func (PySem.W.fnOf "_law_take" "_law_take" (defArgs s__law_take) (defBody s__law_take) (defScope s__law_take) .none kV14 dc14 pm14 an14 cd14 ct14), sl14⟩) (c14 : PySem.W.codeIn K cd14 "_law_take" = true) (k14 : PySem.W.keepIn K (.ref f14) = true)
    (a15 : PySem.W.nsIn K mainGlobals "_law_stones" = some (some (.ref f15))) (l15 : K.lookup f15 = some ⟨oc15, od15, .func (PySem.W.fnOf "_law_stones" "_law_stones" (defArgs s__law_stones) (defBody s__law_stones) (defScope s__law_stones) .none kV15 dc15 pm15 an15 cd15 ct15), sl15⟩) (c15 : PySem.W.codeIn K cd15 "_law_stones" = true) (k15 : PySem.W.keepIn K (.ref f15) = true)
    (a16 : PySem.W.nsIn K mainGlobals "_law_same" = some (some (.ref f16))) (l16 : K.lookup f16 = some ⟨oc16, od16, .func (PySem.W.fnOf "_law_same" "_law_same" (defArgs s__law_same) (defBody s__law_same) (defScope s__law_same) .none kV16 dc16 pm16 an16 cd16 ct16), sl16⟩) (c16 : PySem.W.codeIn K cd16 "_law_same" = true) (k16 : PySem.W.keepIn K (.ref f16) = true)
    (a17 : PySem.W.nsIn K mainGlobals "_law_begun" = some (some (.ref f17))) (l17 : K.lookup f17 = some ⟨oc17, od17, .func (PySem.W.fnOf "_law_begun" "_law_begun" (defArgs s__law_begun) (defBody s__law_begun) (defScope s__law_begun) .none kV17 dc17 pm17 an17 cd17 ct17), sl17⟩) (c17 : PySem.W.codeIn K cd17 "_law_begun" = true) (k17 : PySem.W.keepIn K (.ref f17) = true)
    (a18 : PySem.W.nsIn K mainGlobals "law" = some (some (.ref f18))) (l18 : K.lookup f18 = some ⟨oc18, od18, .func (PySem.W.fnOf "law" "law" (defArgs s_law) (defBody s_law) (defScope s_law) .none kV18 dc18 pm18 an18 cd18 ct18), sl18⟩) (c18 : PySem.W.codeIn K cd18 "law" = true) (k18 : PySem.W.keepIn K (.ref f18) = true)
    (z_abs : PySem.W.nsIn K mainGlobals "abs" = some none)
    (z_bool : PySem.W.nsIn K mainGlobals "bool" = some none)
    (z_enumerate : PySem.W.nsIn K mainGlobals "enumerate" = some none)
    (z_int : PySem.W.nsIn K mainGlobals "int" = some none)
    (z_isinstance : PySem.W.nsIn K mainGlobals "isinstance" = some none)
    (z_len : PySem.W.nsIn K mainGlobals "len" = some none)
    (z_list : PySem.W.nsIn K mainGlobals "list" = some none)
    (z_max : PySem.W.nsIn K mainGlobals "max" = some none)
    (z_min : PySem.W.nsIn K mainGlobals "min" = some none)
    (z_range : PySem.W.nsIn K mainGlobals "range" = some none)
    (z_repr : PySem.W.nsIn K mainGlobals "repr" = some none)
    (z_set : PySem.W.nsIn K mainGlobals "set" = some none)
    (z_sorted : PySem.W.nsIn K mainGlobals "sorted" = some none)
    (z_str : PySem.W.nsIn K mainGlobals "str" = some none)
    (z_sum : PySem.W.nsIn K mainGlobals "sum" = some none)
    (z_tuple : PySem.W.nsIn K mainGlobals "tuple" = some none)
    {t_LEFT : Tok} (y_LEFT : PySem.W.nsIn K mainGlobals "LEFT" = some (some (.str "left" t_LEFT)))
    {t_RIGHT : Tok} (y_RIGHT : PySem.W.nsIn K mainGlobals "RIGHT" = some (some (.str "right" t_RIGHT)))
    {cc_NoIndex : Addr} (q_NoIndex : PySem.W.nsIn K mainGlobals "NoIndex" = some (some (.ref cc_NoIndex)))
    {cc_FallError : Addr} (q_FallError : PySem.W.nsIn K mainGlobals "FallError" = some (some (.ref cc_FallError)))
    {nm_NoIndex qn_NoIndex : Str} {N_NoIndex : Addr} {bs_NoIndex : List Value} {sn_NoIndex : List Str} {sb_NoIndex : List Value} {ab_NoIndex : Bool} {co_NoIndex : Option Bool} {dd_NoIndex : Option Addr} {m0_NoIndex m1_NoIndex m2_NoIndex m3_NoIndex m5_NoIndex : Option Value}
    (xl_NoIndex : K.lookup cc_NoIndex = some (PySem.excClassObj nm_NoIndex qn_NoIndex cc_NoIndex N_NoIndex bs_NoIndex [.ref cc_FallError, .type "ValueError", .type "Exception", .type "BaseException", .type "object"] true sn_NoIndex sb_NoIndex ab_NoIndex co_NoIndex dd_NoIndex m0_NoIndex m1_NoIndex m2_NoIndex m3_NoIndex m5_NoIndex "ValueError.__new__"))
    (sa_NoIndex : PySem.W.findIn K (.ref cc_NoIndex) "__setattr__" = some (some (.builtin "object.__setattr__")))
    (ga_NoIndex : PySem.W.findIn K (.ref cc_NoIndex) "__getattribute__" = some (some (.builtin "BaseException.__getattribute__")))
    (gg_NoIndex : PySem.W.findIn K (.ref cc_NoIndex) "__getattr__" = some none)
    (cl_NoIndex : PySem.W.findIn K (.ref cc_NoIndex) "__class__" = some (some (.builtin "object.__class__")))
    (kc_NoIndex : PySem.W.keepIn K (.ref cc_NoIndex) = true)
    (be_NoIndex : PySem.W.subIn K (.ref cc_NoIndex) (.type "BaseException") = some true)
    (ty_NoIndex : PySem.W.typeIn K (.ref cc_NoIndex) = some (.type "type"))
    (hd_NoIndex : PySem.W.hasDictIn K cc_NoIndex = true)
    (ob_NoIndex : PySem.W.mroIn K cc_NoIndex (.type "object") = some true)
    (ve_NoIndex : PySem.W.subIn K (.ref cc_NoIndex) (.type "ValueError") = some true)
    (se_NoIndex : PySem.W.subIn K (.ref cc_NoIndex) (.ref cc_NoIndex) = some true)
    (nf_NoIndex_index : PySem.W.findIn K (.ref cc_NoIndex) "index" = some none)
    {fi_NoIndex : Addr} {iod_NoIndex ian_NoIndex : Option Addr} {isl_NoIndex : Array (Option Value)} {ioc_NoIndex ikV_NoIndex idc_NoIndex ipm_NoIndex icd_NoIndex ict_NoIndex : Value}
    (i_NoIndex_a : PySem.W.findIn K (.ref cc_NoIndex) "__init__" = some (some (.ref fi_NoIndex)))
    (i_NoIndex_t : PySem.W.typeIn K (.ref fi_NoIndex) = some (.type "function"))
    (i_NoIndex_l : K.lookup fi_NoIndex = some ⟨ioc_NoIndex, iod_NoIndex, .func (PySem.W.fnOf "__init__" "NoIndex.__init__" (defArgs i_NoIndex) (defBody i_NoIndex) (defScope i_NoIndex) .none ikV_NoIndex idc_NoIndex ipm_NoIndex ian_NoIndex icd_NoIndex ict_NoIndex), isl_NoIndex⟩)
    (i_NoIndex_c : PySem.W.codeIn K icd_NoIndex "NoIndex.__init__" = true)
    (i_NoIndex_k : PySem.W.keepIn K (.ref fi_NoIndex) = true) :
    ∃ fd : FuncData, (∀ (s : Shared) (v : Value), BindsTo s fd ⟨[v], []⟩ [("_law_script", v)]) ∧ ∀ base : Heap, K.In base → base.Ns mainGlobals mg → FnG l.prog w K mg base 16 fa fd ["_law_script"] (spLaw K) := by
  have e := hfa.symm.trans (PySem.W.mg_of X G a18)
  cases e
  have k_NoIndex : clsA mg "NoIndex" = cc_NoIndex := clsA_of (PySem.W.mg_of X G q_NoIndex)
  have k_FallError : clsA mg "FallError" = cc_FallError := clsA_of (PySem.W.mg_of X G q_FallError)
  have E_NoIndex : PySem.W.EClass K cc_NoIndex := ⟨ga_NoIndex, gg_NoIndex, be_NoIndex, hd_NoIndex, cl_NoIndex, gget, gtak, ob_NoIndex⟩
  have T : Txt K mg := ⟨PySem.W.mg_none_of X G z_abs, PySem.W.mg_none_of X G z_bool, PySem.W.mg_none_of X G z_enumerate, PySem.W.mg_none_of X G z_int, PySem.W.mg_none_of X G z_isinstance, PySem.W.mg_none_of X G z_len, PySem.W.mg_none_of X G z_list, PySem.W.mg_none_of X G z_max, PySem.W.mg_none_of X G z_min, PySem.W.mg_none_of X G z_range, PySem.W.mg_none_of X G z_repr, PySem.W.mg_none_of X G z_set, PySem.W.mg_none_of X G z_sorted, PySem.W.mg_none_of X G z_str, PySem.W.mg_none_of X G z_sum, PySem.W.mg_none_of X G z_tuple, ⟨_, PySem.W.mg_of X G y_LEFT⟩, ⟨_, PySem.W.mg_of X G y_RIGHT⟩⟩
  exact ⟨PySem.W.fnOf "law" "law" (defArgs s_law) (defBody s_law) (defScope s_law) .none kV18 dc18 pm18 an18 cd18 ct18, fun s v => .of_eq rfl, fun base _ _ => by
    have V_NoIndex := fun_mk (st := i_NoIndex) i_NoIndex_l i_NoIndex_c i_NoIndex_k
    have Y_NoIndex := V_NoIndex.binds (ps := ["self", "index"]) fun _ _ _ _ _ _ us hl => match us, hl with | [_, _], _ => rfl
    have O_NoIndex : OexC K cc_NoIndex := ⟨⟨nm_NoIndex, qn_NoIndex, N_NoIndex, bs_NoIndex, _, sn_NoIndex, sb_NoIndex, ab_NoIndex, co_NoIndex, dd_NoIndex, m0_NoIndex, m1_NoIndex, m2_NoIndex, m3_NoIndex, m5_NoIndex, xl_NoIndex, rfl⟩, sa_NoIndex, be_NoIndex, ty_NoIndex, kc_NoIndex⟩
    have X_NoIndex : XMk l.prog w K mg base "NoIndex" "index" := ⟨cc_NoIndex, fi_NoIndex, _, _, PySem.W.mg_of X G q_NoIndex, O_NoIndex, i_NoIndex_a, i_NoIndex_t, ini_NoIndex V_NoIndex O_NoIndex nf_NoIndex_index, Y_NoIndex⟩
    have O_Covers : ObjC K "Covers" oc_Covers := objC_mk ⟨opg_Covers, ohd_Covers, opo_Covers, osa_Covers⟩ oq_Covers ocl_Covers gget gtak oob_Covers oint_Covers obool_Covers ostr_Covers otuple_Covers olist_Covers odict_Covers
    have V_Covers := fun_mk (st := i_Covers) oil_Covers oic_Covers oik_Covers
    have Y_Covers := V_Covers.binds (ps := ["self", "row"]) fun _ _ _ _ _ _ us hl => match us, hl with | [_, _], _ => rfl
    have U0 := fun_mk (st := s_is_integer) l0 c0 k0
    have B0 := U0.binds (ps := ["value", "low", "high"]) fun _ _ _ _ _ _ us hl => match us, hl with | [_, _, _], _ => rfl
    have F_is_integer := d_is_integer (P := l.prog) (w := w) (base := base) T (PySem.W.mg_of X G a0) U0 B0 
    have U1 := fun_mk (st := s_right_ends) l1 c1 k1
    have B1 := U1.binds (ps := ["row"]) fun _ _ _ _ _ _ us hl => match us, hl with | [_], _ => rfl
    have F_right_ends := d_right_ends (P := l.prog) (w := w) (base := base) T (PySem.W.mg_of X G a1) U1 B1 
    have U2 := fun_mk (st := s_mirrored) l2 c2 k2
    have B2 := U2.binds (ps := ["row"]) fun _ _ _ _ _ _ us hl => match us, hl with | [_], _ => rfl
    have F_mirrored := d_mirrored (P := l.prog) (w := w) (base := base) T (PySem.W.mg_of X G a2) U2 B2 
    have U3 := fun_mk (st := s_stretches) l3 c3 k3
    have B3 := U3.binds (ps := ["row"]) fun _ _ _ _ _ _ us hl => match us, hl with | [_], _ => rfl
    have F_stretches := d_stretches (P := l.prog) (w := w) (base := base) T (PySem.W.mg_of X G a3) U3 B3 F_right_ends F_mirrored
    have U4 := fun_mk (st := s_spans_of) l4 c4 k4
    have B4 := U4.binds (ps := ["row"]) fun _ _ _ _ _ _ us hl => match us, hl with | [_], _ => rfl
    have F_spans_of := d_spans_of (P := l.prog) (w := w) (base := base) T (PySem.W.mg_of X G a4) U4 B4 F_stretches
    have U5 := fun_mk (st := s_far_ends) l5 c5 k5
    have B5 := U5.binds (ps := ["row"]) fun _ _ _ _ _ _ us hl => match us, hl with | [_], _ => rfl
    have F_far_ends := d_far_ends (P := l.prog) (w := w) (base := base) T (PySem.W.mg_of X G a5) U5 B5 F_spans_of
    have U6 := fun_mk (st := s_Covers_count) l6 c6 k6
    have B6 := U6.binds (ps := ["self"]) fun _ _ _ _ _ _ us hl => match us, hl with | [_], _ => rfl
    have F_Covers_count := d_Covers_count (P := l.prog) (w := w) (base := base) T O_Covers ⟨a6, j6, k6⟩ U6 B6 
    have U7 := fun_mk (st := s_Covers_choices) l7 c7 k7
    have B7 := U7.binds (ps := ["self", "stone"]) fun _ _ _ _ _ _ us hl => match us, hl with | [_, _], _ => rfl
    have F_Covers_choices := d_Covers_choices (P := l.prog) (w := w) (base := base) T O_Covers ⟨a7, j7, k7⟩ U7 B7 
    have M_Covers : DMkG l.prog w K mg base CK "Covers" 9 0 1 mk_Covers := ⟨oc_Covers, oi_Covers, _, _, PySem.W.mg_of X G oq_Covers, ⟨omk_Covers, oia_Covers, oit_Covers, okc_Covers⟩, O_Covers, in_Covers (P := l.prog) (w := w) (base := base) T V_Covers O_Covers on_Covers_many on_Covers_spans on_Covers_fewest on_Covers_ways F_spans_of F_far_ends F_Covers_choices, Y_Covers, rfl⟩
    have U8 := fun_mk (st := s_count_covers) l8 c8 k8
    have B8 := U8.binds (ps := ["row"]) fun _ _ _ _ _ _ us hl => match us, hl with | [_], _ => rfl
    have F_count_covers := d_count_covers (P := l.prog) (w := w) (base := base) T (PySem.W.mg_of X G a8) U8 B8 F_Covers_count M_Covers
    have U9 := fun_mk (st := s_check_index) l9 c9 k9
    have B9 := U9.binds (ps := ["value", "many"]) fun _ _ _ _ _ _ us hl => match us, hl with | [_, _], _ => rfl
    have F_check_index := d_check_index (P := l.prog) (w := w) (base := base) T (PySem.W.mg_of X G a9) U9 B9 F_is_integer X_NoIndex
    have U10 := fun_mk (st := s_Covers_at) l10 c10 k10
    have B10 := U10.binds (ps := ["self", "index"]) fun _ _ _ _ _ _ us hl => match us, hl with | [_, _], _ => rfl
    have F_Covers_at := d_Covers_at (P := l.prog) (w := w) (base := base) T O_Covers ⟨a10, j10, k10⟩ U10 B10 F_Covers_choices
    have U11 := fun_mk (st := s_cover_at) l11 c11 k11
    have B11 := U11.binds (ps := ["row", "index"]) fun _ _ _ _ _ _ us hl => match us, hl with | [_, _], _ => rfl
    have F_cover_at := d_cover_at (P := l.prog) (w := w) (base := base) T (PySem.W.mg_of X G a11) U11 B11 F_Covers_at F_check_index F_Covers_count M_Covers
    have U12 := fun_mk (st := s_each_cover) l12 c12 k12
    have B12 := kbind_of (pk := "index") (ps := ["row", "index"]) (n := 1) U12 fun _ _ _ _ _ _ us u hl => match us, hl with | [_], _ => rfl
    obtain ⟨ds12, vd12, E12⟩ := L2.FunD.binds0 (ps := ["row", "index"]) (kws := [("index", V.int (0))]) (⟨⟨oc12, od12, .none, .ref kD12, dc12, pm12, an12, cd12, ct12, sl12, rfl, l12, c12, .inl ⟨rfl, rfl⟩, .inr ⟨kD12, rfl, fun q hq => by cases List.mem_singleton.mp hq; exact ⟨_, w12, ⟨_, rfl⟩⟩⟩⟩, k12⟩ : L2.FunD K "each_cover" "each_cover" (defArgs s_each_cover) (defBody s_each_cover) (defScope s_each_cover) [] [("index", V.int (0))] f12 _) 1 (by simp) rfl fun D doc pm an cdv ct us ks hu hk => match us, ks, hu, hk with | [_], [_], _, _ => ⟨_, _, _, _, _, _, rfl, rfl, rfl⟩
    have F_each_cover := d_each_cover (P := l.prog) (w := w) (base := base) T (PySem.W.mg_of X G a12) U12 B12 ⟨ds12, _, E12, vd12, rfl, fun F => .cons (.int _) .nil⟩ F_check_index F_Covers_count F_Covers_at M_Covers
    have U13 := fun_mk (st := s__law_opened) l13 c13 k13
    have B13 := U13.binds (ps := ["_law_script"]) fun _ _ _ _ _ _ us hl => match us, hl with | [_], _ => rfl
    have F__law_opened := d__law_opened (P := l.prog) (w := w) (base := base) T (PySem.W.mg_of X G a13) U13 B13 
    have U14 := fun_mk (st := s__law_take) l14 c14 k14
    have B14 := U14.binds (ps := ["_law_bag", "_law_many"]) fun _ _ _ _ _ _ us hl => match us, hl with | [_, _], _ => rfl
    have F__law_take := d__law_take (P := l.prog) (w := w) (base := base) T (PySem.W.mg_of X G a14) U14 B14 
    have U15 := fun_mk (st := s__law_stones) l15 c15 k15
    have B15 := U15.binds (ps := ["_law_bag", "_law_bound", "_law_wide"]) fun _ _ _ _ _ _ us hl => match us, hl with | [_, _, _], _ => rfl
    have F__law_stones := d__law_stones (P := l.prog) (w := w) (base := base) T (PySem.W.mg_of X G a15) U15 B15 F__law_take
    have U16 := fun_mk (st := s__law_same) l16 c16 k16
    have B16 := U16.binds (ps := ["_law_one", "_law_other"]) fun _ _ _ _ _ _ us hl => match us, hl with | [_, _], _ => rfl
    have F__law_same := d__law_same (P := l.prog) (w := w) (base := base) T (PySem.W.mg_of X G a16) U16 B16 
    have U17 := fun_mk (st := s__law_begun) l17 c17 k17
    have B17 := U17.binds (ps := ["_law_row", "_law_since", "_law_bound"]) fun _ _ _ _ _ _ us hl => match us, hl with | [_, _, _], _ => rfl
    have F__law_begun := d__law_begun (P := l.prog) (w := w) (base := base) T (PySem.W.mg_of X G a17) U17 B17 F_each_cover
    have U18 := fun_mk (st := s_law) l18 c18 k18
    exact d_law T U18 F__law_opened F__law_stones F_count_covers F__law_take F__law_same F_cover_at F__law_begun F_each_cover⟩
end Lk31
open PySem PySem.W PyProof.Rows in
set_option maxRecDepth 100000 in
set_option maxHeartbeats 0 in
theorem PySem.Challenge.cw_toppleline_k31_covers_walked_holds : PySem.Challenge.rw_toppleline_k31_covers_walked.Holds := by
  w_on; o_law; k_headL; (case hw => w_witness2)
  k_fill
  refine DL.walkG (l := PySem.Challenge.rw_toppleline_k31_covers_walked) (k := 16) (x := "_law_script") (sp := fun K => Lk31.spLaw K) rfl rfl ⟨rfl, by decide, by decide⟩ (fun w h Y => PySem.W.kIn_of Y) ?F (fun K H a ns hl hO hS => Lk31.law_ok hl hS)
  case F =>
    intro w mg fa h KX G hmg
    refine' Lk31.all_mk KX G hmg ?gget ?gtak ?oq_Covers ?opg_Covers ?ohd_Covers ?opo_Covers ?osa_Covers ?omk_Covers ?okc_Covers ?ocl_Covers ?oob_Covers ?oint_Covers ?obool_Covers ?ostr_Covers ?otuple_Covers ?olist_Covers ?odict_Covers ?on_Covers_many ?on_Covers_spans ?on_Covers_fewest ?on_Covers_ways ?oia_Covers ?oit_Covers ?oil_Covers ?oic_Covers ?oik_Covers ?a0 ?l0 ?c0 ?k0 ?a1 ?l1 ?c1 ?k1 ?a2 ?l2 ?c2 ?k2 ?a3 ?l3 ?c3 ?k3 ?a4 ?l4 ?c4 ?k4 ?a5 ?l5 ?c5 ?k5 ?a6 ?j6 ?l6 ?c6 ?k6 ?a7 ?j7 ?l7 ?c7 ?k7 ?a8 ?l8 ?c8 ?k8 ?a9 ?l9 ?c9 ?k9 ?a10 ?j10 ?l10 ?c10 ?k10 ?a11 ?l11 ?c11 ?k11 ?a12 ?l12 ?c12 ?k12 ?w12 ?a13 ?l13 ?c13 ?k13 ?a14 ?l14 ?c14 ?k14 ?a15 ?l15 ?c15 ?k15 ?a16 ?l16 ?c16 ?k16 ?a17 ?l17 ?c17 ?k17 ?a18 ?l18 ?c18 ?k18 ?z_abs ?z_bool ?z_enumerate ?z_int ?z_isinstance ?z_len ?z_list ?z_max ?z_min ?z_range ?z_repr ?z_set ?z_sorted ?z_str ?z_sum ?z_tuple ?y_LEFT ?y_RIGHT ?q_NoIndex ?q_FallError ?xl_NoIndex ?sa_NoIndex ?ga_NoIndex ?gg_NoIndex ?cl_NoIndex ?kc_NoIndex ?be_NoIndex ?ty_NoIndex ?hd_NoIndex ?ob_NoIndex ?ve_NoIndex ?se_NoIndex ?nf_NoIndex_index ?i_NoIndex_a ?i_NoIndex_t ?i_NoIndex_l ?i_NoIndex_c ?i_NoIndex_k
    (case gget => k_is)
    (case gtak => k_is)
    (case oq_Covers => k_is)
    (case opg_Covers => k_is)
    (case ohd_Covers => k_is)
    (case opo_Covers => k_is)
    (case osa_Covers => k_is)
    (case omk_Covers => k_is)
    (case okc_Covers => k_is)
    (case ocl_Covers => k_is)
    (case oob_Covers => k_is)
    (case oint_Covers => k_is)
    (case obool_Covers => k_is)
    (case ostr_Covers => k_is)
    (case otuple_Covers => k_is)
    (case olist_Covers => k_is)
    (case odict_Covers => k_is)
    (case on_Covers_many => k_is)
    (case on_Covers_spans => k_is)
    (case on_Covers_fewest => k_is)
    (case on_Covers_ways => k_is)
    (case oia_Covers => k_is)
    (case oit_Covers => k_is)
    (case oil_Covers => k_is)
    (case oic_Covers => k_is)
    (case oik_Covers => k_is)
    (case a0 => k_is)
    (case l0 => k_is)
    (case c0 => k_is)
    (case k0 => k_is)
    (case a1 => k_is)
    (case l1 => k_is)
    (case c1 => k_is)
    (case k1 => k_is)
    (case a2 => k_is)
    (case l2 => k_is)
    (case c2 => k_is)
    (case k2 => k_is)
    (case a3 => k_is)
    (case l3 => k_is)
    (case c3 => k_is)
    (case k3 => k_is)
    (case a4 => k_is)
    (case l4 => k_is)
    (case c4 => k_is)
    (case k4 => k_is)
    (case a5 => k_is)
    (case l5 => k_is)
    (case c5 => k_is)
    (case k5 => k_is)
    (case a6 => k_is)
    (case j6 => k_is)
    (case l6 => k_is)
    (case c6 => k_is)
    (case k6 => k_is)
    (case a7 => k_is)
    (case j7 => k_is)
    (case l7 => k_is)
    (case c7 => k_is)
    (case k7 => k_is)
    (case a8 => k_is)
    (case l8 => k_is)
    (case c8 => k_is)
    (case k8 => k_is)
    (case a9 => k_is)
    (case l9 => k_is)
    (case c9 => k_is)
    (case k9 => k_is)
    (case a10 => k_is)
    (case j10 => k_is)
    (case l10 => k_is)
    (case c10 => k_is)
    (case k10 => k_is)
    (case a11 => k_is)
    (case l11 => k_is)
    (case c11 => k_is)
    (case k11 => k_is)
    (case a12 => k_is)
    (case l12 => k_is)
    (case c12 => k_is)
    (case k12 => k_is)
    (case w12 => k_is)
    (case a13 => k_is)
    (case l13 => k_is)
    (case c13 => k_is)
    (case k13 => k_is)
    (case a14 => k_is)
    (case l14 => k_is)
    (case c14 => k_is)
    (case k14 => k_is)
    (case a15 => k_is)
    (case l15 => k_is)
    (case c15 => k_is)
    (case k15 => k_is)
    (case a16 => k_is)
    (case l16 => k_is)
    (case c16 => k_is)
    (case k16 => k_is)
    (case a17 => k_is)
    (case l17 => k_is)
    (case c17 => k_is)
    (case k17 => k_is)
    (case a18 => k_is)
    (case l18 => k_is)
    (case c18 => k_is)
    (case k18 => k_is)
    (case z_abs => k_is)
    (case z_bool => k_is)
    (case z_enumerate => k_is)
    (case z_int => k_is)
    (case z_isinstance => k_is)
    (case z_len => k_is)
    (case z_list => k_is)
    (case z_max => k_is)
    (case z_min => k_is)
    (case z_range => k_is)
    (case z_repr => k_is)
    (case z_set => k_is)
    (case z_sorted => k_is)
    (case z_str => k_is)
    (case z_sum => k_is)
    (case z_tuple => k_is)
    (case y_LEFT => k_is)
    (case y_RIGHT => k_is)
    (case q_NoIndex => k_is)
    (case q_FallError => k_is)
    (case xl_NoIndex => k_is)
    (case sa_NoIndex => k_is)
    (case ga_NoIndex => k_is)
    (case gg_NoIndex => k_is)
    (case cl_NoIndex => k_is)
    (case kc_NoIndex => k_is)
    (case be_NoIndex => k_is)
    (case ty_NoIndex => k_is)
    (case hd_NoIndex => k_is)
    (case ob_NoIndex => k_is)
    (case ve_NoIndex => k_is)
    (case se_NoIndex => k_is)
    (case nf_NoIndex_index => k_is)
    (case i_NoIndex_a => k_is)
    (case i_NoIndex_t => k_is)
    (case i_NoIndex_l => k_is)
    (case i_NoIndex_c => k_is)
    (case i_NoIndex_k => k_is)
