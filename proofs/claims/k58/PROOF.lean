import PyProof.Rows.All
import Wide.All
import OpenK.AllK
import Wide.FinOn
import HandS.ForMost
import HandS.ForExc
import HandS.CallSlots
import HandS.IsInst
import HandS.Deep
import HandS.SortInts
import HandS.Style
import HandS.Wide
import HandS.TupAny
import HandS.Conv
import HandS.Iter
import HandS.More
import HandS.RevRange
import HandS.ExcInit
import HandS.ExcField
import HandS.ExcIs
import KE.DataMinMax
import HandS.Star
import KE.GoesEnum
import HandS.Zip
import HandS.SetFor
import HandS.Strs
import HandS.TryOnly
import HandS.HotCalls
import HandS.ExcOwn
import KE.SortData
import PyProof.Rows.RowBridgeK
import HandS.Lambda
import HandS.EndTab
import PyProof.EqKinds
import PyProof.P3In
import PyProof.FactsAll.dict_1
import PyProof.FactsAll.subtypes_4
import HandS.Dict
import PyProof.Rows.SortShellAny
import PyProof.TupleOfSeq
import KE.DatumOrd
import KE.KDictZip
import KE.GoesZip
import KE.GoesMore
import HandS.Zip0
import HandS.ListItems
import PyProof.FactsAll.subtypes_1
import PyProof.FactsAll.int_1
import PyProof.WalksMore
import PyProof.SumWalkG
import PyProof.Rows.SumAny
import HandS.TupMul
import KE.KDictKeyed
import KE.DataCmp
import KE.KDictDisplayH
import KE.KDictWalk
import KE.KItemsList
import HandS.TupSets
import KE.KeyNested
import HandS.Text
import HandS.FStr
import HandS.Flow
import HandS.RaiseMore
import PyProof.StrOps2
import KE.IntTextLaws
import KE.OsRunLaw
import PySem.Challenge.RW_toppleline_k58_whole_many_copies
set_option Elab.async false
set_option linter.all false
set_option maxRecDepth 100000
set_option maxHeartbeats 4000000
set_option exponentiation.threshold 3000
namespace DL
open PySem PySem.Spec L2
def keyD : Key → PyData
  | .inl i => .int i
  | .inr x => .str x
def bigI : Int := 2 ^ 1920
abbrev objK : PyData := .tuple [.int bigI]
structure ObjC (K : PySem.W.Frag) (nm : Str) (C : Addr) : Prop where
  cls : Cls K C
  ns : PySem.W.nsIn K mainGlobals nm = some (some (.ref C))
  ha : PySem.W.findIn K (.ref C) "__class__" = some (some (.builtin "object.__class__"))
  hn : PySem.W.specialIn K (.builtin "object.__class__") "__get__" = some (some (.builtin "getset_descriptor.__get__"))
  htk : PySem.W.takesIn K (.builtin "object.__class__") = some true
  hm : PySem.W.mroIn K C (.type "object") = some true
  no : ∀ T ∈ (["int", "bool", "str", "tuple", "list", "dict"] : List String), PySem.W.kitOne K (.ref C) (.type T) = some false
def fKv (fs : List (Str × V)) : List (Key × V) := fs.map fun p => (.inr p.1, p.2)
def isObj : List (PyData × PyData) → Bool
  | (.tuple _, _) :: _ => true
  | _ => false
mutual
inductive At (K : PySem.W.Frag) (F : Hp) : V → PyData → Prop
  | non : At K F .non .none
  | bl (b : Bool) : At K F (.bl b) (.bool b)
  | int (i : Int) : At K F (.int i) (.int i)
  | str (x : Str) : At K F (.str x) (.str x)
  | lst {a : Addr} {vs : List V} {ds : List PyData} : F a = some (.lst vs) → AtL K F vs ds → At K F (.ref a) (.list ds)
  | tup {a : Addr} {vs : List V} {ds : List PyData} : F a = some (.tup vs) → AtL K F vs ds → At K F (.ref a) (.tuple ds)
  | dct {a : Addr} {kvs : List (Key × V)} {ds : List (PyData × PyData)} : Rd F a (.dK kvs) → AtKv K F kvs ds → At K F (.ref a) (.dict ds)
  | obj {a C dx : Addr} {nm : Str} {fs : List (Str × V)} {ds : List (PyData × PyData)} : F a = some (.ins C dx fs) → ObjC K nm C → (∀ p ∈ fs, NoAttr K C p.1) → AtKv K F (fKv fs) ds → At K F (.ref a) (.dict ((objK, .str nm) :: ds))
inductive AtL (K : PySem.W.Frag) (F : Hp) : List V → List PyData → Prop
  | nil : AtL K F [] []
  | cons {v : V} {vs : List V} {d : PyData} {ds : List PyData} : At K F v d → AtL K F vs ds → AtL K F (v :: vs) (d :: ds)
inductive AtKv (K : PySem.W.Frag) (F : Hp) : List (Key × V) → List (PyData × PyData) → Prop
  | nil : AtKv K F [] []
  | cons {k : Key} {v : V} {r : List (Key × V)} {d : PyData} {ds : List (PyData × PyData)} : At K F v d → AtKv K F r ds → AtKv K F ((k, v) :: r) ((keyD k, d) :: ds)
end
theorem rd_mono {F F' : Hp} (e : Same F F') {a : Addr} {u : HO} (h : Rd F a u) : Rd F' a u := by
  rcases h with h | ⟨o, h⟩
  · exact .inl (e _ _ h)
  · exact .inr ⟨o, e _ _ h⟩
theorem sqL_mono {K : PySem.W.Frag} {F F' : Hp} (e : Same F F') {a : Addr} {vs : List V} (h : SqL K F a vs) : SqL K F' a vs := e.seq h
theorem sqT_mono {K : PySem.W.Frag} {F F' : Hp} (e : Same F F') {a : Addr} {vs : List V} (h : SqT K F a vs) : SqT K F' a vs := by
  rcases h with (h | ⟨o, h⟩) | h
  · exact .inl (.inl (e _ _ h))
  · exact .inl (.inr ⟨o, e _ _ h⟩)
  · exact .inr h
section
variable {K : PySem.W.Frag} {F F' : Hp}
mutual
theorem At.mono (e : Same F F') : ∀ (d : PyData) (v : V), At K F v d → At K F' v d
  | .none, _, h => by cases h; exact .non
  | .bool b, _, h => by cases h; exact .bl b
  | .int i, _, h => by cases h; exact .int i
  | .str x, _, h => by cases h; exact .str x
  | .list ds, _, h => by
    cases h with
    | lst hs ha => exact .lst (e _ _ hs) (AtL.mono e ds _ ha)
  | .tuple ds, _, h => by
    cases h with
    | tup hs ha => exact .tup (e _ _ hs) (AtL.mono e ds _ ha)
  | .dict ds, _, h => by
    cases h with
    | dct hs ha => exact .dct (rd_mono e hs) (AtKv.mono e ds _ ha)
    | obj hs ho hn ha => exact .obj (e _ _ hs) ho hn (AtKv.mono e _ _ ha)
theorem AtL.mono (e : Same F F') : ∀ (ds : List PyData) (vs : List V), AtL K F vs ds → AtL K F' vs ds
  | [], _, h => by cases h; exact .nil
  | d :: ds, _, h => by
    cases h with
    | cons h1 h2 => exact .cons (At.mono e d _ h1) (AtL.mono e ds _ h2)
theorem AtKv.mono (e : Same F F') : ∀ (ds : List (PyData × PyData)) (kvs : List (Key × V)), AtKv K F kvs ds → AtKv K F' kvs ds
  | [], _, h => by cases h; exact .nil
  | (k, d) :: ds, _, h => by
    cases h with
    | cons h1 h2 => exact .cons (At.mono e d _ h1) (AtKv.mono e ds _ h2)
end
inductive AtKt (K : PySem.W.Frag) (F : Hp) : List (List Key × V) → List (List Key × PyData) → Prop
  | nil : AtKt K F [] []
  | cons {k : List Key} {v : V} {r : List (List Key × V)} {d : PyData} {ds : List (List Key × PyData)} : At K F v d → AtKt K F r ds → AtKt K F ((k, v) :: r) ((k, d) :: ds)
theorem AtKt.mono (e : Same F F') : ∀ (ds : List (List Key × PyData)) (kvs : List (List Key × V)), AtKt K F kvs ds → AtKt K F' kvs ds
  | [], _, h => by cases h; exact .nil
  | (k, d) :: ds, _, h => by
    cases h with
    | cons h1 h2 => exact .cons (At.mono e d _ h1) (AtKt.mono e ds _ h2)
theorem AtL.length : ∀ {vs : List V} {ds : List PyData}, AtL K F vs ds → vs.length = ds.length
  | _, _, .nil => rfl
  | _, _, .cons _ h => by rw [List.length_cons, List.length_cons, AtL.length h]
theorem AtL.get : ∀ {vs : List V} {ds : List PyData} {i : Nat} {d : PyData}, AtL K F vs ds → ds[i]? = some d → ∃ v, vs[i]? = some v ∧ At K F v d
  | _, _, i, d, .nil, e => by simp at e
  | _, _, 0, d, .cons h _, e => by
    simp at e
    subst e
    exact ⟨_, rfl, h⟩
  | _, _, i + 1, d, .cons _ h, e => by
    obtain ⟨v, h1, h2⟩ := AtL.get (i := i) (d := d) h (by simpa using e)
    exact ⟨v, by simpa using h1, h2⟩
theorem AtL.append : ∀ {vs ws : List V} {ds es : List PyData}, AtL K F vs ds → AtL K F ws es → AtL K F (vs ++ ws) (ds ++ es)
  | _, _, _, _, .nil, h => h
  | _, _, _, _, .cons h t, h' => .cons h (AtL.append t h')
theorem AtL.take : ∀ {vs : List V} {ds : List PyData} (n : Nat), AtL K F vs ds → AtL K F (vs.take n) (ds.take n)
  | _, _, 0, _ => .nil
  | _, _, n + 1, .nil => .nil
  | _, _, n + 1, .cons h t => .cons h (AtL.take n t)
theorem AtL.drop : ∀ {vs : List V} {ds : List PyData} (n : Nat), AtL K F vs ds → AtL K F (vs.drop n) (ds.drop n)
  | _, _, 0, h => h
  | _, _, n + 1, .nil => .nil
  | _, _, n + 1, .cons h t => AtL.drop n t
theorem AtL.set {v : V} {d : PyData} (h : At K F v d) : ∀ {vs : List V} {ds : List PyData} (n : Nat), AtL K F vs ds → AtL K F (vs.set n v) (ds.set n d)
  | _, _, _, .nil => .nil
  | _, _, 0, .cons _ t => .cons h t
  | _, _, n + 1, .cons g t => .cons g (AtL.set h n t)
theorem AtL.reverse : ∀ {vs : List V} {ds : List PyData}, AtL K F vs ds → AtL K F vs.reverse ds.reverse
  | _, _, .nil => .nil
  | _, _, .cons h t => by
    rw [List.reverse_cons, List.reverse_cons]
    exact (AtL.reverse t).append (.cons h .nil)
theorem AtL.rep {vs : List V} {ds : List PyData} (h : AtL K F vs ds) : ∀ k : Nat, AtL K F (List.replicate k vs).flatten (List.replicate k ds).flatten
  | 0 => .nil
  | k + 1 => by
    rw [List.replicate_succ, List.replicate_succ, List.flatten_cons, List.flatten_cons]
    exact h.append (AtL.rep h k)
theorem AtL.ints {vs : List V} : ∀ {ns : List Int}, AtL K F vs (ns.map PyData.int) → vs = ns.map V.int := by
  intro ns
  induction ns generalizing vs with
  | nil => intro h; cases h; rfl
  | cons n ns ih =>
    intro h
    cases h with
    | cons h1 h2 =>
      cases h1
      rw [ih h2]
      rfl
theorem atL_ints : ∀ (ns : List Int), AtL K F (ns.map V.int) (ns.map PyData.int)
  | [] => .nil
  | n :: ns => .cons (.int n) (atL_ints ns)
end
structure DExc where
  cls : Str
  arg : Option (Str × PyData)
structure LkP where
  a : Addr
  o : Obj
  k : List (Key × V)
structure LkT where
  a : Addr
  o : Obj
  k : List (List Key × V)
inductive FV where
  | d (x : PyData)
  | r (a : Addr)
inductive AtF (K : PySem.W.Frag) (F : Hp) : V → FV → Prop
  | d {v : V} {x : PyData} : At K F v x → AtF K F v (.d x)
  | r (a : Addr) : AtF K F (.ref a) (.r a)
inductive AtFs (K : PySem.W.Frag) (F : Hp) : List (Str × V) → List (Str × FV) → Prop
  | nil : AtFs K F [] []
  | cons {f : Str} {v : V} {r : List (Str × V)} {x : FV} {xs : List (Str × FV)} : AtF K F v x → AtFs K F r xs → AtFs K F ((f, v) :: r) ((f, x) :: xs)
theorem AtF.mono {K : PySem.W.Frag} {F F' : Hp} (e : Same F F') {v : V} {x : FV} (h : AtF K F v x) : AtF K F' v x := by
  cases h with
  | d h => exact .d (At.mono e _ _ h)
  | r a => exact .r a
theorem AtFs.mono {K : PySem.W.Frag} {F F' : Hp} (e : Same F F') : ∀ {vs : List (Str × V)} {fs : List (Str × FV)}, AtFs K F vs fs → AtFs K F' vs fs
  | _, _, .nil => .nil
  | _, _, .cons h r => .cons (h.mono e) (AtFs.mono e r)
inductive AtFl (K : PySem.W.Frag) (F : Hp) : List V → List FV → Prop
  | nil : AtFl K F [] []
  | cons {v : V} {r : List V} {x : FV} {xs : List FV} : AtF K F v x → AtFl K F r xs → AtFl K F (v :: r) (x :: xs)
theorem AtFl.mono {K : PySem.W.Frag} {F F' : Hp} (e : Same F F') : ∀ {vs : List V} {fs : List FV}, AtFl K F vs fs → AtFl K F' vs fs
  | _, _, .nil => .nil
  | _, _, .cons h r => .cons (h.mono e) (AtFl.mono e r)
def sqO (tup : Bool) (vs : List V) : HO := match tup with
  | true => .tup vs
  | false => .lst vs
inductive DV where
  | d (x : PyData)
  | own (xs : List PyData)
  | bor (xs : List PyData)
  | cask
  | raw (v : V)
  | scr (xs : List Int)
  | odk (ks : List (PyData × PyData))
  | bdk (ks : List (PyData × PyData))
  | olk (p : Unit → LkP) (ks : List (PyData × PyData))
  | blk (p : Unit → LkP) (ks : List (PyData × PyData))
  | ldk (p : Unit → LkP) (ks : List (PyData × PyData))
  | exc (a C : Addr) (d : Option Addr) (e : DExc)
  | odt (a : Addr) (ks : List (List Key × PyData))
  | bdt (a : Addr) (ks : List (List Key × PyData))
  | ldt (p : Unit → LkT) (ks : List (List Key × PyData))
  | ins (a : Addr) (nm : Str) (fs : List (Str × FV))
  | fvs (tup : Bool) (xs : List FV)
def DV.isOwn : DV → Bool
  | .ins _ _ _ => true
  | .own _ => true
  | .odk _ => true
  | .olk _ _ => true
  | .odt _ _ => true
  | _ => false
def DV.isBor : DV → Bool
  | .bor _ => true
  | .bdk _ => true
  | .blk _ _ => true
  | .bdt _ _ => true
  | _ => false
abbrev Env := List (Option DV)
structure Gm where
  K : PySem.W.Frag
  F0 : Hp
  B : Hp
  C : Addr → Prop
  cv : V
  J : Nat → Hp → Prop
  n : Nat
  lim : Nat
@[reducible] def Gm.up (G : Gm) (u : Nat) : Gm := { G with n := G.n + u }
theorem up_up {G : Gm} {a b : Nat} : (G.up a).up b = G.up (a + b) := by
  show ({ G with n := G.n + a + b } : Gm) = { G with n := G.n + (a + b) }
  rw [Nat.add_assoc]
structure Gm.Ok (G : Gm) : Prop where
  js : ∀ n H H', G.J n H → (∀ p, G.C p → H' p = H p) → (∀ p x, H p = some (.ext x) → H' p = some (.ext x)) → G.J n H'
  jm : ∀ n k H, n ≤ k → G.J n H → G.J k H
  jn : ∀ n H, G.J n H → ∀ p, G.C p → H p ≠ none
  cb : ∀ p, G.C p → G.B p ≠ none
  jt : ∀ n H, G.J n H → ∀ p, G.C p → ∀ vs, H p ≠ some (.tup vs)
def VOk (G : Gm) (F H : Hp) (v : V) : DV → Prop
  | .d x => At G.K F v x
  | .own xs => ∃ l vs, v = .ref l ∧ H l = some (.lst vs) ∧ AtL G.K F vs xs ∧ F l = none ∧ G.B l = none
  | .bor xs => ∃ l vs, v = .ref l ∧ H l = some (.lst vs) ∧ AtL G.K F vs xs ∧ G.B l = none
  | .cask => v = G.cv
  | .raw u => v = u
  | .scr xs => ∃ a, v = .ref a ∧ SqL G.K F a (xs.map V.int)
  | .fvs tup xs => ∃ a vs, v = .ref a ∧ F a = some (sqO tup vs) ∧ AtFl G.K F vs xs
  | .odk ks => ∃ l kvs, v = .ref l ∧ H l = some (.dK kvs) ∧ AtKv G.K F kvs ks ∧ F l = none ∧ G.B l = none
  | .bdk ks => ∃ l kvs, v = .ref l ∧ Rd H l (.dK kvs) ∧ AtKv G.K F kvs ks ∧ G.B l = none
  | .olk p ks => ∃ q : LkP, q = p () ∧ v = .ref (p ()).a ∧ H (p ()).a = some (.frz (p ()).o (.dK (p ()).k)) ∧ AtKv G.K F (p ()).k ks ∧ F (p ()).a = none ∧ G.B (p ()).a = none
  | .blk p ks => ∃ q : LkP, q = p () ∧ v = .ref (p ()).a ∧ H (p ()).a = some (.frz (p ()).o (.dK (p ()).k)) ∧ AtKv G.K F (p ()).k ks ∧ G.B (p ()).a = none
  | .ldk p ks => ∃ q : LkP, q = p () ∧ v = .ref (p ()).a ∧ F (p ()).a = some (.frz (p ()).o (.dK (p ()).k)) ∧ AtKv G.K F (p ()).k ks
  | .odt a ks => v = .ref a ∧ ∃ kvs, H a = some (.dT kvs) ∧ AtKt G.K F kvs ks ∧ F a = none ∧ G.B a = none
  | .ldt p ks => ∃ q : LkT, q = p () ∧ v = .ref (p ()).a ∧ F (p ()).a = some (.frz (p ()).o (.dT (p ()).k)) ∧ AtKt G.K F (p ()).k ks
  | .bdt a ks => v = .ref a ∧ ∃ kvs, Rd H a (.dT kvs) ∧ AtKt G.K F kvs ks ∧ G.B a = none
  | .ins a nm fs => v = .ref a ∧ ∃ (C dx : Addr) (vs : List (Str × V)), H a = some (.ins C dx vs) ∧ ObjC G.K nm C ∧ (∀ p ∈ vs, NoAttr G.K C p.1) ∧ AtFs G.K F vs fs ∧ F a = none ∧ G.B a = none
  | .exc a _ d e => v = .ref a ∧ match e.arg with
    | none => d = none
    | some (f, x) => ∃ dd w, d = some dd ∧ F dd = some (.xd [(f, w)]) ∧ At G.K F w x
structure Good (G : Gm) (F : Hp) (δ : Env) (σ : L2.St) (H : Hp) : Prop where
  g : G.Ok
  len : δ.length = σ.length
  f0 : Same G.F0 F
  fh : Same F H
  fr : ∀ p, F p ≠ none → G.F0 p = none → G.B p = none ∨ ∃ vs, F p = some (.tup vs)
  bh : ∀ p o, ¬ G.C p → G.B p = some o → H p = some o
  cf : ∀ p, G.C p → F p = none
  jh : G.J G.n H
  sl : ∀ (i : Nat) (dv : DV), δ[i]? = some (some dv) → ∃ v, σ[i]? = some (some v) ∧ VOk G F H v dv
  di : ∀ (i j : Nat) (x y : DV) (l : Addr), x.isOwn = true → y.isOwn = true → δ[i]? = some (some x) → δ[j]? = some (some y) → σ[i]? = some (some (.ref l)) → σ[j]? = some (some (.ref l)) → i = j
section
variable {G : Gm} {F F' H H' : Hp} {δ δ' : Env} {σ σ' : L2.St} {v : V} {dv : DV}
theorem VOk.keep (h : VOk G F H v dv) (hf : Same F F') (hh : ∀ l (o : HO), (dv.isOwn || dv.isBor) = true → v = .ref l → H l = some o → H' l = some o) (hn : ∀ l, dv.isOwn = true → v = .ref l → F l = none → F' l = none) : VOk G F' H' v dv := by
  cases dv with
  | d x => exact At.mono hf _ _ h
  | own xs =>
    obtain ⟨l, vs, rfl, h1, h2, h3, h4⟩ := h
    exact ⟨l, vs, rfl, hh l _ rfl rfl h1, AtL.mono hf _ _ h2, hn l rfl rfl h3, h4⟩
  | bor xs =>
    obtain ⟨l, vs, rfl, h1, h2, h3⟩ := h
    exact ⟨l, vs, rfl, hh l _ rfl rfl h1, AtL.mono hf _ _ h2, h3⟩
  | odk xs =>
    obtain ⟨l, vs, rfl, h1, h2, h3, h4⟩ := h
    exact ⟨l, vs, rfl, hh l _ rfl rfl h1, AtKv.mono hf _ _ h2, hn l rfl rfl h3, h4⟩
  | bdk xs =>
    obtain ⟨l, vs, rfl, h1, h2, h3⟩ := h
    refine ⟨l, vs, rfl, ?_, AtKv.mono hf _ _ h2, h3⟩
    rcases h1 with h1 | ⟨o, h1⟩
    · exact .inl (hh l _ rfl rfl h1)
    · exact .inr ⟨o, hh l _ rfl rfl h1⟩
  | olk p xs =>
    obtain ⟨_, _, rfl, h1, h2, h3, h4⟩ := h
    exact ⟨_, rfl, rfl, hh _ _ rfl rfl h1, AtKv.mono hf _ _ h2, hn _ rfl rfl h3, h4⟩
  | blk p xs =>
    obtain ⟨_, _, rfl, h1, h2, h3⟩ := h
    exact ⟨_, rfl, rfl, hh _ _ rfl rfl h1, AtKv.mono hf _ _ h2, h3⟩
  | ldk p xs =>
    obtain ⟨_, _, rfl, h1, h2⟩ := h
    exact ⟨_, rfl, rfl, hf _ _ h1, AtKv.mono hf _ _ h2⟩
  | odt a xs =>
    obtain ⟨rfl, vs, h1, h2, h3, h4⟩ := h
    exact ⟨rfl, vs, hh a _ rfl rfl h1, AtKt.mono hf _ _ h2, hn a rfl rfl h3, h4⟩
  | bdt a xs =>
    obtain ⟨rfl, vs, h1, h2, h3⟩ := h
    refine ⟨rfl, vs, ?_, AtKt.mono hf _ _ h2, h3⟩
    rcases h1 with h1 | ⟨o, h1⟩
    · exact .inl (hh a _ rfl rfl h1)
    · exact .inr ⟨o, hh a _ rfl rfl h1⟩
  | ldt p xs =>
    obtain ⟨_, _, rfl, h1, h2⟩ := h
    exact ⟨_, rfl, rfl, hf _ _ h1, AtKt.mono hf _ _ h2⟩
  | ins a nm fs =>
    obtain ⟨rfl, C, dx, vs, h1, h2, h3, h4, h5, h6⟩ := h
    exact ⟨rfl, C, dx, vs, hh a _ rfl rfl h1, h2, h3, AtFs.mono hf h4, hn a rfl rfl h5, h6⟩
  | cask => exact h
  | raw u => exact h
  | scr xs =>
    obtain ⟨a, h1, h2⟩ := h
    exact ⟨a, h1, sqL_mono hf h2⟩
  | fvs tup xs =>
    obtain ⟨a, vs, h1, h2, h3⟩ := h
    exact ⟨a, vs, h1, hf _ _ h2, h3.mono hf⟩
  | exc a C d er =>
    obtain ⟨cn, arg⟩ := er
    cases arg with
    | none => exact h
    | some p =>
      obtain ⟨f, x⟩ := p
      obtain ⟨e, dd, w, h1, h2, h3⟩ := h
      exact ⟨e, dd, w, h1, hf _ _ h2, At.mono hf _ _ h3⟩
theorem own_at (h : VOk G F H v dv) (ho : dv.isOwn = true) : ∃ l o, v = .ref l ∧ H l = some o ∧ F l = none ∧ G.B l = none := by
  cases dv with
  | own xs =>
    obtain ⟨l, vs, h0, h1, h2, h3, h4⟩ := h
    exact ⟨l, _, h0, h1, h3, h4⟩
  | odk xs =>
    obtain ⟨l, vs, h0, h1, h2, h3, h4⟩ := h
    exact ⟨l, _, h0, h1, h3, h4⟩
  | olk p xs =>
    obtain ⟨_, _, h0, h1, h2, h3, h4⟩ := h
    exact ⟨_, _, h0, h1, h3, h4⟩
  | odt a xs =>
    obtain ⟨h0, vs, h1, h2, h3, h4⟩ := h
    exact ⟨_, _, h0, h1, h3, h4⟩
  | ins a nm fs =>
    obtain ⟨h0, C, dx, vs, h1, _, _, _, h3, h4⟩ := h
    exact ⟨_, _, h0, h1, h3, h4⟩
  | _ => cases ho
theorem own_nt (h : VOk G F H v dv) (ho : dv.isOwn = true) {l : Addr} {o : HO} (hv : v = .ref l) (hl : H l = some o) : ∀ vs, o ≠ .tup vs := by
  intro vs e
  subst e
  cases dv with
  | own xs =>
    obtain ⟨l', _, h0, h1, _⟩ := h
    rw [hv] at h0; cases h0; rw [hl] at h1; cases h1
  | odk xs =>
    obtain ⟨l', _, h0, h1, _⟩ := h
    rw [hv] at h0; cases h0; rw [hl] at h1; cases h1
  | olk p xs =>
    obtain ⟨_, _, h0, h1, _⟩ := h
    rw [hv] at h0; cases h0; rw [hl] at h1; cases h1
  | odt a xs =>
    obtain ⟨h0, _, h1, _⟩ := h
    rw [hv] at h0; cases h0; rw [hl] at h1; cases h1
  | ins a nm fs =>
    obtain ⟨h0, C, dx, us, h1, _⟩ := h
    rw [hv] at h0; cases h0; rw [hl] at h1; cases h1
  | _ => cases ho
theorem own_ne {l : Addr} (h : VOk G F H (.ref l) dv) (ho : dv.isOwn = true) (φ : Heap → Prop) : H l ≠ some (.ext φ) := fun z => by
  cases dv with
  | own xs =>
    obtain ⟨l', vs, h0, h1, _⟩ := h
    cases h0
    rw [h1] at z
    cases z
  | odk xs =>
    obtain ⟨l', vs, h0, h1, _⟩ := h
    cases h0
    rw [h1] at z
    cases z
  | olk p xs =>
    obtain ⟨_, _, h0, h1, _⟩ := h
    cases h0
    rw [h1] at z
    cases z
  | odt a xs =>
    obtain ⟨h0, _, h1, _⟩ := h
    cases h0
    rw [h1] at z
    cases z
  | ins a nm fs =>
    obtain ⟨h0, C, dx, us, h1, _⟩ := h
    cases h0
    rw [h1] at z
    cases z
  | _ => cases ho
theorem bor_at (h : VOk G F H v dv) (ho : (dv.isOwn || dv.isBor) = true) : ∃ l o, v = .ref l ∧ H l = some o ∧ G.B l = none := by
  cases dv with
  | own xs =>
    obtain ⟨l, vs, h0, h1, h2, h3, h4⟩ := h
    exact ⟨l, _, h0, h1, h4⟩
  | odk xs =>
    obtain ⟨l, vs, h0, h1, h2, h3, h4⟩ := h
    exact ⟨l, _, h0, h1, h4⟩
  | bor xs =>
    obtain ⟨l, vs, h0, h1, h2, h4⟩ := h
    exact ⟨l, _, h0, h1, h4⟩
  | bdk xs =>
    obtain ⟨l, vs, h0, h1, h2, h4⟩ := h
    rcases h1 with h1 | ⟨o, h1⟩
    · exact ⟨l, _, h0, h1, h4⟩
    · exact ⟨l, _, h0, h1, h4⟩
  | olk p xs =>
    obtain ⟨_, _, h0, h1, h2, h3, h4⟩ := h
    exact ⟨_, _, h0, h1, h4⟩
  | blk p xs =>
    obtain ⟨_, _, h0, h1, h2, h4⟩ := h
    exact ⟨_, _, h0, h1, h4⟩
  | odt a xs =>
    obtain ⟨h0, vs, h1, h2, h3, h4⟩ := h
    exact ⟨_, _, h0, h1, h4⟩
  | bdt a xs =>
    obtain ⟨h0, vs, h1, h2, h4⟩ := h
    rcases h1 with h1 | ⟨o, h1⟩ <;> exact ⟨_, _, h0, h1, h4⟩
  | ins a nm fs =>
    obtain ⟨h0, C, dx, us, h1, _, _, _, _, h4⟩ := h
    exact ⟨_, _, h0, h1, h4⟩
  | _ => cases ho
theorem Good.get (g : Good G F δ σ H) {i : Nat} (e : δ[i]? = some (some dv)) : ∃ v, σ[i]? = some (some v) ∧ VOk G F H v dv := g.sl i dv e
theorem Good.top (g : Good G F (δ ++ [some dv]) (σ ++ [some v]) H) : VOk G F H v dv := by
  have hl : δ.length = σ.length := by
    have := g.len
    simpa using this
  obtain ⟨w, e, h⟩ := g.sl δ.length dv (by simp)
  rw [hl] at e
  simp at e
  subst e
  exact h
theorem Good.pop {x : Option DV} {y : Option V} (g : Good G F (δ ++ [x]) (σ ++ [y]) H) : Good G F δ σ H := by
  have hl : δ.length = σ.length := by
    have := g.len
    simpa using this
  have inD : ∀ {i : Nat} {z : DV}, δ[i]? = some (some z) → i < δ.length := fun {i z} e => (List.getElem?_eq_some_iff.mp e).1
  refine ⟨g.g, hl, g.f0, g.fh, g.fr, g.bh, g.cf, g.jh, fun i z e => ?_, fun i j a b l ha hb e1 e2 e3 e4 => ?_⟩
  · obtain ⟨w, e', h⟩ := g.sl i z (by rw [List.getElem?_append_left (inD e)]; exact e)
    rw [List.getElem?_append_left (by rw [← hl]; exact inD e)] at e'
    exact ⟨w, e', h⟩
  · exact g.di i j a b l ha hb (by rw [List.getElem?_append_left (inD e1)]; exact e1) (by rw [List.getElem?_append_left (inD e2)]; exact e2)
      (by rw [List.getElem?_append_left (by rw [← hl]; exact inD e1)]; exact e3) (by rw [List.getElem?_append_left (by rw [← hl]; exact inD e2)]; exact e4)
theorem Good.push (g : Good G F δ σ H) (h : VOk G F H v dv) (hd : dv.isOwn = true → ∀ (i : Nat) (x : DV), x.isOwn = true → δ[i]? = some (some x) → σ[i]? ≠ some (some v)) : Good G F (δ ++ [some dv]) (σ ++ [some v]) H := by
  have hl := g.len
  have cut : ∀ {α : Type} {l : List α} {a : α} {i : Nat} {z : α}, (l ++ [a])[i]? = some z → (i < l.length ∧ l[i]? = some z) ∨ (i = l.length ∧ a = z) := fun {α l a i z} e => by
    rcases Nat.lt_trichotomy i l.length with q | q | q
    · rw [List.getElem?_append_left q] at e
      exact .inl ⟨q, e⟩
    · subst q
      simp at e
      exact .inr ⟨rfl, e⟩
    · have : (l ++ [a])[i]? = none := List.getElem?_eq_none_iff.mpr (by simp; omega)
      rw [this] at e
      cases e
  refine ⟨g.g, by simp [hl], g.f0, g.fh, g.fr, g.bh, g.cf, g.jh, fun i z e => ?_, fun i j a b l ha hb e1 e2 e3 e4 => ?_⟩
  · rcases cut e with ⟨q, e⟩ | ⟨q, e⟩
    · obtain ⟨w, e', hw⟩ := g.sl i z e
      exact ⟨w, by rw [List.getElem?_append_left (by omega)]; exact e', hw⟩
    · cases e
      exact ⟨v, by rw [q, hl]; simp, h⟩
  · rcases cut e1 with ⟨q1, e1⟩ | ⟨q1, e1⟩
    · rw [List.getElem?_append_left (by omega)] at e3
      rcases cut e2 with ⟨q2, e2⟩ | ⟨q2, e2⟩
      · rw [List.getElem?_append_left (by omega)] at e4
        exact g.di i j a b l ha hb e1 e2 e3 e4
      · cases e2
        rw [q2, hl] at e4
        simp at e4
        subst e4
        exact absurd e3 (hd hb i a ha e1)
    · cases e1
      rw [q1, hl] at e3
      simp at e3
      subst e3
      rcases cut e2 with ⟨q2, e2⟩ | ⟨q2, e2⟩
      · rw [List.getElem?_append_left (by omega)] at e4
        exact absurd e4 (hd ha j b hb e2)
      · omega
theorem Good.pushD (g : Good G F δ σ H) {x : PyData} (h : At G.K F v x) : Good G F (δ ++ [some (.d x)]) (σ ++ [some v]) H := g.push h (fun z => by cases z)
theorem Good.grow (g : Good G F δ σ H) {p : Addr} {o : HO} (hp : H p = none) : Good G (upd F p o) δ σ (upd H p o) := by
  have fp : F p = none := by
    cases q : F p with
    | none => rfl
    | some u => rw [g.fh _ _ q] at hp; cases hp
  have cp : ¬ G.C p := fun c => g.g.jn _ H g.jh p c hp
  have bp : G.B p = none := by
    cases q : G.B p with
    | none => rfl
    | some u => rw [g.bh _ _ cp q] at hp; cases hp
  have hF : Same F (upd F p o) := fun b u e => by rw [upd_ne (ne_of_none e fp)]; exact e
  refine ⟨g.g, g.len, g.f0.trans hF, fun b u e => ?_, fun b e1 e2 => ?_, fun b u c e => ?_, fun b c => ?_, g.g.js _ _ _ g.jh (fun b c => ?_) (fun b x e => by rw [upd_ne (ne_of_none e hp)]; exact e), fun i z e => ?_, g.di⟩
  · by_cases q : b = p
    · subst q
      rw [upd_same] at e ⊢
      exact e
    · rw [upd_ne q] at e ⊢
      exact g.fh _ _ e
  · by_cases q : b = p
    · subst q
      exact .inl bp
    · rw [upd_ne q] at e1 ⊢
      exact g.fr b e1 e2
  · rw [upd_ne (ne_of_none (g.bh _ _ c e) hp)]
    exact g.bh _ _ c e
  · have q : b ≠ p := fun z => cp (z ▸ c)
    rw [upd_ne q]
    exact g.cf b c
  · exact upd_ne (fun z => cp (z ▸ c))
  · obtain ⟨w, e', h⟩ := g.sl i z e
    refine ⟨w, e', h.keep hF (fun l vs _ _ hl => by rw [upd_ne (ne_of_none hl hp)]; exact hl) fun l ho hv hl => ?_⟩
    obtain ⟨l', o', q1, q2, _⟩ := own_at h ho
    rw [hv] at q1
    cases q1
    rw [upd_ne (ne_of_none q2 hp)]
    exact hl
theorem Good.newT (g : Good G F δ σ H) {p : Addr} {vs : List V} {ds : List PyData} (hp : H p = none) (h : AtL G.K F vs ds) : Good G (upd F p (.tup vs)) (δ ++ [some (.d (.tuple ds))]) (σ ++ [some (.ref p)]) (upd H p (.tup vs)) := by
  have fp : F p = none := by
    cases q : F p with
    | none => rfl
    | some u => rw [g.fh _ _ q] at hp; cases hp
  have hF : Same F (upd F p (.tup vs)) := fun b u e => by rw [upd_ne (ne_of_none e fp)]; exact e
  exact (g.grow (o := .tup vs) hp).pushD (.tup upd_same (AtL.mono hF _ _ h))
theorem Good.newG (g : Good G F δ σ H) {p : Addr} {o : HO} {y : DV} (hp : H p = none) (h : ∀ H' : Hp, H' p = some o → F p = none → G.B p = none → VOk G F H' (.ref p) y) : Good G F (δ ++ [some y]) (σ ++ [some (.ref p)]) (upd H p o) := by
  have fp : F p = none := by
    cases q : F p with
    | none => rfl
    | some u => rw [g.fh _ _ q] at hp; cases hp
  have cp : ¬ G.C p := fun c => g.g.jn _ H g.jh p c hp
  have bp : G.B p = none := by
    cases q : G.B p with
    | none => rfl
    | some u => rw [g.bh _ _ cp q] at hp; cases hp
  have g1 : Good G F δ σ (upd H p o) := by
    refine ⟨g.g, g.len, g.f0, fun b u e => ?_, g.fr, fun b u c e => ?_, g.cf, g.g.js _ _ _ g.jh (fun b c => upd_ne (fun z => cp (z ▸ c))) (fun b x e => by rw [upd_ne (ne_of_none e hp)]; exact e), fun i z e => ?_, g.di⟩
    · rw [upd_ne (ne_of_none (g.fh _ _ e) hp)]
      exact g.fh _ _ e
    · rw [upd_ne (ne_of_none (g.bh _ _ c e) hp)]
      exact g.bh _ _ c e
    · obtain ⟨w, e', h'⟩ := g.sl i z e
      exact ⟨w, e', h'.keep (fun _ _ q => q) (fun l vs _ _ hl => by rw [upd_ne (ne_of_none hl hp)]; exact hl) fun l _ _ hl => hl⟩
  refine g1.push (h _ upd_same fp bp) fun _ i x hx e q => ?_
  obtain ⟨w, e', h'⟩ := g.sl i x e
  rw [q] at e'
  cases e'
  obtain ⟨l, o', q1, q2, _⟩ := own_at h' hx
  cases q1
  rw [hp] at q2
  cases q2
theorem Good.newO (g : Good G F δ σ H) {p : Addr} {vs : List V} {ds : List PyData} (hp : H p = none) (h : AtL G.K F vs ds) : Good G F (δ ++ [some (.own ds)]) (σ ++ [some (.ref p)]) (upd H p (.lst vs)) :=
  g.newG hp fun H' e f b => ⟨p, vs, rfl, e, h, f, b⟩
theorem Good.newK (g : Good G F δ σ H) {p : Addr} {kvs : List (Key × V)} {ks : List (PyData × PyData)} (hp : H p = none) (h : AtKv G.K F kvs ks) : Good G F (δ ++ [some (.odk ks)]) (σ ++ [some (.ref p)]) (upd H p (.dK kvs)) :=
  g.newG hp fun H' e f b => ⟨p, kvs, rfl, e, h, f, b⟩
theorem get_set {α : Type} {l : List α} {i j : Nat} {a z : α} (e : (l.set i a)[j]? = some z) : (j = i ∧ a = z ∧ i < l.length) ∨ (j ≠ i ∧ l[j]? = some z) := by
  by_cases q : j = i
  · subst q
    have hj : j < l.length := by
      have := (List.getElem?_eq_some_iff.mp e).1
      simpa using this
    rw [List.getElem?_set_self hj] at e
    cases e
    exact .inl ⟨rfl, rfl, hj⟩
  · rw [List.getElem?_set_ne (fun z => q z.symm)] at e
    exact .inr ⟨q, e⟩
theorem Good.setTop (g : Good G F (δ ++ [some dv]) (σ ++ [some v]) H) {i : Nat} (hi : i < δ.length) : Good G F (δ.set i (some dv)) (σ.set i (some v)) H := by
  have hl : δ.length = σ.length := by
    have := g.len
    simpa using this
  have q := g.pop
  have low : ∀ {j : Nat} {z : DV}, δ[j]? = some (some z) → (δ ++ [some dv])[j]? = some (some z) := fun {j z} e => by
    rw [List.getElem?_append_left (List.getElem?_eq_some_iff.mp e).1]; exact e
  have lowS : ∀ {j : Nat} {z : V}, σ[j]? = some (some z) → (σ ++ [some v])[j]? = some (some z) := fun {j z} e => by
    rw [List.getElem?_append_left (List.getElem?_eq_some_iff.mp e).1]; exact e
  have topD : (δ ++ [some dv])[δ.length]? = some (some dv) := by simp
  have topS : (σ ++ [some v])[δ.length]? = some (some v) := by rw [hl]; simp
  refine ⟨g.g, by simp [hl], g.f0, g.fh, g.fr, g.bh, g.cf, g.jh, fun j z e => ?_, fun j k a b l ha hb e1 e2 e3 e4 => ?_⟩
  · rcases get_set e with ⟨rfl, e', hj⟩ | ⟨hj, e'⟩
    · cases e'
      exact ⟨v, List.getElem?_set_self (by omega), g.top⟩
    · obtain ⟨w, h1, h2⟩ := q.sl j z e'
      exact ⟨w, by rw [List.getElem?_set_ne (fun z => hj z.symm)]; exact h1, h2⟩
  · rcases get_set e1 with ⟨rfl, f1, _⟩ | ⟨h1, f1⟩
    · cases f1
      rcases get_set e2 with ⟨rfl, f2, _⟩ | ⟨h2, f2⟩
      · rfl
      · rw [List.getElem?_set_self (by omega)] at e3
        cases e3
        rw [List.getElem?_set_ne (fun z => h2 z.symm)] at e4
        have r := g.di _ _ _ _ l ha hb topD (low f2) topS (lowS e4)
        have := (List.getElem?_eq_some_iff.mp f2).1
        omega
    · rw [List.getElem?_set_ne (fun z => h1 z.symm)] at e3
      rcases get_set e2 with ⟨rfl, f2, _⟩ | ⟨h2, f2⟩
      · cases f2
        rw [List.getElem?_set_self (by omega)] at e4
        cases e4
        have r := g.di _ _ _ _ l ha hb (low f1) topD (lowS e3) topS
        have := (List.getElem?_eq_some_iff.mp f1).1
        omega
      · rw [List.getElem?_set_ne (fun z => h2 z.symm)] at e4
        exact q.di _ _ _ _ l ha hb f1 f2 e3 e4
theorem own_nc (g : Good G F δ σ H) {l : Addr} (h : G.B l = none) : ¬ G.C l := fun c => g.g.cb l c h
theorem Good.freezeG (g : Good G F δ σ H) {n : Nat} {x : DV} {y : PyData} (ho : x.isOwn = true) (e : δ[n]? = some (some x)) (hx : ∀ v F' l o, VOk G F H v x → v = .ref l → H l = some o → Same F F' → F' l = some o → At G.K F' v y) : ∃ F', Same F F' ∧ Good G F' (δ.set n (some (.d y))) σ H := by
  obtain ⟨v, ev, hv⟩ := g.sl n _ e
  obtain ⟨l, o, rfl, h1, h3, h4⟩ := own_at hv ho
  have hn : n < δ.length := (List.getElem?_eq_some_iff.mp e).1
  have hF : Same F (upd F l o) := fun b u q => by rw [upd_ne (ne_of_none q h3)]; exact q
  have cl := own_nc g h4
  refine ⟨upd F l o, hF, g.g, by simpa using g.len, g.f0.trans hF, fun b u q => ?_, fun b q1 q2 => ?_, g.bh, fun b c => ?_, g.jh, fun i z q => ?_, fun i j a b p ha hb e1 e2 e3 e4 => ?_⟩
  · by_cases hb : b = l
    · subst hb
      rw [upd_same] at q
      cases q
      exact h1
    · rw [upd_ne hb] at q
      exact g.fh _ _ q
  · by_cases hb : b = l
    · subst hb
      exact .inl h4
    · rw [upd_ne hb] at q1 ⊢
      exact g.fr b q1 q2
  · rw [upd_ne (fun z : b = l => cl (z ▸ c))]
    exact g.cf b c
  · rcases get_set q with ⟨rfl, q', _⟩ | ⟨hi, q'⟩
    · cases q'
      exact ⟨_, ev, hx _ _ l o hv rfl h1 hF upd_same⟩
    · obtain ⟨w, ew, hw⟩ := g.sl i z q'
      refine ⟨w, ew, hw.keep hF (fun _ _ _ _ q => q) fun p hz hq hp => ?_⟩
      by_cases hpl : p = l
      · subst hpl
        subst hq
        exact absurd (g.di i n z _ p hz ho q' e ew ev) hi
      · rw [upd_ne hpl]
        exact hp
  · have back : ∀ {i : Nat} {z : DV}, z.isOwn = true → (δ.set n (some (.d y)))[i]? = some (some z) → δ[i]? = some (some z) := fun {i z} ho q => by
      rcases get_set q with ⟨rfl, q', _⟩ | ⟨_, q'⟩
      · cases q'
        cases ho
      · exact q'
    exact g.di i j a b p ha hb (back ha e1) (back hb e2) e3 e4
theorem Good.freeze (g : Good G F δ σ H) {n : Nat} {xs : List PyData} (e : δ[n]? = some (some (.own xs))) : ∃ F', Same F F' ∧ Good G F' (δ.set n (some (.d (.list xs)))) σ H :=
  g.freezeG rfl e fun v F' l o h ev eo hs hl => by
    obtain ⟨l', vs, e1, e2, e3, _⟩ := h
    subst e1
    cases ev
    rw [eo] at e2
    cases e2
    exact .lst hl (AtL.mono hs _ _ e3)
theorem Good.freezeK (g : Good G F δ σ H) {n : Nat} {xs : List (PyData × PyData)} (e : δ[n]? = some (some (.odk xs))) : ∃ F', Same F F' ∧ Good G F' (δ.set n (some (.d (.dict xs)))) σ H :=
  g.freezeG rfl e fun v F' l o h ev eo hs hl => by
    obtain ⟨l', vs, e1, e2, e3, _⟩ := h
    subst e1
    cases ev
    rw [eo] at e2
    cases e2
    exact .dct (.inl hl) (AtKv.mono hs _ _ e3)
theorem Good.freezeL (g : Good G F δ σ H) {n : Nat} {p : Unit → LkP} {xs : List (PyData × PyData)} (e : δ[n]? = some (some (.olk p xs))) : ∃ F', Same F F' ∧ Good G F' (δ.set n (some (.d (.dict xs)))) σ H :=
  g.freezeG rfl e fun v F' l o h ev eo hs hl => by
    obtain ⟨_, _, e1, e2, e3, _⟩ := h
    subst e1
    cases ev
    rw [eo] at e2
    cases e2
    exact .dct (.inr ⟨_, hl⟩) (AtKv.mono hs _ _ e3)
def NoBor (δ : Env) : Prop := ∀ (i : Nat) (x : DV), δ[i]? = some (some x) → x.isBor = false
theorem Good.writeG (g : Good G F δ σ H) {n : Nat} {x y : DV} {l : Addr} {o : HO} (hx : x.isOwn = true) (hy : y.isOwn = true) (nb : ∀ (j : Nat) (x : DV), δ[j]? = some (some x) → x.isBor = true → σ[j]? ≠ some (some (.ref l))) (e : δ[n]? = some (some x)) (el : σ[n]? = some (some (.ref l)))
    (h : ∀ H' : Hp, H' l = some o → F l = none → G.B l = none → VOk G F H' (.ref l) y) : Good G F (δ.set n (some y)) σ (upd H l o) := by
  obtain ⟨v, ev, hv⟩ := g.sl n _ e
  obtain ⟨l', o', rfl, h1, h3, h4⟩ := own_at hv hx
  rw [ev] at el
  cases el
  have hn : n < δ.length := (List.getElem?_eq_some_iff.mp e).1
  have cl := own_nc g h4
  refine ⟨g.g, by simpa using g.len, g.f0, fun b u q => ?_, g.fr, fun b u c q => ?_, g.cf, g.g.js _ _ _ g.jh (fun b c => upd_ne (fun z => cl (z ▸ c))) (fun b φ e => (upd_ne (fun z => own_ne hv hx φ (by rw [← z]; exact e))).trans e), fun i z q => ?_, fun i j a b p ha hb e1 e2 e3 e4 => ?_⟩
  · rw [upd_ne (ne_of_none q h3)]
    exact g.fh _ _ q
  · rw [upd_ne (ne_of_none q h4)]
    exact g.bh _ _ c q
  · rcases get_set q with ⟨rfl, q', _⟩ | ⟨hi, q'⟩
    · cases q'
      exact ⟨_, ev, h _ upd_same h3 h4⟩
    · obtain ⟨w, ew, hw⟩ := g.sl i z q'
      refine ⟨w, ew, hw.keep (Same.refl F) (fun p vs ho hq hp => ?_) fun _ _ _ q => q⟩
      by_cases hpl : p = l
      · subst hpl
        subst hq
        cases hz : z.isOwn with
        | true => exact absurd (g.di i n z _ p hz hx q' e ew ev) hi
        | false =>
          rw [hz, Bool.false_or] at ho
          exact absurd ew (nb i z q' ho)
      · rw [upd_ne hpl]
        exact hp
  · have back : ∀ {i : Nat} {z : DV}, z.isOwn = true → (δ.set n (some y))[i]? = some (some z) → ∃ z', z'.isOwn = true ∧ δ[i]? = some (some z') := fun {i z} ho q => by
      rcases get_set q with ⟨rfl, q', _⟩ | ⟨_, q'⟩
      · exact ⟨_, hx, e⟩
      · exact ⟨z, ho, q'⟩
    obtain ⟨a', ha', f1⟩ := back ha e1
    obtain ⟨b', hb', f2⟩ := back hb e2
    exact g.di i j a' b' p ha' hb' f1 f2 e3 e4
theorem Good.write' (g : Good G F δ σ H) {n : Nat} {xs ys : List PyData} {l : Addr} {ws : List V} (nb : ∀ (j : Nat) (x : DV), δ[j]? = some (some x) → x.isBor = true → σ[j]? ≠ some (some (.ref l))) (e : δ[n]? = some (some (.own xs))) (el : σ[n]? = some (some (.ref l))) (h : AtL G.K F ws ys) :
    Good G F (δ.set n (some (.own ys))) σ (upd H l (.lst ws)) := g.writeG rfl rfl nb e el fun H' q f b => ⟨l, ws, rfl, q, h, f, b⟩
theorem Good.write (g : Good G F δ σ H) (nb : NoBor δ) {n : Nat} {xs ys : List PyData} {l : Addr} {ws : List V} (e : δ[n]? = some (some (.own xs))) (el : σ[n]? = some (some (.ref l))) (h : AtL G.K F ws ys) :
    Good G F (δ.set n (some (.own ys))) σ (upd H l (.lst ws)) := g.write' (fun j x q b => by rw [nb j x q] at b; cases b) e el h
theorem Good.writeK' (g : Good G F δ σ H) {n : Nat} {xs ys : List (PyData × PyData)} {l : Addr} {kvs : List (Key × V)} (nb : ∀ (j : Nat) (x : DV), δ[j]? = some (some x) → x.isBor = true → σ[j]? ≠ some (some (.ref l))) (e : δ[n]? = some (some (.odk xs))) (el : σ[n]? = some (some (.ref l))) (h : AtKv G.K F kvs ys) :
    Good G F (δ.set n (some (.odk ys))) σ (upd H l (.dK kvs)) := g.writeG rfl rfl nb e el fun H' q f b => ⟨l, kvs, rfl, q, h, f, b⟩
theorem Good.writeK (g : Good G F δ σ H) (nb : NoBor δ) {n : Nat} {xs ys : List (PyData × PyData)} {l : Addr} {kvs : List (Key × V)} (e : δ[n]? = some (some (.odk xs))) (el : σ[n]? = some (some (.ref l))) (h : AtKv G.K F kvs ys) :
    Good G F (δ.set n (some (.odk ys))) σ (upd H l (.dK kvs)) := g.writeK' (fun j x q b => by rw [nb j x q] at b; cases b) e el h
theorem Good.newT' (g : Good G F δ σ H) {p : Addr} (hp : H p = none) : Good G F (δ ++ [some (.odt p [])]) (σ ++ [some (.ref p)]) (upd H p (.dT [])) :=
  g.newG hp fun H' e f b => ⟨rfl, [], e, .nil, f, b⟩
theorem Good.writeT (g : Good G F δ σ H) {n : Nat} {xs ys : List (List Key × PyData)} {l : Addr} {kvs : List (List Key × V)} (nb : ∀ (j : Nat) (x : DV), δ[j]? = some (some x) → x.isBor = true → σ[j]? ≠ some (some (.ref l))) (e : δ[n]? = some (some (.odt l xs))) (el : σ[n]? = some (some (.ref l))) (h : AtKt G.K F kvs ys) :
    Good G F (δ.set n (some (.odt l ys))) σ (upd H l (.dT kvs)) := g.writeG rfl rfl nb e el fun H' q f b => ⟨rfl, kvs, q, h, f, b⟩
def DV.arg : DV → Bool
  | .d _ => true
  | .cask => true
  | .raw _ => true
  | .scr _ => true
  | .fvs _ _ => true
  | _ => false
def Gm.into (G : Gm) (F H : Hp) : Gm := { G with F0 := F, B := H }
theorem Good.into (g : Good G F δ σ H) {as : List DV} {vs : List V} (ha : ∀ x ∈ as, x.arg = true) (hl : as.length = vs.length) (h : ∀ (i : Nat) (x : DV), as[i]? = some x → ∃ v, vs[i]? = some v ∧ VOk G F H v x) :
    Good (G.into F H) F (as.map some) (vs.map some) H := by
  refine ⟨⟨g.g.js, g.g.jm, g.g.jn, fun p c => g.g.jn _ H g.jh p c, g.g.jt⟩, by simpa using hl, Same.refl F, g.fh, fun p q1 q2 => absurd q2 q1, fun p o _ q => q, g.cf, g.jh, fun i x e => ?_, fun i j a b l hx _ e1 _ _ _ => ?_⟩
  · rw [List.getElem?_map] at e
    cases q : as[i]? with
    | none => rw [q] at e; cases e
    | some y =>
      rw [q] at e
      cases e
      obtain ⟨v, e1, e2⟩ := h i x q
      have hm := ha x (List.mem_of_getElem? q)
      refine ⟨v, by rw [List.getElem?_map, e1]; rfl, ?_⟩
      cases x with
      | d _ => exact e2
      | cask => exact e2
      | raw _ => exact e2
      | scr _ => exact e2
      | fvs _ _ => exact e2
      | _ => cases hm
  · rw [List.getElem?_map] at e1
    cases q : as[i]? with
    | none => rw [q] at e1; cases e1
    | some y =>
      rw [q] at e1
      cases e1
      have hm := ha a (List.mem_of_getElem? q)
      cases a with
      | own _ => cases hm
      | odk _ => cases hm
      | olk _ _ => cases hm
      | odt _ _ => cases hm
      | ins _ _ _ => cases hm
      | _ => cases hx
theorem vok_up {u : Nat} : VOk (G.up u) F H v dv = VOk G F H v dv := by cases dv <;> rfl
theorem Gm.Ok.up (h : G.Ok) (u : Nat) : (G.up u).Ok := ⟨h.js, h.jm, h.jn, h.cb, h.jt⟩
theorem Good.mono {a b : Nat} (g : Good (G.up a) F δ σ H) (h : a ≤ b) : Good (G.up b) F δ σ H :=
  ⟨⟨g.g.js, g.g.jm, g.g.jn, g.g.cb, g.g.jt⟩, g.len, g.f0, g.fh, g.fr, g.bh, g.cf, g.g.jm _ _ _ (Nat.add_le_add_left h _) g.jh, fun i z e => by
    obtain ⟨w, ew, hw⟩ := g.sl i z e
    exact ⟨w, ew, by rw [vok_up] at hw ⊢; exact hw⟩, g.di⟩
theorem Good.later (g : Good G F δ σ H) (u : Nat) : Good (G.up u) F δ σ H := Good.mono (a := 0) g (Nat.zero_le u)
theorem Good.back {u : Nat} (g : Good G F δ σ H) {δ₁ : Env} {σ₁ : L2.St} (g' : Good ((G.into F H).up u) F' δ₁ σ₁ H') : Good (G.up u) F' δ σ H' := by
  have fr' : ∀ p, F' p ≠ none → F p = none → H p = none ∨ ∃ vs, F' p = some (.tup vs) := g'.fr
  have bh' : ∀ p o, ¬ G.C p → H p = some o → H' p = some o := g'.bh
  refine ⟨g.g.up u, g.len, g.f0.trans g'.f0, g'.fh, fun p q1 q2 => ?_, fun p o c q => bh' p o c (g.bh p o c q), g'.cf, g'.jh, fun i z e => ?_, g.di⟩
  · cases q : F p with
    | some u =>
      rcases g.fr p (by rw [q]; simp) q2 with h | ⟨vs, h⟩
      · exact .inl h
      · exact .inr ⟨vs, g'.f0 _ _ h⟩
    | none =>
      rcases fr' p q1 q with hn | hn
      · left
        cases r : G.B p with
        | none => rfl
        | some u =>
          by_cases c : G.C p
          · exact absurd hn (g.g.jn _ H g.jh p c)
          · rw [g.bh p u c r] at hn
            cases hn
      · exact .inr hn
  · obtain ⟨w, ew, hw⟩ := g.sl i z e
    refine ⟨w, ew, by
      rw [vok_up]
      refine hw.keep g'.f0 (fun l vs ho hv hl => ?_) fun l ho hv hl => ?_
      · refine bh' l _ ?_ hl
        obtain ⟨l', _, r1, _, r5⟩ := bor_at hw ho
        rw [hv] at r1; cases r1; exact own_nc g r5
      · cases q : F' l with
        | none => rfl
        | some u =>
          obtain ⟨l', o', r1, r2, _, r5⟩ := own_at hw ho
          rw [hv] at r1; cases r1
          rcases fr' l (by rw [q]; simp) hl with hn | ⟨vs, hn⟩
          · rw [hn] at r2; cases r2
          · have h1 := g'.fh _ _ hn
            have h2 := bh' l _ (own_nc g r5) r2
            rw [h1] at h2
            cases h2
            exact absurd rfl (own_nt hw ho hv r2 vs)⟩
theorem Good.ret {u : Nat} (g : Good G F δ σ H) {r : DV} {δ₁ : Env} {σ₁ : L2.St} (hr : r.arg = true) (g' : Good ((G.into F H).up u) F' (δ₁ ++ [some r]) (σ₁ ++ [some v]) H') : Good (G.up u) F' (δ ++ [some r]) (σ ++ [some v]) H' := by
  refine (g.back g').push ?_ (fun z => ?_)
  · have := g'.top
    cases r with
    | d _ => exact this
    | cask => exact this
    | raw _ => exact this
    | scr _ => exact this
    | fvs _ _ => exact this
    | _ => cases hr
  · cases r with
    | own _ => cases hr
    | odk _ => cases hr
    | olk _ _ => cases hr
    | odt _ _ => cases hr
    | ins _ _ _ => cases hr
    | _ => cases z
def DV.fix : DV → DV
  | .own xs => .d (.list xs)
  | .bor xs => .d (.list xs)
  | .odk xs => .d (.dict xs)
  | .bdk xs => .d (.dict xs)
  | .olk _ xs => .d (.dict xs)
  | .blk _ xs => .d (.dict xs)
  | .ldk _ xs => .d (.dict xs)
  | .exc a _ _ _ => .raw (.ref a)
  | .odt a _ => .raw (.ref a)
  | .bdt a _ => .raw (.ref a)
  | .ldt p _ => .raw (.ref (p ()).a)
  | .ins a _ _ => .raw (.ref a)
  | x => x
theorem Good.last (g : Good G F (δ ++ [some dv]) (σ ++ [some v]) H) : Good G F [some dv] [some v] H := by
  have t := g.top
  refine ⟨g.g, rfl, g.f0, g.fh, g.fr, g.bh, g.cf, g.jh, fun i z e => ?_, fun i j a b l _ _ e1 e2 _ _ => ?_⟩
  · match i, e with
    | 0, e => cases e; exact ⟨v, rfl, t⟩
    | i + 1, e => simp at e
  · match i, j, e1, e2 with
    | 0, 0, _, _ => rfl
    | i + 1, _, e1, _ => simp at e1
    | 0, j + 1, _, e2 => simp at e2
theorem Good.asOwn (q : Good G F [some dv] [some v] H) {x : DV} (h : VOk G F H v x) : Good G F [some x] [some v] H := by
  refine ⟨q.g, rfl, q.f0, q.fh, q.fr, q.bh, q.cf, q.jh, fun i z e => ?_, fun i j a b l _ _ e1 e2 _ _ => ?_⟩
  · match i, e with
    | 0, e => cases e; exact ⟨_, rfl, h⟩
    | i + 1, e => simp at e
  · match i, j, e1, e2 with
    | 0, 0, _, _ => rfl
    | i + 1, _, e1, _ => simp at e1
    | 0, j + 1, _, e2 => simp at e2
theorem Good.fixLast (g : Good G F (δ ++ [some dv]) (σ ++ [some v]) H) : ∃ F', Same F F' ∧ Good G F' [some dv.fix] [some v] H := by
  have q := g.last
  cases dv with
  | own xs => exact q.freeze (n := 0) rfl
  | odk xs => exact q.freezeK (n := 0) rfl
  | bor xs =>
    obtain ⟨l, vs, rfl, h1, h2, h4⟩ := g.top
    cases h3 : F l with
    | none => exact (q.asOwn (x := .own xs) ⟨l, vs, rfl, h1, h2, h3, h4⟩).freeze (n := 0) rfl
    | some u =>
      have hu := g.fh _ _ h3
      rw [h1] at hu
      cases hu
      exact ⟨F, Same.refl F, q.asOwn (x := .d (.list xs)) (.lst h3 h2)⟩
  | olk p xs => exact q.freezeL (n := 0) rfl
  | ldk p xs =>
    obtain ⟨_, _, rfl, h1, h2⟩ := g.top
    exact ⟨F, Same.refl F, q.asOwn (x := .d (.dict xs)) (.dct (.inr ⟨_, h1⟩) h2)⟩
  | blk p xs =>
    obtain ⟨_, _, rfl, h1, h2, h4⟩ := g.top
    cases h3 : F (p ()).a with
    | none => exact (q.asOwn (x := .olk p xs) ⟨_, rfl, rfl, h1, h2, h3, h4⟩).freezeL (n := 0) rfl
    | some u =>
      have hu := g.fh _ _ h3
      rw [h1] at hu
      cases hu
      exact ⟨F, Same.refl F, q.asOwn (x := .d (.dict xs)) (.dct (.inr ⟨_, h3⟩) h2)⟩
  | bdk xs =>
    obtain ⟨l, vs, rfl, h1, h2, h4⟩ := g.top
    cases h3 : F l with
    | none =>
      rcases h1 with h1 | ⟨o, h1⟩
      · exact (q.asOwn (x := .odk xs) ⟨l, vs, rfl, h1, h2, h3, h4⟩).freezeK (n := 0) rfl
      · exact (q.asOwn (x := .olk (fun _ => ⟨l, o, vs⟩) xs) ⟨_, rfl, rfl, h1, h2, h3, h4⟩).freezeL (n := 0) rfl
    | some u =>
      have hu := g.fh _ _ h3
      rcases h1 with h1 | ⟨o, h1⟩
      · rw [h1] at hu
        cases hu
        exact ⟨F, Same.refl F, q.asOwn (x := .d (.dict xs)) (.dct (.inl h3) h2)⟩
      · rw [h1] at hu
        cases hu
        exact ⟨F, Same.refl F, q.asOwn (x := .d (.dict xs)) (.dct (.inr ⟨_, h3⟩) h2)⟩
  | d x => exact ⟨F, Same.refl F, q⟩
  | cask => exact ⟨F, Same.refl F, q⟩
  | raw u => exact ⟨F, Same.refl F, q⟩
  | scr _ => exact ⟨F, Same.refl F, q⟩
  | fvs _ _ => exact ⟨F, Same.refl F, q⟩
  | exc a C d arg => exact ⟨F, Same.refl F, q.asOwn (x := .raw (.ref a)) g.top.1⟩
  | odt a ks => exact ⟨F, Same.refl F, q.asOwn (x := .raw (.ref a)) g.top.1⟩
  | bdt a ks => exact ⟨F, Same.refl F, q.asOwn (x := .raw (.ref a)) g.top.1⟩
  | ins a nm fs => exact ⟨F, Same.refl F, q.asOwn (x := .raw (.ref a)) g.top.1⟩
  | ldt p ks =>
    obtain ⟨_, _, h0, _⟩ := g.top
    exact ⟨F, Same.refl F, q.asOwn (x := .raw (.ref (p ()).a)) h0⟩
theorem fix_arg (dv : DV) : dv.fix.arg = true := by cases dv <;> rfl
end
end DL
namespace DL
open PySem PySem.Spec L2
def ExcAt (K : PySem.W.Frag) (mg : Str → Option Value) (F H : Hp) (e : DExc) (cls : Value) (d : Option Addr) : Prop :=
  ∃ C, mg e.cls = some (.ref C) ∧ cls = .ref C ∧ match e.arg with
    | none => d = none
    | some (f, x) => ∃ dd v, d = some dd ∧ F dd = some (.xd [(f, v)]) ∧ At K F v x
abbrev XD := DExc → Env → Prop
abbrev ME := XD → Env → (DV → Prop) → Prop
abbrev MT := XD → Env → (Bool → Prop) → Prop
abbrev MA := XD → Env → (List DV → Prop) → Prop
abbrev MG := DV → Env → (Env → Prop) → Prop
structure DEnds where
  nx : Env → Prop
  rt : DV → Prop
  bk : Env → Prop
  ct : Env → Prop
  /-- left by a return that tells the slots too -/
  ro : DV → Env → Prop := fun _ _ => False
abbrev MS := XD → DEnds → Env → Prop
abbrev MF := List DV → (DV → Prop) → (DExc → Prop) → Prop
structure WC where
  w : WX
  ck : (Addr → Prop) → V → (Nat → Hp → Prop) → Nat → Prop
def Link (K : PySem.W.Frag) (mg : Str → Option Value) (W : WC) (u : Nat) (G : Gm) (τ : Env) (ts : L2.St) (ex : XD) : Prop :=
  ∀ (b : Nat) (F : Hp) (δ : Env) (σ : L2.St) (H : Hp) (τ1 : Env) (ts1 : L2.St) (e : DExc) (cls : Value) (d : Option Addr), b ≤ u → δ.length = σ.length → Good (G.up b) F (δ ++ τ ++ τ1) (σ ++ ts ++ ts1) H → ExcAt K mg F H e cls d → ex e δ → W.w cls d σ H
structure Now (K : PySem.W.Frag) (mg : Str → Option Value) (W : WC) (u : Nat) (ex : XD) (G : Gm) (F : Hp) (δ : Env) (σ : L2.St) (τ : Env) (ts : L2.St) (τ1 : Env) (ts1 : L2.St) (H : Hp) : Prop where
  k : G.K = K
  l1 : δ.length = σ.length
  l2 : τ.length = ts.length
  good : Good G F (δ ++ τ ++ τ1) (σ ++ ts ++ ts1) H
  link : Link K mg W u G τ ts ex
  ck : W.ck G.C G.cv G.J G.lim ∧ G.n + u ≤ G.lim
def liftE (K : PySem.W.Frag) (mg : Str → Option Value) (W : WC) (u : Nat) (m : ME) : TE := fun σ H Q => ∃ (ex : XD) (G : Gm) (F : Hp) (δ τ : Env) (ts : L2.St) (τ1 : Env) (ts1 : L2.St) (R : DV → Prop), Now K mg W u ex G F δ σ τ ts τ1 ts1 H ∧ m ex δ R ∧
  ∀ r, R r → ∀ v F' H', Good (G.up u) F' (δ ++ τ ++ τ1 ++ [some r]) (σ ++ ts ++ ts1 ++ [some v]) H' → Q v H'
def liftT (K : PySem.W.Frag) (mg : Str → Option Value) (W : WC) (u : Nat) (m : MT) : TT := fun σ H Q => ∃ (ex : XD) (G : Gm) (F : Hp) (δ τ : Env) (ts : L2.St) (τ1 : Env) (ts1 : L2.St) (R : Bool → Prop), Now K mg W u ex G F δ σ τ ts τ1 ts1 H ∧ m ex δ R ∧
  ∀ r, R r → ∀ F' H', Good (G.up u) F' (δ ++ τ ++ τ1) (σ ++ ts ++ ts1) H' → Q r H'
def liftA (K : PySem.W.Frag) (mg : Str → Option Value) (W : WC) (u : Nat) (m : MA) : TA := fun σ H Q => ∃ (ex : XD) (G : Gm) (F : Hp) (δ τ : Env) (ts : L2.St) (τ1 : Env) (ts1 : L2.St) (R : List DV → Prop), Now K mg W u ex G F δ σ τ ts τ1 ts1 H ∧ m ex δ R ∧
  ∀ rs, R rs → ∀ (vs : List V) F' H', rs.length = vs.length → Good (G.up u) F' (δ ++ τ ++ τ1 ++ rs.map some) (σ ++ ts ++ ts1 ++ vs.map some) H' → Q vs H'
def liftG (K : PySem.W.Frag) (dom : List Nat) (m : MG) : TG := fun v σ H Q => ∃ (G : Gm) (F : Hp) (δ τ : Env) (ts : L2.St) (r : DV) (R : Env → Prop), G.K = K ∧ δ.length = σ.length ∧ τ.length = ts.length ∧ Good G F (δ ++ τ ++ [some r]) (σ ++ ts ++ [some v]) H ∧ m r δ R ∧
  ∀ δ', R δ' → ∀ σ' F' H', δ'.length = δ.length → σ'.length = σ.length → (∀ j, j ∉ dom → σ'[j]? = σ[j]?) → (NoBor δ → NoBor δ') → Good G F' (δ' ++ τ) (σ' ++ ts) H' → Q σ' H'
structure EndsOk (G : Gm) (u : Nat) (τ : Env) (ts : L2.St) (E : DEnds) (D : Ends) : Prop where
  nx : ∀ δ, E.nx δ → ∀ b σ F H, b ≤ u → δ.length = σ.length → NoBor (δ ++ τ) → Good (G.up b) F (δ ++ τ) (σ ++ ts) H → D.nx σ H
  bk : ∀ δ, E.bk δ → ∀ b σ F H, b ≤ u → δ.length = σ.length → NoBor (δ ++ τ) → Good (G.up b) F (δ ++ τ) (σ ++ ts) H → D.bk σ H
  ct : ∀ δ, E.ct δ → ∀ b σ F H, b ≤ u → δ.length = σ.length → NoBor (δ ++ τ) → Good (G.up b) F (δ ++ τ) (σ ++ ts) H → D.ct σ H
  rt : ∀ r, E.rt r → r.arg = true → ∀ b v F H, b ≤ u → Good (G.up b) F [some r] [some v] H → D.rt v H
  ro : ∀ r δ, E.ro r δ → ∀ b v σ F H, b ≤ u → δ.length = σ.length → Good (G.up b) F (δ ++ [some r]) (σ ++ [some v]) H → D.rt v H
def liftS (K : PySem.W.Frag) (mg : Str → Option Value) (W : WC) (u : Nat) (m : MS) : TS := fun D σ H => ∃ (ex : XD) (G : Gm) (F : Hp) (δ τ : Env) (ts : L2.St) (E : DEnds), Now K mg W u ex G F δ σ τ ts [] [] H ∧ NoBor (δ ++ τ) ∧ EndsOk G u τ ts E D ∧ m ex E δ
structure DE (X : Cx) (W : WC) (e : Expr) (m : ME) (u : Nat) : Prop where
  pe : PE X e (liftE X.K X.mg W u m)
structure DT (X : Cx) (W : WC) (e : Expr) (m : MT) (u : Nat) : Prop where
  pt : PT X e (liftT X.K X.mg W u m)
structure DW (X : Cx) (W : WC) (e : Expr) (m : MT) (u : Nat) : Prop where
  pw : PW X e (liftT X.K X.mg W u m)
structure DA (X : Cx) (W : WC) (es : List Expr) (m : MA) (u : Nat) : Prop where
  pa : PA X es (liftA X.K X.mg W u m)
structure DG (X : Cx) (tg : Expr) (dom : List Nat) (m : MG) : Prop where
  pg : PG X tg (liftG X.K dom m)
structure DS (X : Cx) (W : WC) (st : Stmt) (m : MS) (u : Nat) : Prop where
  ps : PS X st (liftS X.K X.mg W u m)
structure DSs (X : Cx) (W : WC) (st : List Stmt) (m : MS) (u : Nat) : Prop where
  pss : PSs X st (liftS X.K X.mg W u m)
theorem PE.imp {X : Cx} {e : Expr} {t t' : TE} (h : PE X e t) (i : ∀ σ H Q, t' σ H Q → t σ H Q) : PE X e t' := ⟨fun pins s σ H Q I q => h.run pins s σ H Q I (i _ _ _ q)⟩
theorem PT.imp {X : Cx} {e : Expr} {t t' : TT} (h : PT X e t) (i : ∀ σ H Q, t' σ H Q → t σ H Q) : PT X e t' := ⟨fun pins s σ H Q I q => h.run pins s σ H Q I (i _ _ _ q)⟩
theorem PW.imp {X : Cx} {e : Expr} {t t' : TT} (h : PW X e t) (i : ∀ σ H Q, t' σ H Q → t σ H Q) : PW X e t' := ⟨fun w pins s σ H Q I q => h.run w pins s σ H Q I (i _ _ _ q)⟩
theorem PA.imp {X : Cx} {e : List Expr} {t t' : TA} (h : PA X e t) (i : ∀ σ H Q, t' σ H Q → t σ H Q) : PA X e t' := ⟨fun p pins s σ H Q I q => h.run p pins s σ H Q I (i _ _ _ q)⟩
theorem PG.imp {X : Cx} {e : Expr} {t t' : TG} (h : PG X e t) (i : ∀ v σ H Q, t' v σ H Q → t v σ H Q) : PG X e t' := ⟨fun pins s σ H v u Q I r q => h.run pins s σ H v u Q I r (i _ _ _ _ q)⟩
theorem PS.imp {X : Cx} {e : Stmt} {t t' : TS} (h : PS X e t) (i : ∀ D σ H, t' D σ H → t D σ H) : PS X e t' := ⟨fun pins s σ H D I q => h.run pins s σ H D I (i _ _ _ q)⟩
theorem PSs.imp {X : Cx} {e : List Stmt} {t t' : TS} (h : PSs X e t) (i : ∀ D σ H, t' D σ H → t D σ H) : PSs X e t' := ⟨fun pins s σ H D I q => h.run pins s σ H D I (i _ _ _ q)⟩
theorem PI.imp {X : Cx} {tg e : Expr} {t t' : TI} (h : PI X tg e t) (i : ∀ σ H Q, t' σ H Q → t σ H Q) : PI X tg e t' := ⟨fun pins s σ H Q I q => h.run pins s σ H Q I (i _ _ _ q)⟩
section
variable {X : Cx} {W : WC}
variable {u u1 u2 u3 : Nat}
theorem Now.after {ex : XD} {G : Gm} {F F' : Hp} {δ τ τ1 : Env} {σ ts ts1 : L2.St} {H H' : Hp} {rs : Env} {vs : L2.St} (n : Now X.K X.mg W (u1 + u2) ex G F δ σ τ ts τ1 ts1 H) (g : Good (G.up u1) F' (δ ++ τ ++ τ1 ++ rs) (σ ++ ts ++ ts1 ++ vs) H') :
    Now X.K X.mg W u2 ex (G.up u1) F' δ σ τ ts (τ1 ++ rs) (ts1 ++ vs) H' := ⟨n.k, n.l1, n.l2, by rw [← List.append_assoc (δ ++ τ), ← List.append_assoc (σ ++ ts)]; exact g,
  fun b F δ σ H τ1 ts1 e cls d hb h1 h2 h3 h4 => n.link (u1 + b) F δ σ H τ1 ts1 e cls d (Nat.add_le_add_left hb _) h1 (by rw [← up_up]; exact h2) h3 h4, n.ck.1, by have := n.ck.2; show G.n + u1 + u2 ≤ G.lim; omega⟩
theorem Now.here {ex : XD} {G : Gm} {F F' : Hp} {δ τ τ1 : Env} {σ ts ts1 : L2.St} {H H' : Hp} (n : Now X.K X.mg W (u1 + u2) ex G F δ σ τ ts τ1 ts1 H) (g : Good (G.up u1) F' (δ ++ τ ++ τ1) (σ ++ ts ++ ts1) H') :
    Now X.K X.mg W u2 ex (G.up u1) F' δ σ τ ts τ1 ts1 H' := ⟨n.k, n.l1, n.l2, g, fun b F δ σ H τ1 ts1 e cls d hb h1 h2 h3 h4 => n.link (u1 + b) F δ σ H τ1 ts1 e cls d (Nat.add_le_add_left hb _) h1 (by rw [← up_up]; exact h2) h3 h4, n.ck.1, by have := n.ck.2; show G.n + u1 + u2 ≤ G.lim; omega⟩
theorem Now.le {ex : XD} {G : Gm} {F : Hp} {δ τ τ1 : Env} {σ ts ts1 : L2.St} {H : Hp} (n : Now X.K X.mg W u ex G F δ σ τ ts τ1 ts1 H) (h : u1 ≤ u) : Now X.K X.mg W u1 ex G F δ σ τ ts τ1 ts1 H :=
  ⟨n.k, n.l1, n.l2, n.good, fun b F δ σ H τ1 ts1 e cls d hb => n.link b F δ σ H τ1 ts1 e cls d (Nat.le_trans hb h), n.ck.1, by have := n.ck.2; omega⟩
theorem Now.fst {ex : XD} {G : Gm} {F : Hp} {δ τ τ1 : Env} {σ ts ts1 : L2.St} {H : Hp} (n : Now X.K X.mg W (u1 + u2) ex G F δ σ τ ts τ1 ts1 H) : Now X.K X.mg W u1 ex G F δ σ τ ts τ1 ts1 H := n.le (Nat.le_add_right _ _)
def DV.seen : DV → DV
  | .own xs => .bor xs
  | .odk xs => .bdk xs
  | .olk p xs => .blk p xs
  | .odt a xs => .bdt a xs
  | .ins a _ _ => .raw (.ref a)
  | x => x
def mVar (i : Nat) : ME := fun _ δ R => match δ[i]? with
  | some (some dv) => R dv.seen
  | _ => False
theorem seen_ok {G : Gm} {F H : Hp} {v : V} {dv : DV} (h : VOk G F H v dv) : VOk G F H v dv.seen := by
  cases dv with
  | own xs => obtain ⟨l, vs, h1, h2, h3, _, h5⟩ := h; exact ⟨l, vs, h1, h2, h3, h5⟩
  | odk xs => obtain ⟨l, vs, h1, h2, h3, _, h5⟩ := h; exact ⟨l, vs, h1, .inl h2, h3, h5⟩
  | olk p xs => obtain ⟨_, _, h1, h2, h3, _, h5⟩ := h; exact ⟨_, rfl, h1, h2, h3, h5⟩
  | odt a xs => obtain ⟨h1, vs, h2, h3, _, h5⟩ := h; exact ⟨h1, vs, .inl h2, h3, h5⟩
  | ins a nm fs => exact h.1
  | _ => exact h
theorem seen_own (dv : DV) : dv.seen.isOwn = false := by cases dv <;> rfl
theorem de_pv (i : Nat) {x : Str} {pos : Pos} (hN : X.N[i]? = some x := by rfl) (hv : Vis X.env.scope x := by first | exact Or.inl rfl | exact Or.inr (Or.inl rfl) | exact Or.inr (Or.inr rfl)) (hd : (x == ("__debug__" : Str)) = false := by decide)
    (hcd : (x == ("__classdict__" : Str)) = false := by decide) : DE X W (.Name x pos) (mVar i) 0 := by
  refine ⟨PE.imp (pe_var hN hv hd hcd) ?_⟩
  rintro σ H Q ⟨ex, G, F, δ, τ, ts, τ1, ts1, R, n, m, k⟩
  unfold mVar at m
  split at m
  · rename_i dv e
    have hi : i < δ.length := (List.getElem?_eq_some_iff.mp e).1
    have e' : (δ ++ τ ++ τ1)[i]? = some (some dv) := by rw [List.append_assoc, List.getElem?_append_left hi]; exact e
    obtain ⟨v, ev, hv⟩ := n.good.get e'
    rw [List.append_assoc, List.getElem?_append_left (by rw [← n.l1]; exact hi)] at ev
    refine ⟨v, ev, k _ m v F H (n.good.push (seen_ok hv) fun z => ?_)⟩
    rw [seen_own] at z
    cases z
  · exact m.elim
def mC (x : PyData) : ME := fun _ _ R => R (.d x)
def mRaw (v : V) : ME := fun _ _ R => R (.raw v)
theorem de_of_tC {e : Expr} {v : V} {x : PyData} (h : PE X e (tC v)) (hx : ∀ F, At X.K F v x) : DE X W e (mC x) 0 := by
  refine ⟨PE.imp h ?_⟩
  rintro σ H Q ⟨ex, G, F, δ, τ, ts, τ1, ts1, R, n, m, k⟩
  exact k _ m v F H (n.good.pushD (by rw [n.k]; exact hx F))
theorem de_of_tR {e : Expr} {v : V} (h : PE X e (tC v)) : DE X W e (mRaw v) 0 := by
  refine ⟨PE.imp h ?_⟩
  rintro σ H Q ⟨ex, G, F, δ, τ, ts, τ1, ts1, R, n, m, k⟩
  exact k _ m v F H (n.good.push rfl fun z => by cases z)
theorem de_int {i j pos} : DE X W (.Constant (.int i) j pos) (mC (.int i)) 0 := de_of_tC pe_int fun _ => .int i
theorem de_bl {b j pos} : DE X W (.Constant (.bool b) j pos) (mC (.bool b)) 0 := de_of_tC pe_bl fun _ => .bl b
theorem de_str {x j pos} : DE X W (.Constant (.str x) j pos) (mC (.str x)) 0 := de_of_tC pe_str fun _ => .str x
theorem de_gi {x : Str} {i : Int} {pos : Pos} (hg : Gl X x) (hm : ∃ t, X.mg x = some (.int i t)) (hd : (x == ("__debug__" : Str)) = false := by decide) : DE X W (.Name x pos) (mC (.int i)) 0 := by
  obtain ⟨t, hm⟩ := hm
  exact de_of_tC (pe_glob (v := .int i) hg hm ⟨t, rfl⟩ hd) fun _ => .int i
theorem de_gs {x y : Str} {pos : Pos} (hg : Gl X x) (hm : ∃ t, X.mg x = some (.str y t)) (hd : (x == ("__debug__" : Str)) = false := by decide) : DE X W (.Name x pos) (mC (.str y)) 0 := by
  obtain ⟨t, hm⟩ := hm
  exact de_of_tC (pe_glob (v := .str y) hg hm ⟨t, rfl⟩ hd) fun _ => .str y
theorem de_ty {x : Str} {T : String} {pos : Pos} (hg : Gl X x) (hm : X.mg x = none) (hv : bootBuiltins x = some (.type T)) (hn : x ≠ "__name__" := by decide) (hd : (x == ("__debug__" : Str)) = false := by decide) : DE X W (.Name x pos) (mRaw (.ty T)) 0 :=
  de_of_tR (pe_bltn (v := .ty T) hg hm hv rfl hn hd)
abbrev D2 := DV → DV → (DV → Prop) → Prop
abbrev D1 := DV → (DV → Prop) → Prop
def Op2 (X : Cx) (r : R2) (o : D2) : Prop :=
  ∀ (G : Gm) (F : Hp) (δ : Env) (σ : L2.St) (H : Hp) (v u : V) (x y : DV) (R : DV → Prop) (Q : VK), G.K = X.K → Good G F δ σ H → VOk G F H v x → VOk G F H u y → o x y R →
    (∀ z, R z → ∀ w F' H', Good G F' (δ ++ [some z]) (σ ++ [some w]) H' → Q w H') → r v u H Q
def mBin (o : D2) (ma mb : ME) : ME := fun ex δ R => ma ex δ fun x => mb ex δ fun y => o x y R
variable {a b c e : Expr} {pos : Pos} {ma mb mc : ME}
theorem bin_lift {r : R2} {o : D2} (h : Op2 X r o) (σ : L2.St) (H : Hp) (Q : VK) (q : liftE X.K X.mg W (u1 + u2) (mBin o ma mb) σ H Q) :
    liftE X.K X.mg W u1 ma σ H fun x H1 => liftE X.K X.mg W u2 mb σ H1 fun y H2 => r x y H2 Q := by
  obtain ⟨ex, G, F, δ, τ, ts, τ1, ts1, R, n, m, k⟩ := q
  refine ⟨ex, G, F, δ, τ, ts, τ1, ts1, _, n.fst, m, fun x hx v F1 H1 g1 => ?_⟩
  refine ⟨ex, G.up u1, F1, δ, τ, ts, _, _, _, n.after g1, hx, fun y hy u F2 H2 g2 => ?_⟩
  have e1 : Good (G.up (u1 + u2)) F2 (δ ++ τ ++ τ1 ++ [some x] ++ [some y]) (σ ++ ts ++ ts1 ++ [some v] ++ [some u]) H2 := by
    rw [up_up] at g2
    simpa only [List.append_assoc] using g2
  exact h (G.up (u1 + u2)) F2 _ _ H2 v u x y R Q n.k e1.pop.pop e1.pop.top e1.top hy k
theorem de_op {op : Operator} {r : R2} {o : D2} (h : OpR X (binaryOp op) r) (ho : Op2 X r o) (ha : DE X W a ma u1) (hb : DE X W b mb u2) : DE X W (.BinOp a op b pos) (mBin o ma mb) (u1 + u2) :=
  ⟨PE.imp (pe_op h ha.pe hb.pe) fun σ H Q q => bin_lift ho σ H Q q⟩
theorem de_cmp {op : CmpOp} {r : R2} {o : D2} (h : OpR X (compareOp op) r) (ho : Op2 X r o) (ha : DE X W a ma u1) (hb : DE X W b mb u2) (hm : behindInMarks op b = false) : DE X W (.Compare a [op] [b] pos) (mBin o ma mb) (u1 + u2) :=
  ⟨PE.imp (pe_cmpR h ha.pe hb.pe hm) fun σ H Q q => bin_lift ho σ H Q q⟩
def DV.tru : DV → (Bool → Prop) → Prop
  | .d (.bool b), R => R b
  | _, _ => False
def mB (m : ME) : MT := fun ex δ R => m ex δ fun x => x.tru R
theorem liftT_of {m : ME} (σ : L2.St) (H : Hp) (Q : Bool → Hp → Prop) (q : liftT X.K X.mg W u (mB m) σ H Q) : liftE X.K X.mg W u m σ H fun x H1 => ∃ k, x = .bl k ∧ Q k H1 := by
  obtain ⟨ex, G, F, δ, τ, ts, τ1, ts1, R, n, m, k⟩ := q
  refine ⟨ex, G, F, δ, τ, ts, τ1, ts1, _, n, m, fun x hx v F1 H1 g1 => ?_⟩
  have t := g1.top
  match x, hx, t with
  | .d (.bool b), hx, t =>
    cases t
    exact ⟨b, rfl, k b hx F1 H1 g1.pop⟩
theorem dt_cmp {op : CmpOp} {r : R2} {o : D2} (h : OpR X (compareOp op) r) (ho : Op2 X r o) (ha : DE X W a ma u1) (hb : DE X W b mb u2) (hm : behindInMarks op b = false) : DT X W (.Compare a [op] [b] pos) (mB (mBin o ma mb)) (u1 + u2) :=
  ⟨PT.imp (pt_cmpR h ha.pe hb.pe hm) fun σ H Q q => by
    have q' := liftT_of σ H Q q
    exact bin_lift ho σ H _ q'⟩
theorem dt_val {m : ME} (h : DE X W e m u) (he : ∀ whole, isTrue e X.env whole = (do let v ← whole; standAt e.pos; holding [v] (truthy v)) := by intro _; rfl) : DT X W e (mB m) u :=
  ⟨PT.imp (pt_val h.pe he) fun σ H Q q => liftT_of σ H Q q⟩
def mChain (o o' : D2) (ma mb mc : ME) : ME := fun ex δ R => ma ex δ fun x => mb ex δ fun y => o x y fun z => z.tru fun k => (k = true → mc ex δ fun w => o' y w R) ∧ (k = false → R (.d (.bool false)))
theorem chain_lift {r r' : R2} {o o' : D2} (h : Op2 X r o) (h' : Op2 X r' o') (hs : ∀ x y R, o x y R → o x y fun z => R z ∧ ∃ k, z = .d (.bool k)) (σ : L2.St) (H : Hp) (Q : VK) (q : liftE X.K X.mg W (u1 + (u2 + u3)) (mChain o o' ma mb mc) σ H Q) :
    liftE X.K X.mg W u1 ma σ H fun x H1 => liftE X.K X.mg W u2 mb σ H1 fun y H2 => r x y H2 fun z H3 => ∃ k, z = .bl k ∧ (if k = true then liftE X.K X.mg W u3 mc σ H3 fun w' H4 => r' y w' H4 Q else Q (.bl false) H3) := by
  obtain ⟨ex, G, F, δ, τ, ts, τ1, ts1, R, n, m, k⟩ := q
  refine ⟨ex, G, F, δ, τ, ts, τ1, ts1, _, n.fst, m, fun x hx v F1 H1 g1 => ?_⟩
  have n1 := n.after g1
  refine ⟨ex, G.up u1, F1, δ, τ, ts, _, _, _, n1.fst, hx, fun y hy u F2 H2 g2 => ?_⟩
  have e1 : Good (G.up (u1 + u2)) F2 (δ ++ τ ++ τ1 ++ [some x] ++ [some y]) (σ ++ ts ++ ts1 ++ [some v] ++ [some u]) H2 := by
    rw [up_up] at g2
    simpa only [List.append_assoc] using g2
  refine h (G.up (u1 + u2)) F2 _ _ H2 v u x y _ _ n.k e1 e1.pop.top e1.top (hs _ _ _ hy) fun z ⟨hz, bk, ez⟩ w F3 H3 g3 => ?_
  subst ez
  have t : VOk (G.up (u1 + u2)) F3 H3 w (.d (.bool bk)) := g3.top
  cases t
  refine ⟨bk, rfl, ?_⟩
  cases bk with
  | false =>
    rw [if_neg Bool.false_ne_true]
    exact k _ (hz.2 rfl) _ F3 H3 ((g3.pop.pop.pop.pushD (.bl false)).mono (by omega))
  | true =>
    rw [if_pos rfl]
    have e3 : Good ((G.up u1).up u2) F3 (δ ++ τ ++ (τ1 ++ [some x]) ++ [some y]) (σ ++ ts ++ (ts1 ++ [some v]) ++ [some u]) H3 := by
      have := g3.pop
      rw [← up_up] at this
      simpa only [List.append_assoc] using this
    refine ⟨ex, (G.up u1).up u2, F3, δ, τ, ts, _, _, _, n1.after e3, hz.1 rfl, fun y' hy' u' F4 H4 g4 => ?_⟩
    have e4 : Good (G.up (u1 + (u2 + u3))) F4 (δ ++ τ ++ τ1 ++ [some x] ++ [some y] ++ [some y']) (σ ++ ts ++ ts1 ++ [some v] ++ [some u] ++ [some u']) H4 := by
      rw [up_up, up_up] at g4
      simpa only [List.append_assoc] using g4
    exact h' (G.up (u1 + (u2 + u3))) F4 _ _ H4 u u' y y' R Q n.k e4.pop.pop.pop e4.pop.top e4.top hy' k
variable {ta tb : MT} {rest : List Expr}
def mAnd (s t : MT) : MT := fun ex δ R => s ex δ fun c => (c = true → t ex δ R) ∧ (c = false → R false)
def mOr (s t : MT) : MT := fun ex δ R => s ex δ fun c => (c = true → R true) ∧ (c = false → t ex δ R)
def mNot (s : MT) : MT := fun ex δ R => s ex δ fun c => R (!c)
theorem DW.dt (h : DW X W e ta u) : DT X W e ta u := ⟨PW.pt h.pw⟩
theorem dw_and1 (h : DT X W a ta u) : DW X W (.BoolOp .And [a] pos) ta u := ⟨pw_and1 h.pt⟩
theorem dw_or1 (h : DT X W a ta u) : DW X W (.BoolOp .Or [a] pos) ta u := ⟨pw_or1 h.pt⟩
theorem dw_and (ha : DT X W a ta u1) (hb : DW X W (.BoolOp .And (b :: rest) pos) tb u2) : DW X W (.BoolOp .And (a :: b :: rest) pos) (mAnd ta tb) (u1 + u2) :=
  ⟨PW.imp (pw_and ha.pt hb.pw) fun σ H Q q => by
    obtain ⟨ex, G, F, δ, τ, ts, τ1, ts1, R, n, m, k⟩ := q
    refine ⟨ex, G, F, δ, τ, ts, τ1, ts1, _, n.fst, m, fun c hc F1 H1 g1 => ?_⟩
    cases c with
    | true => rw [if_pos rfl]; exact ⟨ex, G.up u1, F1, δ, τ, ts, τ1, ts1, R, n.here g1, hc.1 rfl, by rw [up_up]; exact k⟩
    | false => rw [if_neg Bool.false_ne_true]; exact k _ (hc.2 rfl) F1 H1 (g1.mono (Nat.le_add_right _ _))⟩
theorem dw_or (ha : DT X W a ta u1) (hb : DW X W (.BoolOp .Or (b :: rest) pos) tb u2) : DW X W (.BoolOp .Or (a :: b :: rest) pos) (mOr ta tb) (u1 + u2) :=
  ⟨PW.imp (pw_or ha.pt hb.pw) fun σ H Q q => by
    obtain ⟨ex, G, F, δ, τ, ts, τ1, ts1, R, n, m, k⟩ := q
    refine ⟨ex, G, F, δ, τ, ts, τ1, ts1, _, n.fst, m, fun c hc F1 H1 g1 => ?_⟩
    cases c with
    | true => rw [if_pos rfl]; exact k _ (hc.1 rfl) F1 H1 (g1.mono (Nat.le_add_right _ _))
    | false => rw [if_neg Bool.false_ne_true]; exact ⟨ex, G.up u1, F1, δ, τ, ts, τ1, ts1, R, n.here g1, hc.2 rfl, by rw [up_up]; exact k⟩⟩
theorem dt_not (ha : DT X W a ta u) : DT X W (.UnaryOp .Not a pos) (mNot ta) u :=
  ⟨PT.imp (pt_not ha.pt) fun σ H Q q => by
    obtain ⟨ex, G, F, δ, τ, ts, τ1, ts1, R, n, m, k⟩ := q
    exact ⟨ex, G, F, δ, τ, ts, τ1, ts1, _, n, m, fun c hc F1 H1 g1 => k _ hc F1 H1 g1⟩⟩
def mAndV (s t : ME) : ME := fun ex δ R => s ex δ fun x => x.tru fun c => (c = true → t ex δ R) ∧ (c = false → R (.d (.bool false)))
def mOrV (s t : ME) : ME := fun ex δ R => s ex δ fun x => x.tru fun c => (c = true → R (.d (.bool true))) ∧ (c = false → t ex δ R)
def mNotV (s : ME) : ME := fun ex δ R => s ex δ fun x => x.tru fun c => R (.d (.bool (!c)))
theorem tru_bl {G : Gm} {F H : Hp} {v : V} {x : DV} {R : Bool → Prop} (h : x.tru R) (t : VOk G F H v x) : ∃ c, v = .bl c ∧ R c := by
  match x, h, t with
  | .d (.bool b), h, t =>
    cases t
    exact ⟨b, rfl, h⟩
theorem de_one {op : BoolOp} (h : DE X W a ma u) : DE X W (.BoolOp op [a] pos) ma u := ⟨pe_one h.pe⟩
theorem de_and (ha : DE X W a ma u1) (hb : DE X W (.BoolOp .And (b :: rest) pos) mb u2) : DE X W (.BoolOp .And (a :: b :: rest) pos) (mAndV ma mb) (u1 + u2) :=
  ⟨PE.imp (pe_and ha.pe hb.pe) fun σ H Q q => by
    obtain ⟨ex, G, F, δ, τ, ts, τ1, ts1, R, n, m, k⟩ := q
    refine ⟨ex, G, F, δ, τ, ts, τ1, ts1, _, n.fst, m, fun x hx v F1 H1 g1 => ?_⟩
    obtain ⟨c, rfl, hc⟩ := tru_bl hx g1.top
    refine ⟨c, rfl, ?_⟩
    cases c with
    | true => rw [if_pos rfl]; exact ⟨ex, G.up u1, F1, δ, τ, ts, τ1, ts1, R, n.here g1.pop, hc.1 rfl, by rw [up_up]; exact k⟩
    | false => rw [if_neg Bool.false_ne_true]; exact k _ (hc.2 rfl) _ F1 H1 ((g1.pop.pushD (.bl false)).mono (Nat.le_add_right _ _))⟩
theorem de_or (ha : DE X W a ma u1) (hb : DE X W (.BoolOp .Or (b :: rest) pos) mb u2) : DE X W (.BoolOp .Or (a :: b :: rest) pos) (mOrV ma mb) (u1 + u2) :=
  ⟨PE.imp (pe_or ha.pe hb.pe) fun σ H Q q => by
    obtain ⟨ex, G, F, δ, τ, ts, τ1, ts1, R, n, m, k⟩ := q
    refine ⟨ex, G, F, δ, τ, ts, τ1, ts1, _, n.fst, m, fun x hx v F1 H1 g1 => ?_⟩
    obtain ⟨c, rfl, hc⟩ := tru_bl hx g1.top
    refine ⟨c, rfl, ?_⟩
    cases c with
    | true => rw [if_pos rfl]; exact k _ (hc.1 rfl) _ F1 H1 ((g1.pop.pushD (.bl true)).mono (Nat.le_add_right _ _))
    | false => rw [if_neg Bool.false_ne_true]; exact ⟨ex, G.up u1, F1, δ, τ, ts, τ1, ts1, R, n.here g1.pop, hc.2 rfl, by rw [up_up]; exact k⟩⟩
theorem de_not (ha : DE X W a ma u) : DE X W (.UnaryOp .Not a pos) (mNotV ma) u :=
  ⟨PE.imp (pe_not ha.pe) fun σ H Q q => by
    obtain ⟨ex, G, F, δ, τ, ts, τ1, ts1, R, n, m, k⟩ := q
    refine ⟨ex, G, F, δ, τ, ts, τ1, ts1, _, n, m, fun x hx v F1 H1 g1 => ?_⟩
    obtain ⟨c, rfl, hc⟩ := tru_bl hx g1.top
    exact ⟨c, rfl, k _ hc _ F1 H1 (g1.pop.pushD (.bl _))⟩⟩
def mNil : MA := fun _ _ R => R []
def mCons (m : ME) (t : MA) : MA := fun ex δ R => m ex δ fun x => t ex δ fun xs => R (x :: xs)
variable {es : List Expr} {mas : MA}
theorem da_nil : DA X W [] mNil 0 := ⟨PA.imp pa_nil fun σ H Q q => by
  obtain ⟨ex, G, F, δ, τ, ts, τ1, ts1, R, n, m, k⟩ := q
  exact k [] m [] F H rfl (by simpa using n.good.later 0)⟩
theorem da_cons (ha : DE X W e ma u1) (hr : DA X W es mas u2) (hs : starEach (e :: es) X.env = (false, eval e X.env) :: starEach es X.env := by rfl) : DA X W (e :: es) (mCons ma mas) (u1 + u2) :=
  ⟨PA.imp (pa_cons ha.pe hr.pa hs) fun σ H Q q => by
    obtain ⟨ex, G, F, δ, τ, ts, τ1, ts1, R, n, m, k⟩ := q
    refine ⟨ex, G, F, δ, τ, ts, τ1, ts1, _, n.fst, m, fun x hx v F1 H1 g1 => ?_⟩
    refine ⟨ex, G.up u1, F1, δ, τ, ts, _, _, _, n.after g1, hx, fun xs hxs vs F2 H2 hl g2 => ?_⟩
    rw [up_up] at g2
    refine k _ hxs (v :: vs) F2 H2 (by simp [hl]) ?_
    simpa only [List.append_assoc, List.map_cons, List.singleton_append, List.cons_append, List.nil_append] using g2⟩
theorem Good.cut {G : Gm} {F H : Hp} : ∀ {B : Env} {B' : L2.St} {A : Env} {A' : L2.St}, B.length = B'.length → Good G F (A ++ B) (A' ++ B') H → Good G F A A' H := by
  intro B
  induction B with
  | nil =>
    intro B' A A' hl g
    cases B' with
    | nil => simpa using g
    | cons _ _ => simp at hl
  | cons b B ih =>
    intro B' A A' hl g
    cases B' with
    | nil => simp at hl
    | cons b' B' =>
      have g' : Good G F (A ++ [b] ++ B) (A' ++ [b'] ++ B') H := by simpa using g
      exact (ih (by simpa using hl) g').pop
theorem Good.nth {G : Gm} {F H : Hp} {A : Env} {A' : L2.St} {rs : List DV} {vs : List V} (hl : rs.length = vs.length) (g : Good G F (A ++ rs.map some) (A' ++ vs.map some) H) {i : Nat} {r : DV} (e : rs[i]? = some r) : ∃ v, vs[i]? = some v ∧ VOk G F H v r := by
  have hA : A.length = A'.length := by
    have := g.len
    simp [hl] at this
    exact this
  obtain ⟨v, ev, h⟩ := g.sl (A.length + i) r (by rw [List.getElem?_append_right (Nat.le_add_right _ _)]; simp [e])
  rw [hA, List.getElem?_append_right (Nat.le_add_right _ _)] at ev
  simp only [Nat.add_sub_cancel_left, List.getElem?_map] at ev
  cases q : vs[i]? with
  | none => rw [q] at ev; cases ev
  | some w =>
    rw [q] at ev
    have : w = v := by simpa using ev
    subst this
    exact ⟨w, rfl, h⟩
abbrev DN := List DV → (DV → Prop) → Prop
def OpN (X : Cx) (r : List V → Hp → VK → Prop) (o : DN) : Prop :=
  ∀ (G : Gm) (F : Hp) (δ : Env) (σ : L2.St) (H : Hp) (vs : List V) (xs : List DV) (R : DV → Prop) (Q : VK), G.K = X.K → xs.length = vs.length → Good G F (δ ++ xs.map some) (σ ++ vs.map some) H → o xs R →
    (∀ z, R z → ∀ w F' H', Good G F' (δ ++ [some z]) (σ ++ [some w]) H' → Q w H') → r vs H Q
def mCB (o : DN) (t : MA) : ME := fun ex δ R => t ex δ fun xs => o xs R
theorem args_lift {r : List V → Hp → VK → Prop} {o : DN} (h : OpN X r o) (σ : L2.St) (H : Hp) (Q : VK) (q : liftE X.K X.mg W u (mCB o mas) σ H Q) : liftA X.K X.mg W u mas σ H fun vs H1 => r vs H1 Q := by
  obtain ⟨ex, G, F, δ, τ, ts, τ1, ts1, R, n, m, k⟩ := q
  refine ⟨ex, G, F, δ, τ, ts, τ1, ts1, _, n, m, fun xs hxs vs F1 H1 hl g1 => ?_⟩
  exact h (G.up u) F1 _ _ H1 vs xs R Q n.k hl g1 hxs k
theorem de_callB {id : String} {x : Str} {p : Pos} {r : List V → Hp → VK → Prop} {o : DN} (hc : CallR X (.builtin id) r) (ho : OpN X r o) (hg : Gl X x) (hm : X.mg x = none) (hv : bootBuiltins x = some (.builtin id)) (ha : DA X W (e :: es) mas u) (hn : x ≠ "__name__" := by decide) (hdb : (x == ("__debug__" : Str)) = false := by decide)
    (he : starEach (e :: es) X.env = (false, eval e X.env) :: starEach es X.env := by rfl) (hpl : (backTo pos (starEach es X.env)).any (·.1) = false := by rfl) : DE X W (.Call (.Name x p) (e :: es) [] pos) (mCB o mas) u :=
  ⟨PE.imp (pe_callB hc hg hm hv ha.pa hn hdb he hpl) fun σ H Q q => args_lift ho σ H Q q⟩
theorem de_callTy {T : String} {x : Str} {p : Pos} {r : List V → Hp → VK → Prop} {o : DN} (hc : CallR X (.type T) r) (ho : OpN X r o) (hg : Gl X x) (hm : X.mg x = none) (hv : bootBuiltins x = some (.type T)) (ha : DA X W (e :: es) mas u) (hn : x ≠ "__name__" := by decide) (hdb : (x == ("__debug__" : Str)) = false := by decide)
    (he : starEach (e :: es) X.env = (false, eval e X.env) :: starEach es X.env := by rfl) (hpl : (backTo pos (starEach es X.env)).any (·.1) = false := by rfl) : DE X W (.Call (.Name x p) (e :: es) [] pos) (mCB o mas) u :=
  ⟨PE.imp (pe_callTy hc hg hm hv ha.pa hn hdb he hpl) fun σ H Q q => args_lift ho σ H Q q⟩
end
end DL
namespace DL
open PySem PySem.Spec L2
def DV.val : DV → Option PyData
  | .d x => some x
  | .own xs => some (.list xs)
  | .odk xs => some (.dict xs)
  | _ => none
def vals : List DV → Option (List PyData)
  | [] => some []
  | x :: xs => match x.val, vals xs with
    | some d, some ds => some (d :: ds)
    | _, _ => none
theorem fix_one {G : Gm} {F H : Hp} {A A2 : Env} {ρ : L2.St} {x : DV} {d : PyData} (g : Good G F (A ++ some x :: A2) ρ H) (e : x.val = some d) : ∃ F', Same F F' ∧ Good G F' (A ++ some (.d d) :: A2) ρ H := by
  cases x with
  | d y => cases e; exact ⟨F, Same.refl F, g⟩
  | own xs =>
    cases e
    obtain ⟨F', s, g'⟩ := g.freeze (n := A.length) (xs := xs) (by simp)
    refine ⟨F', s, ?_⟩
    rw [List.set_append_right _ _ (Nat.le_refl _), Nat.sub_self] at g'
    exact g'
  | odk xs =>
    cases e
    obtain ⟨F', s, g'⟩ := g.freezeK (n := A.length) (xs := xs) (by simp)
    refine ⟨F', s, ?_⟩
    rw [List.set_append_right _ _ (Nat.le_refl _), Nat.sub_self] at g'
    exact g'
  | _ => cases e
theorem fix_all {G : Gm} {H : Hp} {ρ : L2.St} : ∀ (xs : List DV) {F : Hp} {A : Env} {ds : List PyData}, Good G F (A ++ xs.map some) ρ H → vals xs = some ds → ∃ F', Same F F' ∧ Good G F' (A ++ ds.map (fun d => some (DV.d d))) ρ H
  | [], F, A, ds, g, e => by
    cases e
    exact ⟨F, Same.refl F, by simpa using g⟩
  | x :: xs, F, A, ds, g, e => by
    unfold vals at e
    split at e
    · rename_i d ds' e1 e2
      cases e
      obtain ⟨F1, s1, g1⟩ := fix_one (A := A) (A2 := xs.map some) (by simpa using g) e1
      obtain ⟨F2, s2, g2⟩ := fix_all xs (F := F1) (A := A ++ [some (.d d)]) (by simpa using g1) e2
      exact ⟨F2, s1.trans s2, by simpa using g2⟩
    · cases e
theorem atL_of {G : Gm} {F H : Hp} {A : Env} {A' : L2.St} : ∀ {ds : List PyData} {vs : List V}, ds.length = vs.length → Good G F (A ++ ds.map (fun d => some (DV.d d))) (A' ++ vs.map some) H → AtL G.K F vs ds := by
  intro ds vs hl g
  have hl' : (ds.map DV.d).length = vs.length := by simpa using hl
  have g' : Good G F (A ++ (ds.map DV.d).map some) (A' ++ vs.map some) H := by
    have : (ds.map DV.d).map some = ds.map (fun d => some (DV.d d)) := by simp
    rw [this]; exact g
  have all : ∀ (i : Nat) (d : PyData), ds[i]? = some d → ∃ v, vs[i]? = some v ∧ At G.K F v d := fun i d e => Good.nth hl' g' (r := .d d) (by simp [e])
  clear g g'
  induction ds generalizing vs with
  | nil =>
    cases vs with
    | nil => exact .nil
    | cons _ _ => simp at hl
  | cons d ds ih =>
    cases vs with
    | nil => simp at hl
    | cons v vs =>
      obtain ⟨w, ew, hw⟩ := all 0 d rfl
      cases ew
      refine .cons hw (ih (by simpa using hl) (by simpa using hl) fun i d' e => ?_)
      exact all (i + 1) d' (by simpa using e)
section
variable {u u1 u2 u3 : Nat} {X : Cx} {W : WC} {e : Expr} {es : List Expr} {pos : Pos} {mas : MA} {me : ME}
def mTup (t : MA) : ME := fun ex δ R => t ex δ fun xs => xs.length ≤ sizeLine ∧ match vals xs with
  | some ds => R (.d (.tuple ds))
  | none => False
def mLst (t : MA) : ME := fun ex δ R => t ex δ fun xs => xs.length ≤ sizeLine ∧ match vals xs with
  | some ds => R (.own ds)
  | none => False
theorem vals_len : ∀ {xs : List DV} {ds : List PyData}, vals xs = some ds → ds.length = xs.length
  | [], ds, e => by cases e; rfl
  | x :: xs, ds, e => by
    unfold vals at e
    split at e
    · rename_i d ds' e1 e2
      cases e
      rw [List.length_cons, List.length_cons, vals_len e2]
    · cases e
theorem de_tup {x1 : _} (h : DA X W es mas u) : DE X W (.Tuple es x1 pos) (mTup mas) u :=
  ⟨PE.imp (pe_tup h.pa) fun σ H Q q => by
    obtain ⟨ex, G, F, δ, τ, ts, τ1, ts1, R, n, m, k⟩ := q
    refine ⟨ex, G, F, δ, τ, ts, τ1, ts1, _, n, m, fun xs hxs vs F1 H1 hl g1 => ?_⟩
    obtain ⟨hz, hv⟩ := hxs
    refine ⟨by rw [← hl]; exact hz, fun p hp => ?_⟩
    split at hv
    · rename_i ds ev
      obtain ⟨F2, s2, g2⟩ := fix_all xs g1 ev
      have hd : ds.length = vs.length := (vals_len ev).trans hl
      have ha := atL_of hd g2
      exact k _ hv _ _ _ ((g2.cut (by simpa using hd)).newT hp ha)
    · exact hv.elim⟩
theorem de_lst (h : DA X W es mas u) : DE X W (.List es pos) (mLst mas) u :=
  ⟨PE.imp (pe_lst h.pa) fun σ H Q q => by
    obtain ⟨ex, G, F, δ, τ, ts, τ1, ts1, R, n, m, k⟩ := q
    refine ⟨ex, G, F, δ, τ, ts, τ1, ts1, _, n, m, fun xs hxs vs F1 H1 hl g1 => ?_⟩
    obtain ⟨hz, hv⟩ := hxs
    refine ⟨by rw [← hl]; exact hz, fun p hp => ?_⟩
    split at hv
    · rename_i ds ev
      obtain ⟨F2, s2, g2⟩ := fix_all xs g1 ev
      have hd : ds.length = vs.length := (vals_len ev).trans hl
      have ha := atL_of hd g2
      exact k _ hv _ _ _ ((g2.cut (by simpa using hd)).newO hp ha)
    · exact hv.elim⟩
variable {st : Stmt} {rest : List Stmt} {m m1 m2 : MS}
def mNext : MS := fun _ E δ => E.nx δ
def mSeq (m1 m2 : MS) : MS := fun ex E δ => m1 ex { E with nx := m2 ex E } δ
theorem Now.g0 {ex : XD} {G : Gm} {F : Hp} {δ τ : Env} {σ ts : L2.St} {H : Hp} (n : Now X.K X.mg W u ex G F δ σ τ ts [] [] H) : Good G F (δ ++ τ) (σ ++ ts) H := by
  have := n.good
  simpa using this
theorem Now.to0 {ex : XD} {G : Gm} {F F' : Hp} {δ δ' τ : Env} {σ σ' ts : L2.St} {H H' : Hp} {b : Nat} (n : Now X.K X.mg W u ex G F δ σ τ ts [] [] H) (hb : b + u1 ≤ u) (hl : δ'.length = σ'.length) (g : Good (G.up b) F' (δ' ++ τ) (σ' ++ ts) H') : Now X.K X.mg W u1 ex (G.up b) F' δ' σ' τ ts [] [] H' :=
  ⟨n.k, hl, n.l2, by simpa using g, fun b' F δ σ H τ1 ts1 e cls d hb' h1 h2 h3 h4 => n.link (b + b') F δ σ H τ1 ts1 e cls d (by omega) h1 (by rw [← up_up]; exact h2) h3 h4, n.ck.1, by have := n.ck.2; show G.n + b + u1 ≤ G.lim; omega⟩
theorem EndsOk.up {G : Gm} {τ : Env} {ts : L2.St} {E : DEnds} {D : Ends} {b : Nat} (eo : EndsOk G u τ ts E D) (hb : b + u1 ≤ u) : EndsOk (G.up b) u1 τ ts E D :=
  ⟨fun δ h b' σ F H h1 h2 h3 h4 => eo.nx δ h (b + b') σ F H (by omega) h2 h3 (by rw [← up_up]; exact h4), fun δ h b' σ F H h1 h2 h3 h4 => eo.bk δ h (b + b') σ F H (by omega) h2 h3 (by rw [← up_up]; exact h4),
    fun δ h b' σ F H h1 h2 h3 h4 => eo.ct δ h (b + b') σ F H (by omega) h2 h3 (by rw [← up_up]; exact h4), fun r h ha b' v F H h1 h4 => eo.rt r h ha (b + b') v F H (by omega) (by rw [← up_up]; exact h4),
    fun r δ h b' v σ F H h1 h2 h4 => eo.ro r δ h (b + b') v σ F H (by omega) h2 (by rw [← up_up]; exact h4)⟩
theorem EndsOk.le {G : Gm} {τ : Env} {ts : L2.St} {E : DEnds} {D : Ends} (eo : EndsOk G u τ ts E D) (hb : u1 ≤ u) : EndsOk G u1 τ ts E D :=
  ⟨fun δ h b' σ F H h1 => eo.nx δ h b' σ F H (by omega), fun δ h b' σ F H h1 => eo.bk δ h b' σ F H (by omega), fun δ h b' σ F H h1 => eo.ct δ h b' σ F H (by omega), fun r h ha b' v F H h1 => eo.rt r h ha b' v F H (by omega), fun r δ h b' v σ F H h1 => eo.ro r δ h b' v σ F H (by omega)⟩
theorem dss_nil : DSs X W [] mNext 0 := ⟨PSs.imp pss_nil fun D σ H q => by
  obtain ⟨ex, G, F, δ, τ, ts, E, n, nb, eo, m⟩ := q
  exact eo.nx δ m 0 σ F H (Nat.le_refl _) n.l1 nb (n.g0.later 0)⟩
theorem seq_lift (D : Ends) (σ : L2.St) (H : Hp) (q : liftS X.K X.mg W (u1 + u2) (mSeq m1 m2) D σ H) : tSeq (liftS X.K X.mg W u1 m1) (liftS X.K X.mg W u2 m2) D σ H := by
  obtain ⟨ex, G, F, δ, τ, ts, E, n, nb, eo, m⟩ := q
  have e1 : EndsOk G u1 τ ts E D := eo.le (Nat.le_add_right _ _)
  exact ⟨ex, G, F, δ, τ, ts, { E with nx := m2 ex E }, n.fst, nb, ⟨fun δ' h b σ' F' H' hb hl nb' g => ⟨ex, G.up b, F', δ', τ, ts, E, n.to0 (Nat.add_le_add_right hb _) hl g, nb', eo.up (Nat.add_le_add_right hb _), h⟩, e1.bk, e1.ct, e1.rt, e1.ro⟩, m⟩
theorem dss_cons (h1 : DS X W st m1 u1) (h2 : DSs X W rest m2 u2) : DSs X W (st :: rest) (mSeq m1 m2) (u1 + u2) := ⟨PSs.imp (pss_cons h1.ps h2.pss) seq_lift⟩
theorem dss_one (h1 : DS X W st m1 u) : DSs X W [st] m1 u := ⟨pss_one h1.ps⟩
def mFrz (i : Nat) (m : MS) : MS := fun ex E δ => match δ[i]? with
  | some (some (.own xs)) => m ex E (δ.set i (some (.d (.list xs))))
  | some (some (.odk xs)) => m ex E (δ.set i (some (.d (.dict xs))))
  | _ => m ex E δ
theorem noBor_set {δ : Env} {i : Nat} {x : DV} (nb : NoBor δ) (hx : x.isBor = false) : NoBor (δ.set i (some x)) := fun j y e => by
  rcases get_set e with ⟨_, q, _⟩ | ⟨_, q⟩
  · cases q; exact hx
  · exact nb j y q
theorem frz_lift {i : Nat} (D : Ends) (σ : L2.St) (H : Hp) (q : liftS X.K X.mg W u (mFrz i m) D σ H) : liftS X.K X.mg W u m D σ H := by
  obtain ⟨ex, G, F, δ, τ, ts, E, n, nb, eo, mm⟩ := q
  unfold mFrz at mm
  split at mm
  · rename_i xs e
    have hi : i < δ.length := (List.getElem?_eq_some_iff.mp e).1
    obtain ⟨F', s, g⟩ := n.g0.freeze (n := i) (xs := xs) (by rw [List.getElem?_append_left hi]; exact e)
    rw [List.set_append_left _ _ hi] at g
    refine ⟨ex, G, F', _, τ, ts, E, ⟨n.k, by simpa using n.l1, n.l2, by simpa using g, n.link, n.ck⟩, ?_, eo, mm⟩
    rw [← List.set_append_left _ _ hi]
    exact noBor_set nb rfl
  · rename_i xs e
    have hi : i < δ.length := (List.getElem?_eq_some_iff.mp e).1
    obtain ⟨F', s, g⟩ := n.g0.freezeK (n := i) (xs := xs) (by rw [List.getElem?_append_left hi]; exact e)
    rw [List.set_append_left _ _ hi] at g
    refine ⟨ex, G, F', _, τ, ts, E, ⟨n.k, by simpa using n.l1, n.l2, by simpa using g, n.link, n.ck⟩, ?_, eo, mm⟩
    rw [← List.set_append_left _ _ hi]
    exact noBor_set nb rfl
  · exact ⟨ex, G, F, δ, τ, ts, E, n, nb, eo, mm⟩
theorem ds_frz (i : Nat) (h : DS X W st m u) : DS X W st (mFrz i m) u := ⟨PS.imp h.ps frz_lift⟩
def mRet (me : ME) : MS := fun ex E δ => me ex δ fun r => E.rt r.fix
theorem ds_ret (h : DE X W e me u) : DS X W (.Return (some e) pos) (mRet me) u := ⟨PS.imp (ps_ret h.pe) fun D σ H q => by
  obtain ⟨ex, G, F, δ, τ, ts, E, n, nb, eo, m⟩ := q
  refine ⟨ex, G, F, δ, τ, ts, [], [], _, n, m, fun r hr v F' H' g => ?_⟩
  obtain ⟨F2, s2, g2⟩ := g.fixLast
  exact eo.rt _ hr (fix_arg r) u v F2 H' (Nat.le_refl _) g2⟩
def mDrop (me : ME) : MS := fun ex E δ => me ex δ fun _ => E.nx δ
theorem ds_expr (h : DE X W e me u) (hs : swapsWith e none pos.line X.env = pure false := by rfl) : DS X W (.Expr e pos) (mDrop me) u := ⟨PS.imp (ps_expr h.pe hs) fun D σ H q => by
  obtain ⟨ex, G, F, δ, τ, ts, E, n, nb, eo, m⟩ := q
  refine ⟨ex, G, F, δ, τ, ts, [], [], _, n, m, fun r hr v F' H' g => ?_⟩
  have g' : Good (G.up u) F' (δ ++ τ) (σ ++ ts) H' := by
    have := g.pop
    simpa using this
  exact eo.nx δ hr u σ F' H' (Nat.le_refl _) n.l1 nb g'⟩
def mIfS (t : MT) (m1 m2 : MS) : MS := fun ex E δ => t ex δ fun c => (c = true → m1 ex E δ) ∧ (c = false → m2 ex E δ)
theorem ds_if {c : Expr} {p q : List Stmt} {t : MT} (hc : DT X W c t u1) (hp : DSs X W p m1 u2) (hq : DSs X W q m2 u3) : DS X W (.If c p q pos) (mIfS t m1 m2) (u1 + (u2 + u3)) := ⟨PS.imp (ps_if hc.pt hp.pss hq.pss) fun D σ H q => by
  obtain ⟨ex, G, F, δ, τ, ts, E, n, nb, eo, m⟩ := q
  refine ⟨ex, G, F, δ, τ, ts, [], [], _, n.fst, m, fun b hb F' H' g => ?_⟩
  have g' : Good (G.up u1) F' (δ ++ τ) (σ ++ ts) H' := by simpa using g
  show if b = true then liftS X.K X.mg W u2 m1 D σ H' else liftS X.K X.mg W u3 m2 D σ H'
  cases b with
  | true => rw [if_pos rfl]; exact ⟨ex, G.up u1, F', δ, τ, ts, E, n.to0 (by omega) n.l1 g', nb, eo.up (by omega), hb.1 rfl⟩
  | false => rw [if_neg Bool.false_ne_true]; exact ⟨ex, G.up u1, F', δ, τ, ts, E, n.to0 (by omega) n.l1 g', nb, eo.up (by omega), hb.2 rfl⟩⟩
variable {tg : Expr} {dom : List Nat} {mg : MG}
def gN (i : Nat) : MG := fun v δ R => v.isBor = false ∧ i < δ.length ∧ R (δ.set i (some v))
theorem dg_name {i : Nat} {x : Str} (hN : X.N.Nodup) (hi : X.N[i]? = some x) (hx : Loc X.env.scope x) (hf : X.fn x = true ∨ X.env.scope.names.lookup x = some .local := by first | exact .inl rfl | exact .inr rfl | assumption) : DG X (.Name x pos) [i] (gN i) :=
  ⟨PG.imp (pg_name hN hi hx hf) fun v σ H Q q => by
    obtain ⟨G, F, δ, τ, ts, r, R, kk, l1, l2, g, m, k⟩ := q
    obtain ⟨hb, hi, hR⟩ := m
    have g' := g.setTop (i := i) (by simp; omega)
    rw [List.set_append_left _ _ hi, List.set_append_left _ _ (by omega)] at g'
    exact k _ hR _ F H (by simp) (by simp) (fun j hj => List.getElem?_set_ne (fun z => hj (by simp [z]))) (fun nb => noBor_set nb hb) g'⟩
def gsN : List MG → List PyData → Env → (Env → Prop) → Prop
  | [], [], δ, R => R δ
  | g :: gs, d :: ds, δ, R => g (.d d) δ fun δ' => gsN gs ds δ' R
  | _, _, _, _ => False
def liftGs (K : PySem.W.Frag) (dom : List Nat) (gs : List MG) : TGs := fun vs σ H Q => ∃ (G : Gm) (F : Hp) (δ τ : Env) (ts : L2.St) (ds : List PyData) (R : Env → Prop), G.K = K ∧ δ.length = σ.length ∧ τ.length = ts.length ∧ Good G F (δ ++ τ) (σ ++ ts) H ∧ AtL G.K F vs ds ∧ gsN gs ds δ R ∧
  ∀ δ', R δ' → ∀ σ' F' H', δ'.length = δ.length → σ'.length = σ.length → (∀ j, j ∉ dom → σ'[j]? = σ[j]?) → (NoBor δ → NoBor δ') → Good G F' (δ' ++ τ) (σ' ++ ts) H' → Q σ' H'
structure DGs (X : Cx) (tgs : List Expr) (dom : List Nat) (gs : List MG) : Prop where
  pgs : PGs X tgs (liftGs X.K dom gs)
theorem PGs.imp {X : Cx} {e : List Expr} {t t' : TGs} (h : PGs X e t) (i : ∀ v σ H Q, t' v σ H Q → t v σ H Q) : PGs X e t' := ⟨fun pins s σ H v u Q I r q => h.run pins s σ H v u Q I r (i _ _ _ _ q)⟩
theorem Good.pushL {G : Gm} {F H : Hp} : ∀ {vs : List V} {ds : List PyData} {A : Env} {A' : L2.St}, AtL G.K F vs ds → Good G F A A' H → Good G F (A ++ ds.map fun d => some (DV.d d)) (A' ++ vs.map some) H
  | _, _, A, A', .nil, g => by simpa using g
  | _, _, A, A', .cons h t, g => by
    have := Good.pushL (A := A ++ [some (.d _)]) (A' := A' ++ [some _]) t (g.pushD h)
    simpa using this
theorem dgs_nil : DGs X [] [] [] := ⟨PGs.imp pgs_nil fun vs σ H Q q => by
  obtain ⟨G, F, δ, τ, ts, ds, R, kk, l1, l2, g, h, m, k⟩ := q
  cases h with
  | nil => exact ⟨rfl, k δ m σ F H rfl rfl (fun _ _ => rfl) id g⟩
  | cons _ _ => exact m.elim⟩
theorem dgs_cons {es : List Expr} {d1 d2 : List Nat} {gs : List MG} (h1 : DG X e d1 mg) (h2 : DGs X es d2 gs) (hs : (assignEach (e :: es) X.env).map (·.2) = assign e X.env :: (assignEach es X.env).map (·.2) := by rfl) : DGs X (e :: es) (d1 ++ d2) (mg :: gs) :=
  ⟨PGs.imp (pgs_cons h1.pg h2.pgs hs) fun vs σ H Q q => by
    obtain ⟨G, F, δ, τ, ts, ds, R, kk, l1, l2, g, h, m, k⟩ := q
    cases h with
    | nil => exact m.elim
    | @cons v vs d ds hv hr =>
      have hlen := hr.length
      refine ⟨v, vs, rfl, G, F, δ, τ ++ ds.map (fun d => some (DV.d d)), ts ++ vs.map some, .d d, _, kk, l1, by simp [l2, hlen], ?_, m, fun δ' hm σ' F' H' k1 k2 k3 k4 g' => ?_⟩
      · have := (Good.pushL hr g).pushD hv
        simpa only [List.append_assoc] using this
      · have g1 : Good G F' (δ' ++ τ ++ ds.map fun d => some (DV.d d)) (σ' ++ ts ++ vs.map some) H' := by simpa only [List.append_assoc] using g'
        refine ⟨G, F', δ', τ, ts, ds, R, kk, by omega, l2, g1.cut (by simp [hlen]), atL_of hlen.symm g1, hm, fun δ2 hR σ2 F2 H2 j1 j2 j3 j4 g2 => ?_⟩
        exact k δ2 hR σ2 F2 H2 (j1.trans k1) (j2.trans k2) (fun j hj => (j3 j fun z => hj (List.mem_append_right _ z)).trans (k3 j fun z => hj (List.mem_append_left _ z))) (fun nb => j4 (k4 nb)) g2⟩
def gT (gs : List MG) : MG := fun v δ R => match v with
  | .d (.tuple ds) => ds.length = gs.length ∧ gsN gs ds δ R
  | _ => False
theorem dg_tup {es : List Expr} {k : _} {gs : List MG} (hc : X.calm = true) (h : DGs X es dom gs) (hn : (assignEach es X.env).length = gs.length := by rfl) (hst : (assignEach es X.env).findIdx? (·.1) = none := by rfl) (hK : True := True.intro) :
    DG X (.Tuple es k pos) dom (gT gs) := ⟨PG.imp (pg_tup hc h.pgs hn hst) fun v σ H Q q => by
  obtain ⟨G, F, δ, τ, ts, r, R, kk, l1, l2, g, m, k⟩ := q
  have t := g.top
  match r, m, t with
  | .d (.tuple ds), m, t =>
    obtain ⟨hl, m⟩ := m
    cases t with
    | @tup a vs _ hs ha =>
      refine ⟨a, vs, rfl, sqT_mono g.fh (by rw [← kk]; exact (SqT.of hs)), ha.length.trans hl, ?_⟩
      exact ⟨G, F, δ, τ, ts, ds, R, kk, l1, l2, g.pop, ha, m, k⟩⟩
def mAsg (me : ME) (g : MG) : MS := fun ex E δ => me ex δ fun r => g r δ E.nx
theorem asg_lift (D : Ends) (σ : L2.St) (H : Hp) (q : liftS X.K X.mg W u (mAsg me mg) D σ H) : tAsg (liftE X.K X.mg W u me) (liftG X.K dom mg) D σ H := by
  obtain ⟨ex, G, F, δ, τ, ts, E, n, nb, eo, m⟩ := q
  refine ⟨ex, G, F, δ, τ, ts, [], [], _, n, m, fun r hr v F' H' g => ?_⟩
  have g' : Good (G.up u) F' (δ ++ τ ++ [some r]) (σ ++ ts ++ [some v]) H' := by simpa using g
  refine ⟨G.up u, F', δ, τ, ts, r, _, n.k, n.l1, n.l2, g', hr, fun δ' h σ' F2 H2 k1 k2 k3 k4 g2 => ?_⟩
  have nbδ : NoBor δ := fun i x e => nb i x (by rw [List.getElem?_append_left (List.getElem?_eq_some_iff.mp e).1]; exact e)
  refine eo.nx δ' h u σ' F2 H2 (Nat.le_refl _) (by have := n.l1; omega) (fun i x e => ?_) g2
  rcases Nat.lt_or_ge i δ'.length with hi | hi
  · rw [List.getElem?_append_left hi] at e
    exact k4 nbδ i x e
  · rw [List.getElem?_append_right hi] at e
    refine nb (δ.length + (i - δ'.length)) x ?_
    rw [List.getElem?_append_right (Nat.le_add_right _ _), Nat.add_sub_cancel_left]
    exact e
theorem ds_asg (he : DE X W e me u) (hg : DG X tg dom mg) (hs : swapsWithSole [tg] e pos.line X.env = pure false := by rfl) (hw : swappedStores [tg] e X.env = pure none := by rfl)
    (h1 : (assignEach [tg] X.env).map (·.2) = [assign tg X.env] := by rfl) : DS X W (.Assign [tg] e pos) (mAsg me mg) u := ⟨PS.imp (ps_asg he.pe hg.pg hs hw h1) asg_lift⟩
theorem set_lift {i : Nat} (D : Ends) (σ : L2.St) (H : Hp) (q : liftS X.K X.mg W u (mAsg me (gN i)) D σ H) : tAsg (liftE X.K X.mg W u me) (gName i) D σ H := by
  obtain ⟨ex, G, F, δ, τ, ts, E, n, nb, eo, m⟩ := q
  refine ⟨ex, G, F, δ, τ, ts, [], [], _, n, m, fun r hr v F' H' g => ?_⟩
  have g' : Good (G.up u) F' (δ ++ τ ++ [some r]) (σ ++ ts ++ [some v]) H' := by simpa using g
  obtain ⟨hb, hi, hR⟩ := hr
  have g2 := g'.setTop (i := i) (by simp; omega)
  have l1 := n.l1
  rw [List.set_append_left _ _ hi, List.set_append_left _ _ (by omega)] at g2
  refine eo.nx _ hR u _ F' H' (Nat.le_refl _) (by simpa using l1) ?_ g2
  rw [← List.set_append_left _ _ hi]
  exact noBor_set nb hb
theorem ds_set {i : Nat} {x : Str} {pos' : Pos} (hN : X.N.Nodup) (hi : X.N[i]? = some x) (hx : Loc X.env.scope x) (he : DE X W e me u) (hs : swapsWith e (some (.Name x pos')) pos.line X.env = pure false := by rfl) (hf : X.fn x = true ∨ X.env.scope.names.lookup x = some .local := by first | exact .inl rfl | exact .inr rfl | assumption) :
    DS X W (.Assign [.Name x pos'] e pos) (mAsg me (gN i)) u := ⟨PS.imp (ps_set hN hi hx he.pe hs hf) set_lift⟩
end
end DL
namespace DL
open PySem PySem.Spec L2
section
variable {u u1 u2 u3 ut ue : Nat} {X : Cx} {W : WC} {a b c e : Expr} {es : List Expr} {pos : Pos} {ma me : ME} {mas : MA} {mt : MT} {mg : MG} {dom : List Nat} {m m1 m2 : MS}
def mWhile (t : MT) (b : MS) : MS := fun ex E δ => ∃ Wd : Nat → Env → Prop, (∃ n, Wd n δ) ∧ ∀ n δ, Wd n δ → t ex δ fun c =>
  (c = true → b ex { nx := fun δ' => ∃ k, k < n ∧ Wd k δ', ct := fun δ' => ∃ k, k < n ∧ Wd k δ', bk := E.nx, rt := E.rt, ro := E.ro } δ) ∧ (c = false → E.nx δ)
theorem ds_while {body : List Stmt} (hp : PassesOwn (model X.prog X.w) X.A X.env X.xe) (hc : DT X W c mt u1) (hb : DSs X W body m u2) (hu1 : u1 = 0 := by rfl) (hu2 : u2 = 0 := by rfl) : DS X W (.While c body [] pos) (mWhile mt m) 0 := ⟨PS.imp (ps_while hp hc.pt hb.pss) fun D σ H q => by
  obtain ⟨ex, G, F, δ, τ, ts, E, n, nb, eo, Wd, ⟨n0, w0⟩, turn⟩ := q
  subst hu1
  subst hu2
  refine ⟨fun k σ' H' => ∃ F' δ', Now X.K X.mg W 0 ex G F' δ' σ' τ ts [] [] H' ∧ NoBor (δ' ++ τ) ∧ Wd k δ', ⟨n0, F, δ, n, nb, w0⟩, ?_⟩
  rintro k σ1 H1 ⟨F1, δ1, n1, nb1, w1⟩
  refine ⟨ex, G, F1, δ1, τ, ts, [], [], _, n1, turn k δ1 w1, fun c hc F2 H2 g2 => ?_⟩
  have g2' : Good (G.up 0) F2 (δ1 ++ τ) (σ1 ++ ts) H2 := by simpa using g2
  cases c with
  | false =>
    show if false = true then _ else _
    rw [if_neg Bool.false_ne_true]
    exact eo.nx δ1 (hc.2 rfl) 0 σ1 F2 H2 (Nat.le_refl _) n1.l1 nb1 g2'
  | true =>
    show if true = true then _ else _
    rw [if_pos rfl]
    refine ⟨fun σ' H' => ∃ j, j < k ∧ ∃ F' δ', Now X.K X.mg W 0 ex G F' δ' σ' τ ts [] [] H' ∧ NoBor (δ' ++ τ) ∧ Wd j δ', fun σ' H' ⟨j, hj, h⟩ => ⟨j, hj, h⟩, ?_⟩
    have z0 : ∀ b : Nat, b ≤ 0 → b = 0 := fun b h => Nat.le_zero.mp h
    exact ⟨ex, G, F2, δ1, τ, ts, { nx := fun δ' => ∃ j, j < k ∧ Wd j δ', ct := fun δ' => ∃ j, j < k ∧ Wd j δ', bk := E.nx, rt := E.rt, ro := E.ro }, n1.to0 (b := 0) (Nat.le_refl _) n1.l1 g2', nb1,
      ⟨fun δ' ⟨j, hj, hw⟩ b σ' F' H' hb hl nb' g => ⟨j, hj, F', δ', n1.to0 (b := 0) (Nat.le_refl _) hl (by rw [z0 b hb] at g; exact g), nb', hw⟩, eo.nx, fun δ' ⟨j, hj, hw⟩ b σ' F' H' hb hl nb' g => ⟨j, hj, F', δ', n1.to0 (b := 0) (Nat.le_refl _) hl (by rw [z0 b hb] at g; exact g), nb', hw⟩, eo.rt, eo.ro⟩, hc.1 rfl⟩⟩
structure DIt where
  tmp : List DV
  items : List PyData
abbrev MI := XD → Env → (DIt → Prop) → Prop
def ItOk (G : Gm) (it : DIt) (ts : List V) (J : It) : Prop :=
  ∀ (b i : Nat) (F : Hp) (A B : Env) (A' B' : L2.St) (H : Hp), A.length = A'.length → B.length = B'.length → Good (G.up b) F (A ++ it.tmp.map some ++ B) (A' ++ ts.map some ++ B') H →
    (it.items.length ≤ i → J.stop i H) ∧ ∀ d, it.items[i]? = some d → J.go i H ∧ ∀ x H', J.yld i H x H' → ∃ F', Good (G.up b) F' (A ++ it.tmp.map some ++ B ++ [some (.d d)]) (A' ++ ts.map some ++ B' ++ [some x]) H'
def liftI (K : PySem.W.Frag) (mg : Str → Option Value) (W : WC) (u : Nat) (m : MI) : TI := fun σ H Q => ∃ (ex : XD) (G : Gm) (F : Hp) (δ τ : Env) (ts : L2.St) (τ1 : Env) (ts1 : L2.St) (R : DIt → Prop), Now K mg W u ex G F δ σ τ ts τ1 ts1 H ∧ m ex δ R ∧
  ∀ it, R it → ∀ (vs : List V) F' H' J, it.tmp.length = vs.length → Good (G.up u) F' (δ ++ τ ++ τ1 ++ it.tmp.map some) (σ ++ ts ++ ts1 ++ vs.map some) H' → ItOk G it vs J → Q J H'
structure DI (X : Cx) (W : WC) (tg e : Expr) (m : MI) (u : Nat) : Prop where
  pi : PI X tg e (liftI X.K X.mg W u m)
def DV.seq : DV → Option (List PyData)
  | .d (.list xs) => some xs
  | .d (.tuple xs) => some xs
  | .own xs => some xs
  | .bor xs => some xs
  | _ => none
def DV.rd : DV → Option (List PyData)
  | .d (.list xs) => some xs
  | .own xs => some xs
  | .bor xs => some xs
  | .scr ns => some (ns.map .int)
  | _ => none
def DV.lst : DV → Option (List PyData)
  | .d (.list xs) => some xs
  | .own xs => some xs
  | .bor xs => some xs
  | _ => none
theorem lst_of {G : Gm} {F H : Hp} {v : V} {x : DV} {xs : List PyData} (h : VOk G F H v x) (hf : Same F H) (e : x.lst = some xs) : ∃ l vs, v = .ref l ∧ H l = some (.lst vs) ∧ AtL G.K F vs xs := by
  match x, e, h with
  | .d (.list ys), e, h =>
    cases e
    cases h with
    | lst hs ha => exact ⟨_, _, rfl, hf _ _ hs, ha⟩
  | .own ys, e, h =>
    cases e
    obtain ⟨l, vs, rfl, h1, h2, _⟩ := h
    exact ⟨l, vs, rfl, h1, h2⟩
  | .bor ys, e, h =>
    cases e
    obtain ⟨l, vs, rfl, h1, h2, _⟩ := h
    exact ⟨l, vs, rfl, h1, h2⟩
theorem rd_of {G : Gm} {F H : Hp} {v : V} {x : DV} {xs : List PyData} (h : VOk G F H v x) (hf : Same F H) (e : x.rd = some xs) : ∃ l vs, v = .ref l ∧ SqL G.K H l vs ∧ AtL G.K F vs xs := by
  match x, e, h with
  | .d (.list ys), e, h =>
    cases e
    cases h with
    | lst hs ha => exact ⟨_, _, rfl, SqL.of (hf _ _ hs), ha⟩
  | .own ys, e, h =>
    cases e
    obtain ⟨l, vs, rfl, h1, h2, _⟩ := h
    exact ⟨l, vs, rfl, SqL.of h1, h2⟩
  | .bor ys, e, h =>
    cases e
    obtain ⟨l, vs, rfl, h1, h2, _⟩ := h
    exact ⟨l, vs, rfl, SqL.of h1, h2⟩
  | .scr ns, e, h =>
    cases e
    obtain ⟨l, rfl, h1⟩ := h
    exact ⟨l, _, rfl, sqL_mono hf h1, atL_ints ns⟩
theorem tup_of {G : Gm} {F H : Hp} {v : V} {xs : List PyData} (h : VOk G F H v (.d (.tuple xs))) (hf : Same F H) : ∃ l vs, v = .ref l ∧ SqT G.K H l vs ∧ AtL G.K F vs xs := by
  cases (show At G.K F v (.tuple xs) from h) with
  | tup hs ha => exact ⟨_, _, rfl, SqT.of (hf _ _ hs), ha⟩
def mIL (me : ME) : MI := fun ex δ R => me ex δ fun x => match x.rd with
  | some xs => R ⟨[x], xs⟩
  | none => False
theorem sub1 {G : Gm} {F H : Hp} {A : Env} {A' : L2.St} {x : DV} {v : V} (g : Good G F (A ++ [x].map some) (A' ++ [v].map some) H) : VOk G F H v x := Good.top (by simpa using g)
theorem di_list {tg : Expr} (h : DE X W e me u) : DI X W tg e (mIL me) u := ⟨PI.imp (pi_list h.pe) fun σ H Q q => by
  obtain ⟨ex, G, F, δ, τ, ts, τ1, ts1, R, n, m, k⟩ := q
  refine ⟨ex, G, F, δ, τ, ts, τ1, ts1, _, n, m, fun x hx v F1 H1 g1 => ?_⟩
  split at hx
  · rename_i xs e
    obtain ⟨l, vs, rfl, hs, ha⟩ := rd_of g1.top g1.fh e
    rw [n.k] at hs
    refine ⟨l, rfl, ⟨vs, hs⟩, k _ hx [.ref l] F1 H1 _ rfl (by simpa using g1) fun b i F2 A B A' B' H2 hA hB g2 => ?_⟩
    have ht := sub1 (g2.cut hB)
    obtain ⟨l', vs', e1, hs0, ha'⟩ := rd_of ht g2.fh e
    cases e1
    have hs' : SqL X.K H2 l vs' := by rw [← n.k]; exact hs0
    refine ⟨fun hi => ⟨vs', hs', by rw [ha'.length]; exact hi⟩, fun d hd => ?_⟩
    obtain ⟨w, ew, hw⟩ := ha'.get hd
    refine ⟨⟨vs', w, hs', ew⟩, fun y H3 hy => ?_⟩
    obtain ⟨rfl, hy⟩ := hy
    have := hy vs' hs'
    rw [ew] at this
    cases this
    exact ⟨F2, by simpa only [List.append_assoc] using g2.pushD hw⟩
  · exact hx.elim⟩
def mIT (me : ME) : MI := fun ex δ R => me ex δ fun x => match x with
  | .d (.tuple xs) => R ⟨[x], xs⟩
  | _ => False
theorem di_tup {tg : Expr} (h : DE X W e me u) : DI X W tg e (mIT me) u := ⟨PI.imp (pi_tup h.pe) fun σ H Q q => by
  obtain ⟨ex, G, F, δ, τ, ts, τ1, ts1, R, n, m, k⟩ := q
  refine ⟨ex, G, F, δ, τ, ts, τ1, ts1, _, n, m, fun x hx v F1 H1 g1 => ?_⟩
  match x, hx, g1 with
  | .d (.tuple xs), hx, g1 =>
    obtain ⟨l, vs, rfl, hs, ha⟩ := tup_of g1.top g1.fh
    refine ⟨l, rfl, ⟨vs, by rw [← n.k]; exact hs⟩, k _ hx [.ref l] F1 H1 _ rfl (by simpa using g1) fun b i F2 A B A' B' H2 hA hB g2 => ?_⟩
    have ht := sub1 (g2.cut hB)
    obtain ⟨l', vs', e1, hs', ha'⟩ := tup_of ht g2.fh
    cases e1
    rw [n.k] at hs'
    refine ⟨fun hi => ⟨vs', hs', by rw [ha'.length]; exact hi⟩, fun d hd => ?_⟩
    obtain ⟨w, ew, hw⟩ := ha'.get hd
    refine ⟨⟨vs', w, hs', ew⟩, fun y H3 hy => ?_⟩
    obtain ⟨rfl, hy⟩ := hy
    have := hy vs' hs'
    rw [ew] at this
    cases this
    exact ⟨F2, by simpa only [List.append_assoc] using g2.pushD hw⟩⟩
def rangeD (lo : Int) (n : Nat) : List PyData := (List.range n).map fun i => .int (lo + (i : Nat))
theorem rangeD_get {lo : Int} {n i : Nat} : (rangeD lo n)[i]? = if i < n then some (.int (lo + (i : Nat))) else none := by
  unfold rangeD
  rw [List.getElem?_map]
  by_cases h : i < n
  · rw [List.getElem?_range h, if_pos h]; rfl
  · rw [List.getElem?_eq_none (by simpa using h), if_neg h]; rfl
theorem rangeD_len {lo : Int} {n : Nat} : (rangeD lo n).length = n := by unfold rangeD; simp
theorem itr_ok (G : Gm) (lo : Int) (n : Nat) : ItOk G ⟨[], rangeD lo n⟩ [] (Itr lo n) := fun b i F A B A' B' H hA hB g => by
  refine ⟨fun h => by rw [rangeD_len] at h; exact h, fun d hd => ?_⟩
  rw [rangeD_get] at hd
  split at hd
  · rename_i hi
    cases hd
    refine ⟨hi, fun y H3 hy => ?_⟩
    obtain ⟨rfl, rfl⟩ := hy
    exact ⟨F, g.pushD (.int _)⟩
  · cases hd
def mR1 (t : MA) : MI := fun ex δ R => t ex δ fun xs => match xs with
  | [.d (.int j)] => -(2 ^ 62) ≤ j ∧ j < 2 ^ 62 ∧ R ⟨[], rangeD 0 j.toNat⟩
  | _ => False
def mR2 (t : MA) : MI := fun ex δ R => t ex δ fun xs => match xs with
  | [.d (.int i), .d (.int j)] => (-(2 ^ 62) ≤ i ∧ i < 2 ^ 62 ∧ -(2 ^ 62) ≤ j ∧ j < 2 ^ 62) ∧ R ⟨[], rangeD i (j - i).toNat⟩
  | _ => False
theorem int_of {G : Gm} {F H : Hp} {v : V} {i : Int} (h : VOk G F H v (.d (.int i))) : v = .int i := by
  cases (show At G.K F v (.int i) from h); rfl
theorem one_of {G : Gm} {F H : Hp} {A : Env} {A' : L2.St} {x : DV} {vs : List V} (hl : [x].length = vs.length) (g : Good G F (A ++ [x].map some) (A' ++ vs.map some) H) : ∃ v, vs = [v] ∧ VOk G F H v x ∧ Good G F A A' H := by
  match vs, hl with
  | [v], _ => exact ⟨v, rfl, sub1 g, Good.pop (x := some x) (y := some v) (by simpa using g)⟩
theorem two_of {G : Gm} {F H : Hp} {A : Env} {A' : L2.St} {x y : DV} {vs : List V} (hl : [x, y].length = vs.length) (g : Good G F (A ++ [x, y].map some) (A' ++ vs.map some) H) : ∃ v u, vs = [v, u] ∧ VOk G F H v x ∧ VOk G F H u y ∧ Good G F A A' H := by
  match vs, hl with
  | [v, u], _ =>
    have g' : Good G F (A ++ [some x] ++ [some y]) (A' ++ [some v] ++ [some u]) H := by simpa using g
    exact ⟨v, u, rfl, g'.pop.top, g'.top, g'.pop.pop⟩
theorem three_of {G : Gm} {F H : Hp} {A : Env} {A' : L2.St} {x y z : DV} {vs : List V} (hl : [x, y, z].length = vs.length) (g : Good G F (A ++ [x, y, z].map some) (A' ++ vs.map some) H) : ∃ v u w, vs = [v, u, w] ∧ VOk G F H v x ∧ VOk G F H u y ∧ VOk G F H w z ∧ Good G F A A' H := by
  match vs, hl with
  | [v, u, w], _ =>
    have g' : Good G F (A ++ [some x] ++ [some y] ++ [some z]) (A' ++ [some v] ++ [some u] ++ [some w]) H := by simpa using g
    exact ⟨v, u, w, rfl, g'.pop.pop.top, g'.pop.top, g'.top, g'.pop.pop.pop⟩
theorem di_range1 {tg : Expr} {p : Pos} (hg : Gl X "range") (hm : X.mg "range" = none) (ha : DA X W [a] mas u) (hs : starEach [a] X.env = [(false, eval a X.env)] := by rfl) : DI X W tg (.Call (.Name "range" p) [a] [] pos) (mR1 mas) u :=
  ⟨PI.imp (pi_range1 hg hm ha.pa hs) fun σ H Q q => by
    obtain ⟨ex, G, F, δ, τ, ts, τ1, ts1, R, n, m, k⟩ := q
    refine ⟨ex, G, F, δ, τ, ts, τ1, ts1, _, n, m, fun xs hxs vs F1 H1 hl g1 => ?_⟩
    match xs, hxs, hl, g1 with
    | [.d (.int j)], hxs, hl, g1 =>
      obtain ⟨h1, h2, hR⟩ := hxs
      obtain ⟨v, rfl, hv, g⟩ := one_of hl g1
      cases int_of hv
      exact ⟨j, rfl, h1, h2, k _ hR [] F1 H1 _ rfl (by simpa using g) (itr_ok _ 0 j.toNat)⟩⟩
theorem di_range2 {tg : Expr} {p : Pos} (hg : Gl X "range") (hm : X.mg "range" = none) (ha : DA X W [a, b] mas u) (hs : starEach [a, b] X.env = [(false, eval a X.env), (false, eval b X.env)] := by rfl) (hs2 : starEach [b] X.env = [(false, eval b X.env)] := by rfl) :
    DI X W tg (.Call (.Name "range" p) [a, b] [] pos) (mR2 mas) u :=
  ⟨PI.imp (pi_range2 hg hm ha.pa hs hs2) fun σ H Q q => by
    obtain ⟨ex, G, F, δ, τ, ts, τ1, ts1, R, n, m, k⟩ := q
    refine ⟨ex, G, F, δ, τ, ts, τ1, ts1, _, n, m, fun xs hxs vs F1 H1 hl g1 => ?_⟩
    match xs, hxs, hl, g1 with
    | [.d (.int i), .d (.int j)], hxs, hl, g1 =>
      obtain ⟨h1, hR⟩ := hxs
      obtain ⟨v, u, rfl, hv, hu, g⟩ := two_of hl g1
      cases int_of hv
      cases int_of hu
      exact ⟨i, j, rfl, h1, k _ hR [] F1 H1 _ rfl (by simpa using g) (itr_ok _ i (j - i).toNat)⟩⟩
def forRun (g : MG) (b : MS) (ex : XD) (E : DEnds) : List PyData → Env → Prop
  | [], δ => E.nx δ
  | d :: ds, δ => g (.d d) δ fun δ' => b ex { nx := forRun g b ex E ds, ct := forRun g b ex E ds, bk := E.nx, rt := E.rt, ro := E.ro } δ'
def mFor (mi : MI) (g : MG) (b : MS) : MS := fun ex E δ => mi ex δ fun it => (∀ x ∈ it.tmp, x.isBor = false) ∧ forRun g b ex E it.items δ
theorem drop_cons {α : Type} : ∀ {l : List α} {i : Nat} {x : α}, l[i]? = some x → l.drop i = x :: l.drop (i + 1)
  | [], i, x, h => by simp at h
  | a :: l, 0, x, h => by
    simp at h
    subst h
    rfl
  | a :: l, i + 1, x, h => by
    simp only [List.drop_succ_cons]
    exact drop_cons (by simpa using h)
theorem nb_app {A B C : Env} (h : NoBor (A ++ B)) (hc : NoBor C) : NoBor (A ++ (B ++ C)) := fun i x e => by
  rw [← List.append_assoc] at e
  rcases Nat.lt_or_ge i (A ++ B).length with q | q
  · rw [List.getElem?_append_left q] at e
    exact h i x e
  · rw [List.getElem?_append_right q] at e
    exact hc _ x e
theorem nb_left {A B : Env} (h : NoBor (A ++ B)) : NoBor A := fun i x e => h i x (by rw [List.getElem?_append_left (List.getElem?_eq_some_iff.mp e).1]; exact e)
theorem nb_right {A B : Env} (h : NoBor (A ++ B)) : NoBor B := fun i x e => h (A.length + i) x (by rw [List.getElem?_append_right (Nat.le_add_right _ _), Nat.add_sub_cancel_left]; exact e)
theorem nb_mk {A B : Env} (h : NoBor A) (h2 : NoBor B) : NoBor (A ++ B) := fun i x e => by
  rcases Nat.lt_or_ge i A.length with q | q
  · rw [List.getElem?_append_left q] at e
    exact h i x e
  · rw [List.getElem?_append_right q] at e
    exact h2 _ x e
def mForN (N : Nat) (mi : MI) (g : MG) (b : MS) : MS := fun ex E δ => mi ex δ fun it => it.items.length ≤ N ∧ (∀ x ∈ it.tmp, x.isBor = false) ∧ forRun g b ex E it.items δ
theorem for_lift {mi : MI} {D : Ends} {σ : L2.St} {H : Hp} {ex : XD} {G : Gm} {F : Hp} {δ τ : Env} {ts : L2.St} {E : DEnds} {S : DIt → Prop} (n : Now X.K X.mg W (u1 + u3) ex G F δ σ τ ts [] [] H) (nb : NoBor (δ ++ τ)) (eo : EndsOk G (u1 + u3) τ ts E D) (mm : mi ex δ S)
    (hS : ∀ it, S it → it.items.length * u2 ≤ u3 ∧ (∀ x ∈ it.tmp, x.isBor = false) ∧ forRun mg m ex E it.items δ) : tFor (liftI X.K X.mg W u1 mi) (liftG X.K dom mg) (liftS X.K X.mg W u2 m) D σ H := by
  refine ⟨ex, G, F, δ, τ, ts, [], [], _, n.fst, mm, fun it hit vs F1 H1 J hl g1 ok => ?_⟩
  obtain ⟨hlen, htb, hrun⟩ := hS it hit
  have hT : NoBor (it.tmp.map some) := fun i x e => by
    rw [List.getElem?_map] at e
    cases q : it.tmp[i]? with
    | none => rw [q] at e; cases e
    | some y =>
      rw [q] at e
      cases e
      exact htb _ (List.mem_of_getElem? q)
  have hlT : (it.tmp.map some).length = (vs.map some).length := by simpa using hl
  have room : ∀ {i : Nat}, i < it.items.length → u1 + i * u2 + u2 ≤ u1 + u3 := fun {i} h => by
    have h1 : (i + 1) * u2 ≤ it.items.length * u2 := Nat.mul_le_mul_right _ h
    rw [Nat.succ_mul] at h1
    omega
  have more : ∀ (i : Nat), (i + 1) * u2 = i * u2 + u2 := fun i => Nat.succ_mul i u2
  have lk : ∀ {i : Nat}, i < it.items.length → Link X.K X.mg W u2 (G.up (u1 + i * u2)) (τ ++ it.tmp.map some) (ts ++ vs.map some) ex := fun {i} hi b F δ σ H τ1 ts1 e cls d hb h1 h2 h3 h4 =>
    n.link (u1 + i * u2 + b) F δ σ H (it.tmp.map some ++ τ1) (vs.map some ++ ts1) e cls d (by have := room hi; omega) h1 (by rw [← up_up]; simpa only [List.append_assoc] using h2) h3 h4
  refine ⟨fun i k σ' H' => k = it.items.length - i ∧ i ≤ it.items.length ∧ ∃ F' δ', δ'.length = σ'.length ∧ Good (G.up (u1 + i * u2)) F' (δ' ++ (τ ++ it.tmp.map some)) (σ' ++ (ts ++ vs.map some)) H' ∧ NoBor (δ' ++ τ) ∧ forRun mg m ex E (it.items.drop i) δ',
    ⟨it.items.length, by simp, Nat.zero_le _, F1, δ, n.l1, by rw [Nat.zero_mul]; simpa using g1, nb, by simpa using hrun⟩, ?_⟩
  rintro i k σ2 H2 ⟨rfl, hi, F2, δ2, l2, g2, nb2, r2⟩
  have g2' : Good (G.up (u1 + i * u2)) F2 (δ2 ++ τ ++ it.tmp.map some) (σ2 ++ ts ++ vs.map some) H2 := by simpa only [List.append_assoc] using g2
  have hA : (δ2 ++ τ).length = (σ2 ++ ts).length := by simp [l2, n.l2]
  obtain ⟨o1, o2⟩ := ok (u1 + i * u2) i F2 _ [] _ [] H2 hA rfl (by simpa using g2')
  cases hd : it.items[i]? with
  | none =>
    have hi2 : it.items.length ≤ i := List.getElem?_eq_none_iff.mp hd
    rw [List.drop_eq_nil_of_le hi2] at r2
    have le1 : u1 + i * u2 ≤ u1 + u3 := by
      have := Nat.mul_le_mul_right u2 hi
      omega
    exact .inl ⟨o1 hi2, eo.nx δ2 r2 _ σ2 F2 H2 le1 l2 nb2 (g2'.cut hlT)⟩
  | some d =>
    have hi2 : i < it.items.length := (List.getElem?_eq_some_iff.mp hd).1
    obtain ⟨go, yl⟩ := o2 d hd
    rw [drop_cons hd] at r2
    have end' : ∀ δ3, forRun mg m ex E (it.items.drop (i + 1)) δ3 → ∀ σ3 F3 H3, δ3.length = σ3.length → NoBor (δ3 ++ (τ ++ it.tmp.map some)) → Good (G.up (u1 + (i + 1) * u2)) F3 (δ3 ++ (τ ++ it.tmp.map some)) (σ3 ++ (ts ++ vs.map some)) H3 →
        ∃ k', k' < it.items.length - i ∧ (k' = it.items.length - (i + 1) ∧ i + 1 ≤ it.items.length ∧ ∃ F' δ', δ'.length = σ3.length ∧ Good (G.up (u1 + (i + 1) * u2)) F' (δ' ++ (τ ++ it.tmp.map some)) (σ3 ++ (ts ++ vs.map some)) H3 ∧ NoBor (δ' ++ τ) ∧ forRun mg m ex E (it.items.drop (i + 1)) δ') :=
      fun δ3 h3 σ3 F3 H3 l3 nb3 g3 => ⟨_, by omega, rfl, hi2, F3, δ3, l3, g3, nb_left (B := it.tmp.map some) (by simpa only [List.append_assoc] using nb3), h3⟩
    refine .inr ⟨go, fun σ' H' => ∃ F' δ', δ'.length = σ'.length ∧ Good (G.up (u1 + (i + 1) * u2)) F' (δ' ++ (τ ++ it.tmp.map some)) (σ' ++ (ts ++ vs.map some)) H' ∧ NoBor (δ' ++ τ) ∧ forRun mg m ex E (it.items.drop (i + 1)) δ',
      fun σ' H' h => ⟨_, by omega, rfl, hi2, h⟩, fun x H3 hy => ?_⟩
    obtain ⟨F3, g3⟩ := yl x H3 hy
    rw [List.append_nil, List.append_nil] at g3
    have rm := room hi2
    refine ⟨G.up (u1 + i * u2), F3, δ2, τ ++ it.tmp.map some, ts ++ vs.map some, .d d, _, n.k, l2, by simp [n.l2, hl], by simpa only [List.append_assoc] using g3, r2, fun δ3 h3 σ3 F4 H4 k1 k2 k3 k4 g4 => ?_⟩
    have l3 : δ3.length = σ3.length := by omega
    have nb3 : NoBor (δ3 ++ (τ ++ it.tmp.map some)) := nb_app (nb_mk (k4 (nb_left nb2)) (nb_right nb)) hT
    refine ⟨ex, G.up (u1 + i * u2), F4, δ3, τ ++ it.tmp.map some, ts ++ vs.map some, { nx := forRun mg m ex E (it.items.drop (i + 1)), ct := forRun mg m ex E (it.items.drop (i + 1)), bk := E.nx, rt := E.rt, ro := E.ro }, ⟨n.k, l3, by simp [n.l2, hl], by simpa using g4, lk hi2, n.ck.1, by have := n.ck.2; show G.n + (u1 + i * u2) + u2 ≤ G.lim; omega⟩, nb3, ⟨?_, ?_, ?_, fun r h ha b v F H hb g => eo.rt r h ha (u1 + i * u2 + b) v F H (by omega) (by rw [← up_up]; exact g), fun r δ h b v σ F H hb l g => eo.ro r δ h (u1 + i * u2 + b) v σ F H (by omega) l (by rw [up_up] at g; exact g)⟩, h3⟩
    · exact fun δ5 h5 b σ5 F5 H5 hb l5 nb5 g5 => ⟨F5, δ5, l5, by rw [up_up] at g5; exact g5.mono (by have := more i; omega), nb_left (B := it.tmp.map some) (by simpa only [List.append_assoc] using nb5), h5⟩
    · refine fun δ5 h5 b σ5 F5 H5 hb l5 nb5 g5 => eo.nx δ5 h5 (u1 + i * u2 + b) σ5 F5 H5 (by omega) l5 (nb_left (B := it.tmp.map some) (by simpa only [List.append_assoc] using nb5)) ?_
      exact Good.cut hlT (by rw [up_up] at g5; simpa only [List.append_assoc] using g5)
    · exact fun δ5 h5 b σ5 F5 H5 hb l5 nb5 g5 => ⟨F5, δ5, l5, by rw [up_up] at g5; exact g5.mono (by have := more i; omega), nb_left (B := it.tmp.map some) (by simpa only [List.append_assoc] using nb5), h5⟩
theorem ds_for {tg : Expr} {body : List Stmt} {mi : MI} (hp : PassesOwn (model X.prog X.w) X.A X.env X.xe) (hc : X.calm = true) (hi : DI X W tg e mi u1) (hg : DG X tg dom mg) (hb : DSs X W body m u2) (hu : u2 = 0 := by rfl)
    (hs : ∀ x, foldedSetIterable e X.env x = pure x := by intro _; rfl) : DS X W (.For tg e body [] pos) (mFor mi mg m) u1 := ⟨PS.imp (ps_for hp hc hi.pi hg.pg hb.pss hs) fun D σ H q => by
  obtain ⟨ex, G, F, δ, τ, ts, E, n, nb, eo, mm⟩ := q
  exact for_lift (u1 := u1) (u3 := 0) (S := _) n nb eo mm fun it h => ⟨by rw [hu, Nat.mul_zero]; exact Nat.le_refl _, h.1, h.2⟩⟩
theorem ds_forN (N : Nat) {tg : Expr} {body : List Stmt} {mi : MI} (hp : PassesOwn (model X.prog X.w) X.A X.env X.xe) (hc : X.calm = true) (hi : DI X W tg e mi u1) (hg : DG X tg dom mg) (hb : DSs X W body m u2)
    (hs : ∀ x, foldedSetIterable e X.env x = pure x := by intro _; rfl) : DS X W (.For tg e body [] pos) (mForN N mi mg m) (u1 + N * u2) := ⟨PS.imp (ps_for hp hc hi.pi hg.pg hb.pss hs) fun D σ H q => by
  obtain ⟨ex, G, F, δ, τ, ts, E, n, nb, eo, mm⟩ := q
  exact for_lift (u1 := u1) (u3 := N * u2) (S := _) n nb eo mm fun it h => ⟨Nat.mul_le_mul_right _ h.1, h.2.1, h.2.2⟩⟩
structure DTs (X : Cx) (W : WC) (ifs : List Expr) (m : MT) (u : Nat) : Prop where
  pts : PTs X ifs (liftT X.K X.mg W u m)
def mYes : MT := fun _ _ R => R true
theorem PTs.imp {X : Cx} {e : List Expr} {t t' : TT} (h : PTs X e t) (i : ∀ σ H Q, t' σ H Q → t σ H Q) : PTs X e t' := ⟨fun pins s σ H Q I q => h.run pins s σ H Q I (i _ _ _ q)⟩
theorem dts_nil : DTs X W [] mYes 0 := ⟨PTs.imp pts_nil fun σ H Q q => by
  obtain ⟨ex, G, F, δ, τ, ts, τ1, ts1, R, n, m, k⟩ := q
  exact k _ m F H (n.good.later 0)⟩
theorem dts_one (h : DT X W c mt u) : DTs X W [c] mt u := ⟨pts_one h.pt⟩
def wipeD (δ : Env) : List Nat → Env
  | [] => δ
  | v :: vs => (wipeD δ vs).set v none
theorem wipeD_len (δ : Env) : ∀ vs, (wipeD δ vs).length = δ.length
  | [] => rfl
  | v :: vs => by unfold wipeD; rw [List.length_set, wipeD_len δ vs]
theorem wipeD_some {δ : Env} {i : Nat} {x : DV} : ∀ {vs : List Nat}, (wipeD δ vs)[i]? = some (some x) → δ[i]? = some (some x) ∧ i ∉ vs
  | [], h => ⟨h, by simp⟩
  | v :: vs, h => by
    unfold wipeD at h
    rcases get_set h with ⟨_, q, _⟩ | ⟨h1, h2⟩
    · cases q
    · obtain ⟨h3, h4⟩ := wipeD_some h2
      exact ⟨h3, by simp only [List.mem_cons, not_or]; exact ⟨h1, h4⟩⟩
def seenD (δ : Env) : Env := δ.map (Option.map DV.seen)
theorem seenD_some {δ : Env} {i : Nat} {x : DV} (e : (seenD δ)[i]? = some (some x)) : ∃ y, δ[i]? = some (some y) ∧ x = y.seen := by
  unfold seenD at e
  rw [List.getElem?_map] at e
  cases q : δ[i]? with
  | none => rw [q] at e; cases e
  | some o =>
    rw [q] at e
    cases o with
    | none => simp at e
    | some y =>
      simp at e
      exact ⟨y, rfl, e.symm⟩
theorem Good.tail {G : Gm} {F H : Hp} {P A : Env} {P' A' : L2.St} (hl : P.length = P'.length) (g : Good G F (P ++ A) (P' ++ A') H) : Good G F A A' H := by
  have up : ∀ {α : Type} {P A : List α} {i : Nat}, (P ++ A)[P.length + i]? = A[i]? := fun {α P A i} => by
    rw [List.getElem?_append_right (Nat.le_add_right _ _), Nat.add_sub_cancel_left]
  refine ⟨g.g, by have := g.len; simp [hl] at this; exact this, g.f0, g.fh, g.fr, g.bh, g.cf, g.jh, fun i x e => ?_, fun i j x y l hx hy e1 e2 e3 e4 => ?_⟩
  · obtain ⟨v, h1, h2⟩ := g.sl (P.length + i) x (by rw [up]; exact e)
    rw [hl, up] at h1
    exact ⟨v, h1, h2⟩
  · have := g.di (P.length + i) (P.length + j) x y l hx hy (by rw [up]; exact e1) (by rw [up]; exact e2) (by rw [hl, up]; exact e3) (by rw [hl, up]; exact e4)
    omega
theorem Good.dup {G : Gm} {F H : Hp} {δ A : Env} {σ A' : L2.St} (hl : δ.length = σ.length) (vs : List Nat) (g : Good G F (δ ++ A) (σ ++ A') H) : Good G F (wipeD (seenD δ) vs ++ (δ ++ A)) (wipe σ vs ++ (σ ++ A')) H := by
  have lw : (wipeD (seenD δ) vs).length = δ.length := by rw [wipeD_len]; simp [seenD]
  have lw' : (wipe σ vs).length = δ.length := by rw [wipe_length, hl]
  have cut : ∀ {i : Nat} {x : DV}, (wipeD (seenD δ) vs ++ (δ ++ A))[i]? = some (some x) → (i < δ.length ∧ ∃ y, δ[i]? = some (some y) ∧ x = y.seen ∧ (wipe σ vs ++ (σ ++ A'))[i]? = σ[i]?) ∨ (δ.length ≤ i ∧ (δ ++ A)[i - δ.length]? = some (some x) ∧ (wipe σ vs ++ (σ ++ A'))[i]? = (σ ++ A')[i - δ.length]?) := fun {i x} e => by
    rcases Nat.lt_or_ge i δ.length with q | q
    · rw [List.getElem?_append_left (by omega)] at e
      obtain ⟨e1, e2⟩ := wipeD_some e
      obtain ⟨y, e3, e4⟩ := seenD_some e1
      refine .inl ⟨q, y, e3, e4, ?_⟩
      rw [List.getElem?_append_left (by omega)]
      exact wipe_out e2
    · rw [List.getElem?_append_right (by omega), lw] at e
      refine .inr ⟨q, e, ?_⟩
      rw [List.getElem?_append_right (by omega), lw']
  refine ⟨g.g, ?_, g.f0, g.fh, g.fr, g.bh, g.cf, g.jh, fun i x e => ?_, fun i j x y l hx hy e1 e2 e3 e4 => ?_⟩
  · have := g.len
    simp only [List.length_append] at this ⊢
    omega
  · rcases cut e with ⟨q, y, e1, rfl, e2⟩ | ⟨q, e1, e2⟩
    · obtain ⟨v, h1, h2⟩ := g.sl i y (by rw [List.getElem?_append_left q]; exact e1)
      rw [List.getElem?_append_left (by omega)] at h1
      exact ⟨v, by rw [e2]; exact h1, seen_ok h2⟩
    · obtain ⟨v, h1, h2⟩ := g.sl _ x e1
      exact ⟨v, by rw [e2]; exact h1, h2⟩
  · rcases cut e1 with ⟨q, z, _, rfl, _⟩ | ⟨q, f1, f2⟩
    · rw [seen_own] at hx; cases hx
    · rcases cut e2 with ⟨q', z, _, rfl, _⟩ | ⟨q', f3, f4⟩
      · rw [seen_own] at hy; cases hy
      · rw [f2] at e3
        rw [f4] at e4
        have := g.di _ _ x y l hx hy f1 f3 e3 e4
        omega
theorem wipe_get {σ : L2.St} {i : Nat} : ∀ {vs : List Nat}, i ∈ vs → i < σ.length → (wipe σ vs)[i]? = some none
  | v :: vs, h, hi => by
    unfold wipe
    by_cases q : v = i
    · subst q
      rw [List.getElem?_set_self (by rw [wipe_length]; exact hi)]
    · rw [List.getElem?_set_ne q]
      exact wipe_get ((List.mem_cons.mp h).resolve_left fun z => q z.symm) hi
theorem wipe_same {σ σ' : L2.St} {vs dom : List Nat} (hl : σ'.length = (wipe σ vs).length) (hd : ∀ j ∈ dom, j ∈ vs) (h : ∀ j, j ∉ dom → σ'[j]? = (wipe σ vs)[j]?) : wipe σ' vs = wipe σ vs := by
  apply List.ext_getElem?
  intro i
  rw [wipe_length] at hl
  by_cases hi : i ∈ vs
  · by_cases hb : i < σ.length
    · rw [wipe_get hi (by omega), wipe_get hi hb]
    · rw [List.getElem?_eq_none (by rw [wipe_length]; omega), List.getElem?_eq_none (by rw [wipe_length]; omega)]
  · rw [wipe_out hi]
    exact h i fun z => hi (hd i z)
abbrev ex0 : XD := fun _ _ => False
abbrev W0 (W : WC) : WC := ⟨fun _ _ _ _ => False, W.ck⟩
def lcRun (g : MG) (tt : MT) (te : ME) (δ : Env) (R : DV → Prop) : List PyData → List PyData → Prop
  | [], acc => R (.own acc)
  | d :: ds, acc => g (.d d) δ fun δ' => tt ex0 δ' fun c => (c = true → te ex0 δ' fun y => match y.val with
      | some z => acc.length < sizeLine ∧ lcRun g tt te δ R ds (acc ++ [z])
      | none => False) ∧ (c = false → lcRun g tt te δ R ds acc)
def mLc (mi : MI) (g : MG) (tt : MT) (te : ME) (vs : List Nat) : ME := fun ex δ R => mi ex δ fun it => lcRun g tt te (wipeD (seenD δ) vs) R it.items []
theorem Good.dropMid {G : Gm} {F H : Hp} {A B : Env} {A' B' : L2.St} {x : DV} {v : V} (hB : B.length = B'.length) (g : Good G F (A ++ B ++ [some x]) (A' ++ B' ++ [some v]) H) : Good G F (A ++ [some x]) (A' ++ [some v]) H := by
  have g1 := g.pop.cut hB
  have t := g.top
  have hl := g1.len
  refine g1.push t fun ho i y hy e q => ?_
  have hl2 : (A ++ B).length = (A' ++ B').length := by simp [hl, hB]
  have hi : i < A.length := (List.getElem?_eq_some_iff.mp e).1
  obtain ⟨l, hv⟩ : ∃ l, v = .ref l := by
    obtain ⟨l, _, h, _⟩ := own_at t ho
    exact ⟨l, h⟩
  subst hv
  have := g.di i (A ++ B).length y x l hy ho (by rw [List.append_assoc, List.getElem?_append_left hi]; exact e) (by simp) (by rw [List.append_assoc, List.getElem?_append_left (by omega)]; exact q) (by rw [hl2]; simp)
  simp at this
  omega
theorem pass_blk {X : Cx} {W : WC} {u : Nat} : ∀ {G : Gm} {τ : Env} {ts : L2.St}, Link X.K X.mg (W0 W) u G τ ts ex0 := fun b F δ σ H τ1 ts1 e cls d _ _ _ _ h => h
section
variable {elt tg iter : Expr} {ifs : List Expr} {scope : Scope} {own : List (Str × Nat)} {mi : MI} {tt : MT} {te : ME}
theorem lc_lift {g : MG} (hdom : ∀ j ∈ dom, j ∈ own.map (·.2)) {σ : L2.St} {H : Hp} {Q : VK} {ex : XD} {G : Gm} {F : Hp} {δ τ : Env} {ts : L2.St} {τ1 : Env} {ts1 : L2.St} {R : DV → Prop} {S : DIt → Prop} (n : Now X.K X.mg W (u1 + u3) ex G F δ σ τ ts τ1 ts1 H) (m : mi ex δ S)
    (k : ∀ r, R r → ∀ v F' H', Good (G.up (u1 + u3)) F' (δ ++ τ ++ τ1 ++ [some r]) (σ ++ ts ++ ts1 ++ [some v]) H' → Q v H') (hS : ∀ it, S it → it.items.length * (ut + ue) ≤ u3 ∧ lcRun g tt te (wipeD (seenD δ) (own.map (·.2))) R it.items []) :
    tLc (liftI X.K X.mg W u1 mi) (liftG X.K dom g) (liftT X.K X.mg (W0 W) ut tt) (liftE X.K X.mg (W0 W) ue te) (own.map (·.2)) σ H Q := by
  refine ⟨ex, G, F, δ, τ, ts, τ1, ts1, _, n.fst, m, fun it hit0 ws F1 H1 J hl g1 ok D hD => ?_⟩
  obtain ⟨hlen, hit⟩ := hS it hit0
  have more : ∀ (i : Nat), (i + 1) * (ut + ue) = i * (ut + ue) + (ut + ue) := fun i => Nat.succ_mul i _
  have roomI : ∀ {i : Nat}, i < it.items.length → u1 + i * (ut + ue) + (ut + ue) ≤ u1 + u3 := fun {i} h => by
    have h1 : (i + 1) * (ut + ue) ≤ it.items.length * (ut + ue) := Nat.mul_le_mul_right _ h
    rw [Nat.succ_mul] at h1
    omega
  have gD := g1.newO (p := D) (vs := []) (ds := []) hD .nil
  have hlT : (it.tmp.map some).length = (ws.map some).length := by simpa using hl
  have hB : ∀ (j : Nat) (x : DV), (δ ++ τ ++ τ1 ++ it.tmp.map some)[j]? = some (some x) → x.isBor = true → (σ ++ ts ++ ts1 ++ ws.map some)[j]? ≠ some (some (V.ref D)) := fun j x e b q => by
    obtain ⟨v, h1, h2⟩ := g1.sl j x e
    rw [q] at h1
    cases h1
    obtain ⟨l, o, r1, r2, _⟩ := bor_at h2 (by rw [b, Bool.or_true])
    cases r1
    rw [hD] at r2
    cases r2
  obtain ⟨A, hA⟩ : ∃ A, A = δ ++ τ ++ τ1 ++ it.tmp.map some := ⟨_, rfl⟩
  obtain ⟨A', hA'⟩ : ∃ A', A' = σ ++ ts ++ ts1 ++ ws.map some := ⟨_, rfl⟩
  have lA : A.length = A'.length := by rw [hA, hA']; exact g1.len
  refine ⟨fun i j H' => j = it.items.length - i ∧ i ≤ it.items.length ∧ ∃ F' acc, Good (G.up (u1 + i * (ut + ue))) F' (A ++ [some (.own acc)]) (A' ++ [some (.ref D)]) H' ∧ lcRun g tt te (wipeD (seenD δ) (own.map (·.2))) R (it.items.drop i) acc,
    ⟨it.items.length, by simp, Nat.zero_le _, F1, [], by rw [hA, hA', Nat.zero_mul]; exact gD, by simpa using hit⟩, ?_⟩
  rintro i j H2 ⟨rfl, hi, F2, acc, g2, r2⟩
  have g2' : Good (G.up (u1 + i * (ut + ue))) F2 (δ ++ τ ++ τ1 ++ it.tmp.map some ++ [some (.own acc)]) (σ ++ ts ++ ts1 ++ ws.map some ++ [some (.ref D)]) H2 := by rw [← hA, ← hA']; exact g2
  obtain ⟨o1, o2⟩ := ok (u1 + i * (ut + ue)) i F2 _ _ _ _ H2 n.good.len rfl g2'
  cases hd : it.items[i]? with
  | none =>
    have hi2 : it.items.length ≤ i := List.getElem?_eq_none_iff.mp hd
    rw [List.drop_eq_nil_of_le hi2] at r2
    have le1 : u1 + i * (ut + ue) ≤ u1 + u3 := by
      have := Nat.mul_le_mul_right (ut + ue) hi
      omega
    exact .inl ⟨o1 hi2, k _ r2 _ F2 H2 ((g2'.dropMid hlT).mono le1)⟩
  | some d =>
    have hi2 : i < it.items.length := (List.getElem?_eq_some_iff.mp hd).1
    obtain ⟨go, yl⟩ := o2 d hd
    rw [drop_cons hd] at r2
    refine .inr ⟨go, fun H' => ∃ F' acc, Good (G.up (u1 + (i + 1) * (ut + ue))) F' (A ++ [some (.own acc)]) (A' ++ [some (.ref D)]) H' ∧ lcRun g tt te (wipeD (seenD δ) (own.map (·.2))) R (it.items.drop (i + 1)) acc,
      fun H' h => ⟨_, by omega, rfl, hi2, h⟩, fun x H3 hy => ?_⟩
    obtain ⟨F3, g3⟩ := yl x H3 hy
    obtain ⟨B, hBe⟩ : ∃ B, B = A ++ [some (DV.own acc)] := ⟨_, rfl⟩
    obtain ⟨B', hBe'⟩ : ∃ B', B' = A' ++ [some (V.ref D)] := ⟨_, rfl⟩
    have lB : B.length = B'.length := by rw [hBe, hBe']; simp [lA]
    have g4 : Good (G.up (u1 + i * (ut + ue))) F3 (wipeD (seenD δ) (own.map (·.2)) ++ B ++ [some (.d d)]) (wipe σ (own.map (·.2)) ++ B' ++ [some x]) H3 := by
      have := Good.dup (A := τ ++ τ1 ++ it.tmp.map some ++ [some (.own acc)] ++ [some (.d d)]) (A' := ts ++ ts1 ++ ws.map some ++ [some (.ref D)] ++ [some x]) n.l1 (own.map (·.2)) (by simpa only [List.append_assoc] using g3)
      rw [hBe, hBe', hA, hA']
      simpa only [List.append_assoc] using this
    have lw : (wipeD (seenD δ) (own.map (·.2))).length = (wipe σ (own.map (·.2))).length := by rw [wipeD_len, wipe_length, ← n.l1]; simp [seenD]
    refine ⟨G.up (u1 + i * (ut + ue)), F3, _, B, B', .d d, _, n.k, lw, lB, g4, r2, fun δ' hr σ' F4 H4 k1 k2 k3 k4 g5 => ⟨wipe_same k2 hdom k3, ?_⟩⟩
    have l5 : δ'.length = σ'.length := by omega
    refine ⟨ex0, G.up (u1 + i * (ut + ue)), F4, δ', B, B', [], [], _, ⟨n.k, l5, lB, by simpa using g5, pass_blk, n.ck.1, by have := n.ck.2; have := roomI hi2; show G.n + (u1 + i * (ut + ue)) + ut ≤ G.lim; omega⟩, hr, fun bb hb F5 H5 g6 => ?_⟩
    have g6' : Good (G.up (u1 + i * (ut + ue) + ut)) F5 (δ' ++ B) (σ' ++ B') H5 := by rw [up_up] at g6; simpa using g6
    cases bb with
    | false =>
      show if false = true then _ else _
      rw [if_neg Bool.false_ne_true]
      refine ⟨F5, acc, ?_, hb.2 rfl⟩
      rw [← hBe, ← hBe']
      exact (g6'.tail l5).mono (by have := more i; omega)
    | true =>
      show if true = true then _ else _
      rw [if_pos rfl]
      refine ⟨ex0, G.up (u1 + i * (ut + ue) + ut), F5, δ', B, B', [], [], _, ⟨n.k, l5, lB, by simpa using g6', pass_blk, n.ck.1, by have := n.ck.2; have := roomI hi2; show G.n + (u1 + i * (ut + ue) + ut) + ue ≤ G.lim; omega⟩, hb.1 rfl, fun y hy v F6 H6 g7 => ?_⟩
      split at hy
      · rename_i z ez
        obtain ⟨hz, hrun⟩ := hy
        have e7 : u1 + i * (ut + ue) + ut + ue = u1 + (i + 1) * (ut + ue) := by have := more i; omega
        rw [up_up, e7] at g7
        have g7' : Good (G.up (u1 + (i + 1) * (ut + ue))) F6 (δ' ++ B ++ some y :: []) (σ' ++ B' ++ [some v]) H6 := by simpa using g7
        obtain ⟨F7, s7, g8⟩ := fix_one g7' ez
        have g8' : Good (G.up (u1 + (i + 1) * (ut + ue))) F7 (δ' ++ B ++ [some (.d z)]) (σ' ++ B' ++ [some v]) H6 := g8
        have at7 : At G.K F7 v z := g8'.top
        have g9 := g8'.pop.tail l5
        rw [hBe, hBe'] at g9
        obtain ⟨l, ws2, e1, e2, e3, _⟩ := g9.top
        cases e1
        refine ⟨ws2, e2, Nat.lt_of_le_of_lt (Nat.le_of_eq (AtL.length e3)) hz, F7, acc ++ [z], ?_, hrun⟩
        have g10 := g9.write' (n := A.length) (xs := acc) (l := D) (ws := ws2 ++ [v]) (ys := acc ++ [z]) (fun j x e b q => ?_) (by simp) (by rw [lA]; simp) (e3.append (.cons at7 .nil))
        · have e : (A ++ [some (DV.own acc)]).set A.length (some (DV.own (acc ++ [z]))) = A ++ [some (DV.own (acc ++ [z]))] := by
            rw [List.set_append_right _ _ (Nat.le_refl _), Nat.sub_self]
            rfl
          rw [e] at g10
          exact g10
        · rcases Nat.lt_or_ge j A.length with hj | hj
          · rw [List.getElem?_append_left hj] at e
            rw [List.getElem?_append_left (by omega)] at q
            rw [hA] at e
            rw [hA'] at q
            exact hB j x e b q
          · rw [List.getElem?_append_right hj] at e
            have : j - A.length = 0 := by
              have := (List.getElem?_eq_some_iff.mp e).1
              simp at this
              omega
            rw [this] at e
            cases e
            cases b
      · exact hy.elim
theorem de_lc {g : MG} (hc : X.calm = true) (hN : X.N.Nodup) (hi : DI X W tg iter mi u1) (ok : BlkOk X.N X.env.scope scope own) (hdom : ∀ j ∈ dom, j ∈ own.map (·.2))
    (hg : ∀ (s : Shared) (H : Hp) (C : Addr) (cl : List (Str × Addr)) (fp : List Addr), DG (X.blk s H scope (compEnvC scope cl C X.env) fp) tg dom g)
    (ht : ∀ (s : Shared) (H : Hp) (C : Addr) (cl : List (Str × Addr)) (fp : List Addr), DTs (X.blk s H scope (compEnvC scope cl C X.env) fp) (W0 W) ifs tt ut)
    (he : ∀ (s : Shared) (H : Hp) (C : Addr) (cl : List (Str × Addr)) (fp : List Addr), DE (X.blk s H scope (compEnvC scope cl C X.env) fp) (W0 W) elt te ue) (hut : ut = 0 := by rfl) (hue : ue = 0 := by rfl) (hs : ∀ x, foldedSetIterable iter X.env x = pure x := by intro _; rfl) :
    DE X W (.ListComp elt [⟨tg, iter, ifs, 0⟩] scope pos) (mLc mi g tt te (own.map (·.2))) u1 :=
  ⟨PE.imp (pe_lc hc hN hi.pi ok (fun s H C cl fp => (hg s H C cl fp).pg) (fun s H C cl fp => (ht s H C cl fp).pts) (fun s H C cl fp => (he s H C cl fp).pe) hs) fun σ H Q q => by
    obtain ⟨ex, G, F, δ, τ, ts, τ1, ts1, R, n, m, k⟩ := q
    exact lc_lift (u1 := u1) (u3 := 0) (ut := ut) (ue := ue) hdom n m k fun it h => ⟨by rw [hut, hue, Nat.mul_zero]; exact Nat.le_refl _, h⟩⟩
theorem ds_setLc {i : Nat} {y : Str} {py spos : Pos} {g : MG} (hc : X.calm = true) (hN : X.N.Nodup) (hy : X.N[i]? = some y) (hyl : X.env.scope.names.lookup y = some .local)
    (hsw : swapsWith (.ListComp elt [⟨tg, iter, ifs, 0⟩] scope pos) (some (.Name y py)) spos.line X.env = pure true) (hi : DI X W tg iter mi u1) (ok : BlkOk X.N X.env.scope scope own) (hdom : ∀ j ∈ dom, j ∈ own.map (·.2))
    (hg : ∀ (s : Shared) (H : Hp) (C : Addr) (cl : List (Str × Addr)) (fp : List Addr), DG (X.blk s H scope (compEnvC scope cl C X.env) fp) tg dom g)
    (ht : ∀ (s : Shared) (H : Hp) (C : Addr) (cl : List (Str × Addr)) (fp : List Addr), DTs (X.blk s H scope (compEnvC scope cl C X.env) fp) (W0 W) ifs tt ut)
    (he : ∀ (s : Shared) (H : Hp) (C : Addr) (cl : List (Str × Addr)) (fp : List Addr), DE (X.blk s H scope (compEnvC scope cl C X.env) fp) (W0 W) elt te ue) (hut : ut = 0 := by rfl) (hue : ue = 0 := by rfl) (hs : ∀ x, foldedSetIterable iter X.env x = pure x := by intro _; rfl) :
    DS X W (.Assign [.Name y py] (.ListComp elt [⟨tg, iter, ifs, 0⟩] scope pos) spos) (mAsg (mLc mi g tt te (own.map (·.2))) (gN i)) u1 :=
  ⟨PS.imp (ps_setLc hc hN hy hyl hsw hi.pi ok (fun s H C cl fp => (hg s H C cl fp).pg) (fun s H C cl fp => (ht s H C cl fp).pts) (fun s H C cl fp => (he s H C cl fp).pe) hs) fun D σ H q => by
    have h := set_lift D σ H q
    obtain ⟨ex, G, F, δ, τ, ts, τ1, ts1, R, n, m, k⟩ := h
    exact lc_lift (X := X) (own := own) (u1 := u1) (u3 := 0) (ut := ut) (ue := ue) hdom n m k fun it h => ⟨by rw [hut, hue, Nat.mul_zero]; exact Nat.le_refl _, h⟩⟩
end
end
end DL
namespace DL
open PySem PySem.Spec L2
structure FnG (P : Program) (w : World) (K : PySem.W.Frag) (mg : Str → Option Value) (base : Heap) (k : Nat) (f : Addr) (fd : FuncData) (ps : List Str) (sp : Sp) : Prop where
  len : ∀ vs H Q E, sp vs H Q E → vs.length = ps.length
  run : ∀ (A : Around) (outer : List PySem.Env) (s : Shared) (H : Hp) (args : Args) (us : List Value) (vs : List V) (Q : VK) (E : XK), A.guards = some [] → Room k A → Env0 P w K mg base A outer s H → BindsTo s fd args (ps.zip us) → Vals vs us → sp vs H Q E →
    codeAny (model P w) A (.call (.ref f) args) (CR (L2.CX P w) outer P w H s Q E) s
section
variable {P : Program} {w : World} {K : PySem.W.Frag} {mg : Str → Option Value} {base : Heap}
theorem FnG.mono {j k : Nat} {f : Addr} {fd : FuncData} {ps : List Str} {sp : Sp} (h : FnG P w K mg base j f fd ps sp) (q : j ≤ k) : FnG P w K mg base k f fd ps sp :=
  ⟨h.len, fun A outer s H args us vs Q E hg hr => h.run A outer s H args us vs Q E hg (hr.mono q)⟩
theorem FnG.imp {k : Nat} {f : Addr} {fd : FuncData} {ps : List Str} {sp sp' : Sp} (h : FnG P w K mg base k f fd ps sp) (i : ∀ vs H Q E, sp' vs H Q E → sp vs H Q E) : FnG P w K mg base k f fd ps sp' :=
  ⟨fun vs H Q E q => h.len vs H Q E (i _ _ _ _ q), fun A outer s H args us vs Q E hg hr he hb hv q => h.run A outer s H args us vs Q E hg hr he hb hv (i _ _ _ _ q)⟩
theorem fnG_of {x qual : Str} {st : Stmt} {f : Addr} {fd : FuncData} {N ps : List Str} {k : Nat} {sp : Sp} (T : L2.Fun K x qual st f fd) (S : FnScope N ps (L2.defScope st)) (len : ∀ vs H Q E, sp vs H Q E → vs.length = ps.length)
    (body : ∀ (cdv : Value) (A : Around) (outer : List PySem.Env) (s : Shared) (H : Hp) (vs : List V) (Q : VK) (E : XK), A.guards = some [] → Room k (A.deeper (PyProof.Rows.envOfC qual (L2.defScope st) s.heap.objs.size f cdv)) → sp vs H Q E →
      ∃ t, PSs (cxOf (L2.CX P w) P w K mg base N qual (L2.defScope st) f cdv A outer s H E) (L2.defBody st) t ∧ t { nx := fun _ H' => Q .non H', rt := Q } (start N vs) H) : FnG P w K mg base (k + 1) f fd ps sp := by
  obtain ⟨oc, od, kV, doc, pm, an, cdv, ct, osl, rfl, lk, hcd⟩ := T.ex
  refine ⟨len, fun A outer s H args us vs Q E hg hr e0 hb r hsp => ?_⟩
  have hlen := len _ _ _ _ hsp
  have kin : K.In s.heap := e0.mod.kin.keeps fun b o e => (e0.bs b o e).1
  have nol : s.heap.NoLimit := e0.mod.nolimit.keeps fun b o e => (e0.bs b o e).1
  have kinds : ∀ y ∈ ps.zip us, (L2.defScope st).names.lookup y.1 = some .local ∨ ((L2.defScope st).names.lookup y.1 = some .cell ∧ ((cellsFrom (s.heap.objs.size + 1) (L2.defScope st).names []).lookup y.1).isSome = true) := by
    rintro ⟨n, v⟩ hy
    rcases S.par n (List.of_mem_zip hy).1 with q | q
    · exact .inl q
    · exact .inr ⟨q, PySem.W.cellsFrom_some _ _ _ (.inl q)⟩
  refine codeAny_call_function hr.depth (kin _ _ lk) rfl S.co S.gen rfl (PySem.W.codeRec_of kin hcd) (hb _ _ _ _ ?_)
  refine wpAny_newFunctionEnv_cells S.kind kinds fun env he s1 x => ?_
  subst he
  refine ⟨nol.keeps x.toInCall.keep, codeAny_func ?_⟩
  obtain ⟨t, ht, hq⟩ := body cdv A outer s H vs Q E hg (hr.deeper _) hsp
  have I := inv_start (CX := L2.CX P w) (E := E) (cd := cdv) S hr.hd e0 hlen r x
  refine wpAny_mono (ht.run [] s1 (start N vs) H _ I hq) (fun fl s' hs => ?_) fun e s' hs => hs
  cases fl with
  | ret u =>
    obtain ⟨v, σ', H', J, rv, q⟩ := hs
    exact ⟨v, H', J.os, J.bare, J.base, J.hok, rv, q⟩
  | next =>
    obtain ⟨σ', H', J, q⟩ := hs
    exact ⟨V.non, H', J.os, J.bare, J.base, J.hok, rfl, q⟩
  | brk =>
    obtain ⟨_, _, _, q⟩ := hs
    exact False.elim q
  | cont =>
    obtain ⟨_, _, _, q⟩ := hs
    exact False.elim q
end
abbrev CKT := (Addr → Prop) → V → (Nat → Hp → Prop) → Nat → Prop
def spD (K : PySem.W.Frag) (mg : Str → Option Value) (CK : CKT) (u n : Nat) (mf : MF) : Sp := fun vs H Q E => vs.length = n ∧ ∃ (G : Gm) (F : Hp) (as : List DV) (R : DV → Prop) (ex : DExc → Prop), G.K = K ∧ (CK G.C G.cv G.J G.lim ∧ G.n + u ≤ G.lim) ∧ as.length = vs.length ∧ (∀ x ∈ as, x.arg = true) ∧ Good G F (as.map some) (vs.map some) H ∧ mf as R ex ∧
  (∀ r, R r → r.arg = true → ∀ v F' H', Good (G.up u) F' [some r] [some v] H' → Q v H') ∧
  (∀ e, ex e → ∀ b cls d F' H', b ≤ u → Good (G.up b) F' [] [] H' → ExcAt K mg F' H' e cls d → E cls d H')
structure DFn (P : Program) (w : World) (K : PySem.W.Frag) (mg : Str → Option Value) (base : Heap) (CK : CKT) (x : Str) (k u n : Nat) (mf : MF) : Prop where
  ex : ∃ f fd ps, mg x = some (.ref f) ∧ PySem.W.keepIn K (.ref f) = true ∧ Binds K fd ps [] ∧ ps.length = n ∧ FnG P w K mg base k f fd ps (spD K mg CK u n mf)
def startD (n : Nat) (as : List DV) : Env := as.map some ++ List.replicate (n - as.length) none
def bodyD (n : Nat) (m : MS) : MF := fun as R ex => m (fun e _ => ex e) { nx := fun _ => R (.d .none), rt := R, bk := fun _ => False, ct := fun _ => False } (startD n as)
section
variable {P : Program} {w : World} {K : PySem.W.Frag} {mg : Str → Option Value} {base : Heap}
theorem Good.more {G : Gm} {F H : Hp} {δ : Env} {σ : L2.St} (g : Good G F δ σ H) : ∀ k, Good G F (δ ++ List.replicate k none) (σ ++ List.replicate k none) H := fun k => by
  have hl := g.len
  have low : ∀ {α : Type} {l : List (Option α)} {i : Nat} {z : α}, (l ++ List.replicate k none)[i]? = some (some z) → l[i]? = some (some z) := fun {α l i z} e => by
    rcases Nat.lt_or_ge i l.length with q | q
    · rw [List.getElem?_append_left q] at e; exact e
    · rw [List.getElem?_append_right q, List.getElem?_replicate] at e
      split at e <;> cases e
  refine ⟨g.g, by simp [hl], g.f0, g.fh, g.fr, g.bh, g.cf, g.jh, fun i x e => ?_, fun i j x y l hx hy e1 e2 e3 e4 => g.di i j x y l hx hy (low e1) (low e2) (low e3) (low e4)⟩
  obtain ⟨v, h1, h2⟩ := g.sl i x (low e)
  refine ⟨v, ?_, h2⟩
  rw [List.getElem?_append_left (List.getElem?_eq_some_iff.mp h1).1]
  exact h1
structure Ctx (X : Cx) (W : WC) (k : Nat) : Prop where
  gd : X.A.guards = some []
  hr : Room k X.A
  tk : Takes X W.w
structure CtxU (X : Cx) : Prop where
  gd : X.A.guards = some []
  un : X.A.units + 200 < cLine
theorem Ctx.u {X : Cx} {W : WC} {k : Nat} (c : Ctx X W k) : CtxU X := ⟨c.gd, by have := c.hr.un; omega⟩
theorem CtxU.u64 {X : Cx} (c : CtxU X) : X.A.units + 64 < cLine := by have := c.un; omega
theorem CtxU.u65 {X : Cx} (c : CtxU X) : X.A.units + 65 < cLine := by have := c.un; omega
theorem fnD_of {u : Nat} {x qual : Str} {st : Stmt} {f : Addr} {fd : FuncData} {N ps : List Str} {k : Nat} {m : MS} {mf : MF} {CK : CKT} (T : L2.Fun K x qual st f fd) (S : FnScope N ps (L2.defScope st))
    (body : ∀ (cdv : Value) (A : Around) (outer : List PySem.Env) (s : Shared) (H : Hp) (E : XK), Ctx (cxOf (L2.CX P w) P w K mg base N qual (L2.defScope st) f cdv A outer s H E) ⟨fun cls d _ H => E cls d H, CK⟩ k →
      DSs (cxOf (L2.CX P w) P w K mg base N qual (L2.defScope st) f cdv A outer s H E) ⟨fun cls d _ H => E cls d H, CK⟩ (L2.defBody st) m u)
    (post : ∀ as R ex, as.length = ps.length → mf as R ex → bodyD N.length m as R ex) : FnG P w K mg base (k + 1) f fd ps (spD K mg CK u ps.length mf) := by
  refine fnG_of T S (fun vs H Q E q => q.1) fun cdv A outer s H vs Q E hg hr q => ?_
  obtain ⟨hn, G, F, as, R, ex, hK, hck, hl, harg, g, h, hR, hE⟩ := q
  refine ⟨_, (body cdv A outer s H E ⟨hg, hr, takes_of rfl rfl rfl rfl⟩).pss, ?_⟩
  have hp := post as R ex (hl.trans hn) h
  have hlN : ps.length ≤ N.length := by
    have h1 := S.pre
    have h2 := congrArg List.length h1
    simp at h2
    omega
  refine ⟨fun e _ => ex e, G, F, startD N.length as, [], [], { nx := fun _ => R (.d .none), rt := R, bk := fun _ => False, ct := fun _ => False }, ⟨hK, ?_, rfl, ?_, fun b F' δ' σ' H' τ1 ts1 e cls d hb h1 h2 h3 h4 => ?_, hck⟩, ?_, ⟨fun δ' h' b σ' F' H' hb l' nb' g' => ?_, fun _ z => z.elim, fun _ z => z.elim, fun r hr ha b v F' H' hb g' => hR r hr ha v F' H' (g'.mono hb), fun _ _ z => z.elim⟩, hp⟩
  · unfold startD L2.start
    simp [hl]
  · unfold startD L2.start
    have := g.more (N.length - as.length)
    rw [hl] at this ⊢
    simpa using this
  · refine hE e h4 b cls d F' H' hb (Good.cut (A := []) (A' := []) (B := δ' ++ [] ++ τ1) (B' := σ' ++ [] ++ ts1) h2.len h2) h3
  · intro i x e
    unfold startD at e
    simp only [List.append_nil] at e
    rcases Nat.lt_or_ge i (as.map some).length with q | q
    · rw [List.getElem?_append_left q, List.getElem?_map] at e
      cases q2 : as[i]? with
      | none => rw [q2] at e; cases e
      | some y =>
        rw [q2] at e
        cases e
        have := harg x (List.mem_of_getElem? q2)
        cases x with
        | bor _ => cases this
        | bdk _ => cases this
        | blk _ _ => cases this
        | bdt _ _ => cases this
        | _ => rfl
    · rw [List.getElem?_append_right q, List.getElem?_replicate] at e
      split at e <;> cases e
  · refine hR _ h' rfl .non F' H' ?_
    have g0 : Good (G.up b) F' ([] : Env) ([] : L2.St) H' := Good.cut (A := []) (A' := []) (B := δ' ++ []) (B' := σ' ++ []) g'.len g'
    exact (Good.pushD g0 .non).mono hb
end
def argsD : List DV → Option (List DV)
  | [] => some []
  | x :: xs => match (match x with
      | .own ys => some (.d (.list ys))
      | .odk ys => some (.d (.dict ys))
      | .ldk _ ys => some (.d (.dict ys))
      | .olk _ _ => none
      | .blk _ _ => none
      | .bor _ => none
      | .bdk _ => none
      | .exc _ _ _ _ => none
      | .odt _ _ => none
      | .bdt _ _ => none
      | .ldt _ _ => none
      | .ins _ _ _ => none
      | y => some y : Option DV), argsD xs with
    | some a, some as => some (a :: as)
    | _, _ => none
theorem dfn_of {u : Nat} {x qual : Str} {st : Stmt} {f : Addr} {fd : FuncData} {N ps : List Str} {k : Nat} {m : MS} {mf : MF} {CK : CKT} (hm : mg x = some (.ref f)) (T : L2.Fun K x qual st f fd) (hb : Binds K fd ps []) (S : FnScope N ps (L2.defScope st))
    (body : ∀ (cdv : Value) (A : Around) (outer : List PySem.Env) (s : Shared) (H : Hp) (E : XK), Ctx (cxOf (L2.CX P w) P w K mg base N qual (L2.defScope st) f cdv A outer s H E) ⟨fun cls d _ H => E cls d H, CK⟩ k →
      DSs (cxOf (L2.CX P w) P w K mg base N qual (L2.defScope st) f cdv A outer s H E) ⟨fun cls d _ H => E cls d H, CK⟩ (L2.defBody st) m u)
    (post : ∀ as R ex, as.length = ps.length → mf as R ex → bodyD N.length m as R ex) : DFn P w K mg base CK x (k + 1) u ps.length mf :=
  ⟨f, fd, ps, hm, T.kp, hb, rfl, fnD_of T S body post⟩
theorem argsD_arg : ∀ {xs as : List DV}, argsD xs = some as → as.length = xs.length ∧ ∀ a ∈ as, a.arg = true
  | [], as, e => by cases e; exact ⟨rfl, by simp⟩
  | x :: xs, as, e => by
    unfold argsD at e
    split at e
    · rename_i a as' e1 e2
      cases e
      obtain ⟨h1, h2⟩ := argsD_arg e2
      refine ⟨by simp [h1], fun b hb => ?_⟩
      rcases List.mem_cons.mp hb with rfl | hb
      · cases x with
        | own _ => cases e1; rfl
        | d _ => cases e1; rfl
        | cask => cases e1; rfl
        | raw _ => cases e1; rfl
        | scr _ => cases e1; rfl
        | fvs _ _ => cases e1; rfl
        | odk _ => cases e1; rfl
        | ldk _ _ => cases e1; rfl
        | _ => cases e1
      · exact h2 b hb
    · cases e
theorem unlk {G : Gm} {F H : Hp} {A A2 : Env} {ρ : L2.St} {p : Unit → LkP} {ys : List (PyData × PyData)} (g : Good G F (A ++ some (.ldk p ys) :: A2) ρ H) : Good G F (A ++ some (.d (.dict ys)) :: A2) ρ H := by
  have back : ∀ {i : Nat} {z : DV}, (A ++ some (.d (.dict ys)) :: A2)[i]? = some (some z) → (i = A.length ∧ z = .d (.dict ys)) ∨ (A ++ some (.ldk p ys) :: A2)[i]? = some (some z) := fun {i z} e => by
    rcases Nat.lt_trichotomy i A.length with q | q | q
    · rw [List.getElem?_append_left q] at e ⊢; exact .inr e
    · subst q; simp at e; exact .inl ⟨rfl, e.symm⟩
    · rw [List.getElem?_append_right (by omega)] at e ⊢
      obtain ⟨k, hk⟩ : ∃ k, i - A.length = k + 1 := ⟨i - A.length - 1, by omega⟩
      rw [hk] at e ⊢
      exact .inr e
  refine ⟨g.g, by have := g.len; simpa using this, g.f0, g.fh, g.fr, g.bh, g.cf, g.jh, fun i z e => ?_, fun i j a b l ha hb e1 e2 e3 e4 => ?_⟩
  · rcases back e with ⟨rfl, rfl⟩ | e
    · obtain ⟨v, e1, h⟩ := g.sl A.length (.ldk p ys) (by simp)
      obtain ⟨_, _, rfl, h1, h2⟩ := h
      exact ⟨_, e1, .dct (.inr ⟨_, h1⟩) h2⟩
    · exact g.sl i z e
  · rcases back e1 with ⟨_, rfl⟩ | e1
    · cases ha
    rcases back e2 with ⟨_, rfl⟩ | e2
    · cases hb
    exact g.di i j a b l ha hb e1 e2 e3 e4
theorem fix_args {G : Gm} {H : Hp} {ρ : L2.St} : ∀ (xs : List DV) {F : Hp} {A : Env} {as : List DV}, Good G F (A ++ xs.map some) ρ H → argsD xs = some as → ∃ F', Same F F' ∧ Good G F' (A ++ as.map some) ρ H
  | [], F, A, as, g, e => by
    cases e
    exact ⟨F, Same.refl F, by simpa using g⟩
  | x :: xs, F, A, as, g, e => by
    unfold argsD at e
    split at e
    · rename_i a as' e1 e2
      cases e
      have one : ∃ F1, Same F F1 ∧ Good G F1 (A ++ some a :: xs.map some) ρ H := by
        cases x with
        | own ys =>
          cases e1
          exact fix_one (A := A) (A2 := xs.map some) (x := .own ys) (by simpa using g) rfl
        | d _ => cases e1; exact ⟨F, Same.refl F, by simpa using g⟩
        | cask => cases e1; exact ⟨F, Same.refl F, by simpa using g⟩
        | raw _ => cases e1; exact ⟨F, Same.refl F, by simpa using g⟩
        | scr _ => cases e1; exact ⟨F, Same.refl F, by simpa using g⟩
        | fvs _ _ => cases e1; exact ⟨F, Same.refl F, by simpa using g⟩
        | odk ys =>
          cases e1
          exact fix_one (A := A) (A2 := xs.map some) (x := .odk ys) (by simpa using g) rfl
        | ldk p ys =>
          cases e1
          exact ⟨F, Same.refl F, unlk (A := A) (A2 := xs.map some) (by simpa using g)⟩
        | _ => cases e1
      obtain ⟨F1, s1, g1⟩ := one
      obtain ⟨F2, s2, g2⟩ := fix_args xs (F := F1) (A := A ++ [some a]) (by simpa using g1) e2
      exact ⟨F2, s1.trans s2, by simpa using g2⟩
    · cases e
section
variable {X : Cx} {W : WC} {e : Expr} {es : List Expr} {pos p : Pos} {mas : MA} {x : Str} {k j n u1 u2 : Nat} {mf : MF}
def mCall (n : Nat) (mf : MF) (t : MA) : ME := fun ex δ R => t ex δ fun xs => match argsD xs with
  | some as => as.length = n ∧ mf as R (fun e => ex e δ)
  | none => False
theorem call_run {f : Addr} {fd : FuncData} {ps : List Str} {sp : Sp} {pins : List (Addr × Obj)} {σ : L2.St} {H : Hp} {s : Shared} {Q : VK} {us : List Value} {vs : List V} (F : FnG X.prog X.w X.K X.mg X.base k f fd ps sp) (hg : X.A.guards = some []) (hr : Room k X.A) (hb : Binds X.K fd ps []) (tk : Takes X W.w)
    (I : Inv X pins σ H s) (r : Vals vs us) (h : sp vs H Q (WE W.w σ)) : wpAny (model X.prog X.w) X.A (call (.ref f) us) (EP X pins σ Q) X.xe s := by
  have hl : us.length = ps.length := by rw [← r.length]; exact F.len _ _ _ _ h
  have hb' := hb s us I.kIn (by simpa using hl)
  rw [List.append_nil] at hb'
  refine wpAny_call (codeAny_mono (F.run X.A X.stack s H ⟨us, []⟩ us vs Q (WE W.w σ) hg hr I.env0 hb' r h) fun res s' hq => ?_)
  match res, hq with
  | .error e, hq => exact passAt tk σ pins H s e s' I hq
  | .ok (.ret u), hq => exact I.after hq
theorem spD_lift (σ : L2.St) (H : Hp) (Q : VK) (q : liftE X.K X.mg W (u1 + u2) (mCall n mf mas) σ H Q) :
    liftA X.K X.mg W u1 mas σ H fun vs H1 => spD X.K X.mg W.ck u2 n mf vs H1 Q (WE W.w σ) := by
  obtain ⟨ex, G, F, δ, τ, ts, τ1, ts1, R, nw, m, kk⟩ := q
  refine ⟨ex, G, F, δ, τ, ts, τ1, ts1, _, nw.fst, m, fun xs hxs vs F1 H1 hl g1 => ?_⟩
  split at hxs
  · rename_i as ea
    obtain ⟨hn, hxs⟩ := hxs
    obtain ⟨h1, h2⟩ := argsD_arg ea
    obtain ⟨F2, s2, g2⟩ := fix_args xs g1 ea
    have hla : as.length = vs.length := h1.trans hl
    have gb := g2.cut (by simpa using hla)
    refine ⟨hla.symm.trans hn, (G.up u1).into F2 H1, F2, as, R, fun e => ex e δ, nw.k, ⟨nw.ck.1, by have := nw.ck.2; show G.n + u1 + u2 ≤ G.lim; omega⟩, hla, h2, gb.into h2 hla fun i x e => Good.nth hla g2 e, hxs, fun r hr ha v F' H' g' => kk r hr v F' H' (by rw [← up_up]; exact gb.ret (δ₁ := []) (σ₁ := []) ha g'), fun e he b cls d F' H' hb g' hx => ?_⟩
    exact nw.link (u1 + b) F' δ σ H' τ1 ts1 e cls d (by omega) nw.l1 (by rw [← up_up]; exact gb.back g') hx he
  · exact hxs.elim
theorem de_call (c : Ctx X W j) (F : DFn X.prog X.w X.K X.mg X.base W.ck x k u2 n mf) (hk : k ≤ j) (hg : Gl X x) (ha : DA X W (e :: es) mas u1) (hdb : (x == ("__debug__" : Str)) = false := by decide)
    (he : starEach (e :: es) X.env = (false, eval e X.env) :: starEach es X.env := by rfl) (hpl : (backTo pos (starEach es X.env)).any (·.1) = false := by rfl) : DE X W (.Call (.Name x p) (e :: es) [] pos) (mCall n mf mas) (u1 + u2) := by
  obtain ⟨f, fd, ps, hm, hkp, hb, hn, hF⟩ := F
  refine ⟨⟨fun pins s σ H Q I h => ?_⟩⟩
  have h' := spD_lift σ H Q h
  refine wpAny_Call_Name_kw (ld_glob I hg hm ?_ hdb)
  exact PySem.W.callWith_K (h₀ := X.base) I.ok.mod.kin hkp (thn (ha.pa.run pos pins s σ H _ I h') fun us s1 ⟨vs, H1, I1, r, q⟩ => ⟨I1.kIn, call_run hF c.gd (c.hr.mono hk) hb c.tk I1 r q⟩) he hpl
end
theorem DFn.le {P : Program} {w : World} {K : PySem.W.Frag} {mg : Str → Option Value} {base : Heap} {CK : CKT} {x : Str} {k u u' n : Nat} {mf : MF} (h : DFn P w K mg base CK x k u n mf) (hu : u ≤ u') : DFn P w K mg base CK x k u' n mf := by
  obtain ⟨f, fd, ps, h1, h2, h3, h4, h5⟩ := h
  refine ⟨f, fd, ps, h1, h2, h3, h4, h5.imp fun vs H Q E q => ?_⟩
  obtain ⟨q1, G, F, as, R, ex, q2, q3, q4, q5, q6, q7, q8, q9⟩ := q
  exact ⟨q1, G, F, as, R, ex, q2, ⟨q3.1, Nat.le_trans (Nat.add_le_add_left hu _) q3.2⟩, q4, q5, q6, q7, fun r hr ha v F' H' g => q8 r hr ha v F' H' (g.mono hu), fun e he b cls d F' H' hb g => q9 e he b cls d F' H' (Nat.le_trans hb hu) g⟩
end DL
namespace DL
open PySem PySem.Spec L2
section
variable {P : Program} {w : World} {K : PySem.W.Frag} {mg mb : Str → Option Value} {k : Nat} {fa a : Addr} {fd : FuncData} {x : Str} {sp : Sp} {s₁ : Shared} {vs : List Value} {ns : List Int}
theorem law_over {H : Hp} (kin : K.In s₁.heap) (hns : s₁.heap.Ns mainGlobals mg) (hb : s₁.heap.Ns builtinsNs mb) (hbb : ∀ y : Str, y ≠ "__name__" → mb y = bootBuiltins y) (hlim : s₁.heap.NoLimit) (hg : s₁.gens = #[])
    (ha : s₁.heap.get? a = some { cls := .type "list", data := .seq vs.toArray }) (hr : Room k PySem.callerA)
    (F : ∀ base : Heap, K.In base → base.Ns mainGlobals mg → FnG P w K mg base k fa fd [x] sp) (hbind : ∀ (s : Shared) (u : Value), BindsTo s fd ⟨[u], []⟩ [(x, u)])
    (only : L2.Only H) (hok : HOk P w H s₁.heap) (at1 : ∀ b, H b ≠ none → b = a) (noK : H a ≠ none → K.lookup a = none)
    (hsp : sp [.ref a] H (fun v _ => v = .bl true) fun _ _ _ => False) :
    codeAny (model P w) PySem.callerA (.call (.ref fa) ⟨[.ref a], []⟩) (fun r s' => r = .ok (.ret (.bool true)) ∧ OldK s₁.heap s'.heap ∧ s'.os = s₁.os ∧ PyProof.Rows.AllBare s'.gens) s₁ := by
  have isA : ∀ {b : Addr} {o : Obj}, s₁.heap.get? b = some o → (∀ us n, o.data ≠ .seq us n) → H b = none := by
    intro b o e d
    cases q : H b with
    | none => rfl
    | some u =>
      obtain rfl := at1 b (by rw [q]; simp)
      rw [ha] at e
      cases e
      exact absurd rfl (d _ _)
  have inB : ∀ {b : Addr} {m : Str → Option Value}, s₁.heap.Ns b m → (hidT s₁.heap H).Ns b m := by
    rintro b m ⟨o, es, ep, e, d, r⟩
    exact ⟨o, es, ep, hidT_get e (isA e fun us n z => by rw [d] at z; cases z), d, r⟩
  have kinB : K.In (hidT s₁.heap H) := by
    intro b o e
    refine hidT_get (kin b o e) ?_
    cases q : H b with
    | none => rfl
    | some u =>
      obtain rfl := at1 b (by rw [q]; simp)
      rw [noK (by rw [q]; simp)] at e
      cases e
  have md : Mod K mg (hidT s₁.heap H) := by
    obtain ⟨mc, l1, l2⟩ := hlim
    exact ⟨kinB, inB hns, ⟨mb, inB hb, hbb⟩, ⟨mc, inB l1, l2⟩⟩
  have e0 : Env0 P w K mg (hidT s₁.heap H) PySem.callerA [] s₁ H :=
    ⟨rfl, md, fun b o e => of_hidT e, by rw [hidT_size]; exact Nat.le_refl _, trivial, fun b hb => (List.not_mem_nil (show b ∈ ([] : List Addr) from hb)).elim, hok, .of_eq hg⟩
  have run := (F _ kinB (inB hns)).run PySem.callerA [] s₁ H ⟨[.ref a], []⟩ [.ref a] [.ref a] (fun v _ => v = .bl true) (fun _ _ _ => False) rfl hr e0 (hbind s₁ (.ref a)) (.cons rfl .nil) hsp
  refine codeAny_mono run fun r s' h => ?_
  match r, h with
  | .error e, h =>
    obtain ⟨_, _, _, _, _, _, _, _, _, _, _, _, z⟩ := h
    exact z.elim
  | .ok (.ret u), h =>
    obtain ⟨v, H', os, bare, un, hok', rv, q⟩ := h
    obtain rfl : v = .bl true := q
    obtain rfl : u = Value.bool true := rv
    refine ⟨rfl, OldK.of_keep fun b o e => ?_, os, bare⟩
    cases q : H b with
    | none => exact un.keep b o e q (fun z => (List.not_mem_nil (show b ∈ ([] : List Addr) from z)).elim) (fun z => (List.not_mem_nil z).elim)
    | some u =>
      rcases only b with z | ⟨ob, xs, z⟩
      · rw [q] at z
        cases z
      · obtain ⟨e1, _⟩ := hok b _ z
        obtain ⟨e2, _⟩ := hok' b _ (un.frzs b ob _ z)
        rw [e] at e1
        cases e1
        exact e2
theorem law_callG (kin : K.In s₁.heap) (hns : s₁.heap.Ns mainGlobals mg) (hb : s₁.heap.Ns builtinsNs mb) (hbb : ∀ y : Str, y ≠ "__name__" → mb y = bootBuiltins y) (hlim : s₁.heap.NoLimit) (hg : s₁.gens = #[])
    (ha : s₁.heap.get? a = some { cls := .type "list", data := .seq vs.toArray }) (hi : PyProof.Rows.IntsAre vs ns) (hl : ns.length ≤ sizeLine) (hr : Room k PySem.callerA)
    (F : ∀ base : Heap, K.In base → base.Ns mainGlobals mg → FnG P w K mg base k fa fd [x] sp) (hbind : ∀ (s : Shared) (u : Value), BindsTo s fd ⟨[u], []⟩ [(x, u)])
    (hsp : ∀ H : Hp, L2.Only H → SqL K H a (ns.map V.int) → sp [.ref a] H (fun v _ => v = .bl true) fun _ _ _ => False) :
    codeAny (model P w) PySem.callerA (.call (.ref fa) ⟨[.ref a], []⟩) (fun r s' => r = .ok (.ret (.bool true)) ∧ OldK s₁.heap s'.heap ∧ s'.os = s₁.os ∧ PyProof.Rows.AllBare s'.gens) s₁ := by
  have rv := L2.vals_ints hi
  have hlen := hi.length
  cases hk : K.lookup a with
  | some o =>
    have e := kin a o hk
    rw [ha] at e
    cases e
    have o1 : L2.Only fun _ => none := fun _ => .inl rfl
    exact law_over kin hns hb hbb hlim hg ha hr F hbind o1 (fun b u z => nomatch z) (fun b z => absurd rfl z) (fun z => absurd rfl z)
      (hsp _ o1 (.inr ⟨_, vs.toArray, _, hk, rfl, rfl, rfl, by rw [List.size_toArray, hlen]; exact hl, by simpa using rv⟩))
  | none =>
    obtain ⟨H, hH⟩ : ∃ H : Hp, H = fun b => if b = a then some (.frz { cls := .type "list", data := .seq vs.toArray } (.lst (ns.map V.int))) else none := ⟨_, rfl⟩
    have ht : H a = some (.frz { cls := .type "list", data := .seq vs.toArray } (.lst (ns.map V.int))) := by rw [hH]; exact if_pos rfl
    have hn : ∀ b, b ≠ a → H b = none := fun b q => by rw [hH]; exact if_neg q
    have o1 : L2.Only H := fun b => by
      by_cases q : b = a
      · subst q
        exact .inr ⟨_, _, ht⟩
      · exact .inl (hn b q)
    refine law_over kin hns hb hbb hlim hg ha hr F hbind o1 (fun b u z => ?_) (fun b z => ?_) (fun _ => hk) (hsp _ o1 (.inl (.inr ⟨_, ht⟩)))
    · by_cases q : b = a
      · subst q
        rw [ht] at z
        cases z
        exact ⟨ha, by rw [List.length_map]; exact hl, vs, _, rv, ha⟩
      · rw [hn b q] at z
        cases z
    · exact Classical.byContradiction fun q => z (hn b q)
end
theorem walkG {l : PySem.W.OpenLaw} {k : Nat} {q : Program} {loose : List Str} {XP : (Str → Option Value) → Heap → Prop} {YP : World → Heap → Prop} {d : DefRec} {K : Params → PySem.W.Frag} {sp : PySem.W.Frag → Sp} {x : Str}
    (hn : l.most = some 63) (hdf : d.params.defaults = []) (hr : Room k PySem.callerA)
    (hY : ∀ (w : World) (h : Heap), YP w h → (K w.params).In h)
    (F : ∀ (w : World) (mg : Str → Option Value) (fa : Addr) (h : Heap), (K w.params).In h → h.Ns mainGlobals mg → mg d.name = some (.ref fa) →
      ∃ fd : FuncData, (∀ (s : Shared) (u : Value), BindsTo s fd ⟨[u], []⟩ [(x, u)]) ∧
        ∀ base : Heap, (K w.params).In base → base.Ns mainGlobals mg → FnG l.prog w (K w.params) mg base k fa fd [x] (sp (K w.params)))
    (hsp : ∀ (K : PySem.W.Frag) (H : Hp) (a : Addr) (ns : List Int), ns.length ≤ 63 → L2.Only H → SqL K H a (ns.map V.int) → sp K [.ref a] H (fun v _ => v = .bl true) fun _ _ _ => False) :
    PySem.W.WalkO q loose XP YP l.row.toRowW d [] (fun f vs => PySem.call f vs) := by
  refine Att.attach_call hn hdf fun w s₀ s₁ mg mb fa o pm cd doc a vs ns G Y ho hd hcd hmg hobj hints hlen hg => ?_
  have kin := hY w _ Y
  obtain ⟨fd, hb, hF⟩ := F w mg fa _ kin G.T.g hmg
  exact law_callG kin G.T.g G.T.b G.T.builtins G.T.nolimit hg hobj hints (Nat.le_trans hlen (by rw [sizeLine_eq]; decide)) hr hF hb fun H hO hS => hsp _ H a ns hlen hO hS
end DL
namespace DL
open PySem PySem.Spec L2
section
variable {u u1 u2 u3 : Nat} {X : Cx} {W : WC} {a b c e : Expr} {es : List Expr} {pos : Pos} {ma mb me : ME} {mas : MA} {k : Nat}
theorem Good.fresh {G : Gm} {F H : Hp} {δ : Env} {σ : L2.St} (g : Good G F δ σ H) {p : Addr} (hp : H p = none) : F p = none := by
  cases q : F p with
  | none => rfl
  | some u => rw [g.fh _ _ q] at hp; cases hp
def DV.pd : DV → Option PyData
  | .d x => some x
  | .own xs => some (.list xs)
  | .bor xs => some (.list xs)
  | _ => none
mutual
theorem At.reads {pins : List (Addr × Obj)} {σ : L2.St} {H F : Hp} {s : Shared} (I : Inv X pins σ H s) (hf : Same F H) : ∀ (d : PyData) (v : V) (u : Value), d.hasDict = false → At X.K F v d → RelV v u → ∃ as, Reads s.heap u d as
  | .none, _, _, _, h, r => by cases h; cases r; exact ⟨_, Reads.none⟩
  | .bool b, _, _, _, h, r => by cases h; cases r; exact ⟨_, Reads.bool b⟩
  | .int i, _, _, _, h, r => by
    cases h
    obtain ⟨t, rfl⟩ := r
    exact ⟨_, Reads.int i t⟩
  | .str x, _, _, _, h, r => by
    cases h
    obtain ⟨t, rfl⟩ := r
    exact ⟨_, Reads.str x t⟩
  | .list ds, _, _, hd, h, r => by
    cases h with
    | lst hs ha =>
      cases r
      obtain ⟨its, rv, ⟨o, n, ho, hc, _, hdat⟩, _⟩ := I.list (SqL.of (hf _ _ hs))
      obtain ⟨as, hr⟩ := AtL.reads I hf ds _ its (by simpa only [PyData.hasDict] using hd) ha rv
      exact ⟨_, Reads.list ho hc hdat hr⟩
  | .tuple ds, _, _, hd, h, r => by
    cases h with
    | tup hs ha =>
      cases r
      obtain ⟨its, rv, ⟨o, ho, hc, n, hdat⟩, _⟩ := I.tuple (SqT.of (hf _ _ hs))
      obtain ⟨as, hr⟩ := AtL.reads I hf ds _ its (by simpa only [PyData.hasDict] using hd) ha rv
      exact ⟨_, Reads.tuple ho hc hdat hr⟩
  | .dict kvs, _, _, hd, _, _ => by simp only [PyData.hasDict] at hd; cases hd
theorem AtL.reads {pins : List (Addr × Obj)} {σ : L2.St} {H F : Hp} {s : Shared} (I : Inv X pins σ H s) (hf : Same F H) : ∀ (ds : List PyData) (vs : List V) (us : List Value), PyData.hasDictAll ds = false → AtL X.K F vs ds → Vals vs us → ∃ as, ReadsAll s.heap us ds as
  | [], _, _, _, h, r => by cases h; cases r; exact ⟨_, ReadsAll.nil⟩
  | d :: ds, _, _, hd, h, r => by
    simp only [PyData.hasDictAll, Bool.or_eq_false_iff] at hd
    cases h with
    | cons h1 h2 =>
      cases r with
      | cons r1 r2 =>
        obtain ⟨as, q1⟩ := At.reads I hf d _ _ hd.1 h1 r1
        obtain ⟨bs, q2⟩ := AtL.reads I hf ds _ _ hd.2 h2 r2
        exact ⟨_, ReadsAll.cons q1 q2⟩
end
def Da (K : PySem.W.Frag) (H : Hp) (v : V) (d : PyData) : Prop := ∃ F, Same F H ∧ At K F v d
theorem pd_da {G : Gm} {F H : Hp} {v : V} {x : DV} {d : PyData} (h : VOk G F H v x) (hf : Same F H) (e : x.pd = some d) : Da G.K H v d := by
  have own : ∀ {l : Addr} {vs : List V} {xs : List PyData}, H l = some (.lst vs) → AtL G.K F vs xs → Da G.K H (.ref l) (.list xs) := fun {l vs xs} h1 h2 => by
    refine ⟨H, Same.refl H, .lst h1 (AtL.mono hf _ _ h2)⟩
  match x, e, h with
  | .d y, e, h => cases e; exact ⟨F, hf, h⟩
  | .own xs, e, h =>
    cases e
    obtain ⟨l, vs, rfl, h1, h2, _⟩ := h
    exact own h1 h2
  | .bor xs, e, h =>
    cases e
    obtain ⟨l, vs, rfl, h1, h2, _⟩ := h
    exact own h1 h2
def oI (C : Int → Int → Prop) (f : Int → Int → Int) : D2 := fun x y R => match x, y with
  | .d (.int i), .d (.int j) => C i j ∧ R (.d (.int (f i j)))
  | _, _ => False
def oC (f : Int → Int → Bool) : D2 := fun x y R => match x, y with
  | .d (.int i), .d (.int j) => R (.d (.bool (f i j)))
  | _, _ => False
theorem oI_inv {C : Int → Int → Prop} {f : Int → Int → Int} {x y : DV} {R : DV → Prop} (h : oI C f x y R) : ∃ i j, x = .d (.int i) ∧ y = .d (.int j) ∧ C i j ∧ R (.d (.int (f i j))) := by
  cases x with
  | d v => cases v with
    | int i => cases y with
      | d w => cases w with
        | int j => exact ⟨i, j, rfl, rfl, h⟩
        | _ => exact False.elim h
      | _ => exact False.elim h
    | _ => exact False.elim h
  | _ => exact False.elim h
theorem oC_inv {f : Int → Int → Bool} {x y : DV} {R : DV → Prop} (h : oC f x y R) : ∃ i j, x = .d (.int i) ∧ y = .d (.int j) ∧ R (.d (.bool (f i j))) := by
  cases x with
  | d v => cases v with
    | int i => cases y with
      | d w => cases w with
        | int j => exact ⟨i, j, rfl, rfl, h⟩
        | _ => exact False.elim h
      | _ => exact False.elim h
    | _ => exact False.elim h
  | _ => exact False.elim h
theorem o2_I {C : Int → Int → Prop} {f : Int → Int → Int} : Op2 X (rI C fun i j => .int (f i j)) (oI C f) := by
  intro G F δ σ H v u x y R Q hK g hx hy h k
  obtain ⟨i, j, rfl, rfl, h1, h2⟩ := oI_inv h
  cases int_of hx
  cases int_of hy
  exact ⟨i, j, rfl, rfl, h1, k _ h2 _ F H (g.pushD (.int _))⟩
theorem o2_C {f : Int → Int → Bool} : Op2 X (rI0 fun i j => .bl (f i j)) (oC f) := by
  intro G F δ σ H v u x y R Q hK g hx hy h k
  obtain ⟨i, j, rfl, rfl, h2⟩ := oC_inv h
  cases int_of hx
  cases int_of hy
  exact ⟨i, j, rfl, rfl, k _ h2 _ F H (g.pushD (.bl _))⟩
theorem oC_bool {f : Int → Int → Bool} : ∀ x y R, oC f x y R → oC f x y fun z => R z ∧ ∃ k, z = .d (.bool k) := by
  intro x y R h
  obtain ⟨i, j, rfl, rfl, h2⟩ := oC_inv h
  exact ⟨h2, _, rfl⟩
def oAdd : D2 := fun x y R => match x, y with
  | .d (.int i), .d (.int j) => R (.d (.int (i + j)))
  | .d (.str s), .d (.str t) => s.length + t.length ≤ sizeLine ∧ R (.d (.str (s ++ t)))
  | .d (.tuple xs), .d (.tuple ys) => xs.length + ys.length ≤ sizeLine ∧ R (.d (.tuple (xs ++ ys)))
  | x, y => match x.lst, y.lst with
    | some xs, some ys => xs.length + ys.length ≤ sizeLine ∧ R (.own (xs ++ ys))
    | _, _ => False
def rAdd4 (K : PySem.W.Frag) : R2 := fun x y H Q => rI0 (fun i j => .int (i + j)) x y H Q ∨ (∃ i j, x = .str i ∧ y = .str j ∧ i.length + j.length ≤ sizeLine ∧ Q (.str (i ++ j)) H) ∨ rCatA K x y H Q ∨ rCat x y H Q
theorem op_add4 : OpR X (binaryOp .Add) (rAdd4 X.K) := op_add.or (op_add_str.or (op_catA.or op_cat))
theorem o2_add : Op2 X (rAdd4 X.K) oAdd := by
  intro G F δ σ H v u x y R Q hK g hx hy h k
  have lists : ∀ {xs ys : List PyData}, x.lst = some xs → y.lst = some ys → xs.length + ys.length ≤ sizeLine → R (.own (xs ++ ys)) → rAdd4 X.K v u H Q := fun {xs ys} e1 e2 hz hR => by
    obtain ⟨l, vs, rfl, h1, h2⟩ := lst_of hx g.fh e1
    obtain ⟨l', ws, rfl, h3, h4⟩ := lst_of hy g.fh e2
    refine .inr (.inr (.inr ⟨l, l', vs, ws, rfl, rfl, h1, h3, by rw [h2.length, h4.length]; exact hz, fun p hp => ?_⟩))
    exact k _ hR _ _ _ (g.newO hp (h2.append h4))
  unfold oAdd at h
  split at h
  · cases int_of hx
    cases int_of hy
    exact .inl ⟨_, _, rfl, rfl, k _ h _ F H (g.pushD (.int _))⟩
  · rename_i s t
    cases (show At G.K F v (.str s) from hx)
    cases (show At G.K F u (.str t) from hy)
    exact .inr (.inl ⟨_, _, rfl, rfl, h.1, k _ h.2 _ F H (g.pushD (.str _))⟩)
  · rename_i xs ys
    obtain ⟨l, vs, rfl, h1, h2⟩ := tup_of hx g.fh
    obtain ⟨l', ws, rfl, h3, h4⟩ := tup_of hy g.fh
    have hxx : At G.K F (.ref l) (.tuple xs) := hx
    have hyy : At G.K F (.ref l') (.tuple ys) := hy
    rw [hK] at h1 h3
    refine .inr (.inr (.inl ⟨l, l', vs, ws, rfl, rfl, h1, h3, by rw [h2.length, h4.length]; exact h.1, fun e => ?_, fun _ e => ?_, fun _ _ p hp => ?_⟩))
    · have : xs = [] := by
        have q := h2.length
        rw [e] at q
        exact List.length_eq_zero_iff.mp q.symm
      subst this
      exact k _ h.2 _ F H (g.pushD hyy)
    · have : ys = [] := by
        have q := h4.length
        rw [e] at q
        exact List.length_eq_zero_iff.mp q.symm
      subst this
      exact k _ h.2 _ F H (g.pushD (by rw [List.append_nil]; exact hxx))
    · exact k _ h.2 _ _ _ (g.newT hp (h2.append h4))
  · split at h
    · rename_i xs ys e1 e2
      exact lists e1 e2 h.1 h.2
    · exact h.elim
def oMul : D2 := fun x y R => match x, y with
  | .d (.int i), .d (.int j) => CMul i j ∧ R (.d (.int (i * j)))
  | x, .d (.int k) => match x.lst with
    | some xs => -(2 ^ 63) ≤ k ∧ k < 2 ^ 63 ∧ xs.length * k.toNat ≤ sizeLine ∧ R (.own (List.replicate k.toNat xs).flatten)
    | none => False
  | _, _ => False
def rMul2 : R2 := fun x y H Q => rI CMul (fun i j => .int (i * j)) x y H Q ∨ rRep x y H Q
theorem op_mul2 : OpR X (binaryOp .Mult) rMul2 := op_mul.or op_rep
theorem o2_mul : Op2 X rMul2 oMul := by
  intro G F δ σ H v u x y R Q hK g hx hy h k
  unfold oMul at h
  split at h
  · cases int_of hx
    cases int_of hy
    exact .inl ⟨_, _, rfl, rfl, h.1, k _ h.2 _ F H (g.pushD (.int _))⟩
  · rename_i kk _
    split at h
    · rename_i xs e1
      obtain ⟨l, vs, rfl, h1, h2⟩ := lst_of hx g.fh e1
      cases int_of hy
      exact .inr ⟨l, _, vs, rfl, rfl, h1, h.1, h.2.1, by rw [h2.length]; exact h.2.2.1, fun p hp => k _ h.2.2.2 _ _ _ (g.newO hp (h2.rep _))⟩
    · exact h.elim
  · exact h.elim
theorem de_add (ha : DE X W a ma u1) (hb : DE X W b mb u2) : DE X W (.BinOp a .Add b pos) (mBin oAdd ma mb) (u1 + u2) := de_op op_add4 o2_add ha hb
def oSub : D2 := oI (fun _ _ => True) fun i j => i - j
theorem oSub_i {i j : Int} {R : DV → Prop} : (oSub (.d (.int i)) (.d (.int j)) R) = (R (.d (.int (i - j)))) := by simp [oSub, oI]
theorem de_sub (ha : DE X W a ma u1) (hb : DE X W b mb u2) : DE X W (.BinOp a .Sub b pos) (mBin oSub ma mb) (u1 + u2) := by
  show DE X W (.BinOp a .Sub b pos) (mBin (oI (fun _ _ => True) fun i j => i - j) ma mb) (u1 + u2)
  have h : OpR X (binaryOp .Sub) (rI (fun _ _ => True) fun i j => .int (i - j)) := by
    intro pins s σ H x y v u Q I rx ry ⟨i, j, e1, e2, _, q⟩
    exact op_sub pins s σ H x y v u Q I rx ry ⟨i, j, e1, e2, q⟩
  exact de_op h o2_I ha hb
theorem de_mul (ha : DE X W a ma u1) (hb : DE X W b mb u2) : DE X W (.BinOp a .Mult b pos) (mBin oMul ma mb) (u1 + u2) := de_op op_mul2 o2_mul ha hb
theorem de_div (ha : DE X W a ma u1) (hb : DE X W b mb u2) : DE X W (.BinOp a .FloorDiv b pos) (mBin (oI CDivW fun i j => i / j) ma mb) (u1 + u2) := de_op op_fdivW o2_I ha hb
theorem de_mod (ha : DE X W a ma u1) (hb : DE X W b mb u2) : DE X W (.BinOp a .Mod b pos) (mBin (oI (fun _ j => 0 < j) fun i j => i % j) ma mb) (u1 + u2) := de_op op_mod o2_I ha hb
theorem de_pow (ha : DE X W a ma u1) (hb : DE X W b mb u2) : DE X W (.BinOp a .Pow b pos) (mBin (oI CPow fun i j => i ^ j.toNat) ma mb) (u1 + u2) := de_op op_pow o2_I ha hb
abbrev oLt : D2 := oC fun i j => decide (i < j)
abbrev oLe : D2 := oC fun i j => decide (i ≤ j)
abbrev oGt : D2 := oC fun i j => decide (j < i)
abbrev oGe : D2 := oC fun i j => decide (j ≤ i)
def oNeg : D1 := fun x R => match x with
  | .d (.int i) => R (.d (.int (-i)))
  | _ => False
def mUn (o : D1) (ma : ME) : ME := fun ex δ R => ma ex δ fun x => o x R
theorem de_neg (ha : DE X W a ma u) : DE X W (.UnaryOp .USub a pos) (mUn oNeg ma) u := ⟨PE.imp (pe_un un_neg ha.pe) fun σ H Q q => by
  obtain ⟨ex, G, F, δ, τ, ts, τ1, ts1, R, n, m, k⟩ := q
  refine ⟨ex, G, F, δ, τ, ts, τ1, ts1, _, n, m, fun x hx v F1 H1 g1 => ?_⟩
  match x, hx, g1 with
  | .d (.int i), hx, g1 =>
    cases int_of g1.top
    exact ⟨i, rfl, k _ hx _ F1 H1 (g1.pop.pushD (.int _))⟩⟩
def oEq (neg : Bool) : D2 := fun x y R => match x.pd, y.pd with
  | some (.str a), some (.str b) => R (.d (.bool (if neg then !PyData.eqv (.str a) (.str b) else PyData.eqv (.str a) (.str b))))
  | some p, some q => SeqAt.shaped p = true ∧ SeqAt.shaped q = true ∧ R (.d (.bool (if neg then !PyData.eqv p q else PyData.eqv p q)))
  | _, _ => False
def rEqA (K : PySem.W.Frag) (neg : Bool) : R2 := fun x y H Q => ∃ d e, Da K H x d ∧ Da K H y e ∧ SeqAt.shaped d = true ∧ SeqAt.shaped e = true ∧ Q (.bl (if neg then !PyData.eqv d e else PyData.eqv d e)) H
theorem shaped_nd {d : PyData} (h : SeqAt.shaped d = true) : d.hasDict = false := PyData.hasDict_of_canLay d (SeqAt.canLay_of_shaped h)
theorem op_eqA (hu : X.A.units + 64 < cLine) : OpR X (compareOp .Eq) (rEqA X.K false) := by
  intro pins s σ H x y v u Q I rx ry ⟨d, e, ⟨F, hF, hd⟩, ⟨F', hF', he⟩, sd, se, q⟩
  obtain ⟨as, r1⟩ := At.reads I hF d x v (shaped_nd sd) hd rx
  obtain ⟨bs, r2⟩ := At.reads I hF' e y u (shaped_nd se) he ry
  exact SeqAt.compareEq_shaped r1 r2 sd se hu ⟨.bl _, H, I, rfl, q⟩
theorem op_neA (hu : X.A.units + 64 < cLine) : OpR X (compareOp .NotEq) (rEqA X.K true) := by
  intro pins s σ H x y v u Q I rx ry ⟨d, e, ⟨F, hF, hd⟩, ⟨F', hF', he⟩, sd, se, q⟩
  obtain ⟨as, r1⟩ := At.reads I hF d x v (shaped_nd sd) hd rx
  obtain ⟨bs, r2⟩ := At.reads I hF' e y u (shaped_nd se) he ry
  exact SeqAt.compareNe_shaped r1 r2 sd se hu ⟨.bl _, H, I, rfl, q⟩
def rEqB (K : PySem.W.Frag) (neg : Bool) : R2 := fun x y H Q => (∃ a b, x = .str a ∧ y = .str b ∧ Q (.bl (if neg then !decide (V.str a = V.str b) else decide (V.str a = V.str b))) H) ∨ rEqA K neg x y H Q
theorem op_eqB (hu : X.A.units + 64 < cLine) : OpR X (compareOp .Eq) (rEqB X.K false) := by
  intro pins s σ H x y v u Q I rx ry h
  rcases h with ⟨a, b, rfl, rfl, q⟩ | h
  · exact op_eq pins s σ H _ _ v u Q I rx ry ⟨rfl, q⟩
  · exact op_eqA hu pins s σ H x y v u Q I rx ry h
theorem op_neB (hu : X.A.units + 64 < cLine) : OpR X (compareOp .NotEq) (rEqB X.K true) := by
  intro pins s σ H x y v u Q I rx ry h
  rcases h with ⟨a, b, rfl, rfl, q⟩ | h
  · exact op_ne pins s σ H _ _ v u Q I rx ry ⟨rfl, q⟩
  · exact op_neA hu pins s σ H x y v u Q I rx ry h
theorem eqv_str (a b : Str) : PyData.eqv (.str a) (.str b) = decide (V.str a = V.str b) := by
  simp only [PyData.eqv]
  by_cases h : a = b
  · subst h; simp
  · simp [h]
theorem str_of {K : PySem.W.Frag} {H : Hp} {v : V} {a : Str} (h : Da K H v (.str a)) : v = .str a := by
  obtain ⟨F, _, h⟩ := h
  cases h
  rfl
theorem o2_eq {neg : Bool} : Op2 X (rEqB X.K neg) (oEq neg) := by
  intro G F δ σ H v u x y R Q hK g hx hy h k
  unfold oEq at h
  split at h
  · rename_i a b e1 e2
    have d1 := str_of (pd_da hx g.fh e1)
    have d2 := str_of (pd_da hy g.fh e2)
    refine .inl ⟨a, b, d1, d2, ?_⟩
    have := k _ h (.bl (if neg then !decide (V.str a = V.str b) else decide (V.str a = V.str b))) F H (by rw [eqv_str]; exact g.pushD (.bl _))
    exact this
  · refine .inr ?_
    rename_i p q _ e1 e2
    have d1 := pd_da hx g.fh e1
    have d2 := pd_da hy g.fh e2
    rw [hK] at d1 d2
    exact ⟨p, q, d1, d2, h.1, h.2.1, k _ h.2.2 _ F H (g.pushD (.bl _))⟩
  · exact h.elim
theorem de_lt (ha : DE X W a ma u1) (hb : DE X W b mb u2) : DE X W (.Compare a [.Lt] [b] pos) (mBin oLt ma mb) (u1 + u2) := de_cmp op_lt o2_C ha hb (nomark _)
theorem de_ge (ha : DE X W a ma u1) (hb : DE X W b mb u2) : DE X W (.Compare a [.GtE] [b] pos) (mBin oGe ma mb) (u1 + u2) := de_cmp op_ge o2_C ha hb (nomark _)
def oIn (neg : Bool) : D2 := fun x y R => match x.pd, y.seq with
  | some p, some ds => SeqAt.shaped p = true ∧ SeqAt.shaped (.list ds) = true ∧ R (.d (.bool (if neg then !(ds.any fun z => PyData.eqv z p) else ds.any fun z => PyData.eqv z p)))
  | _, _ => False
def rInA (K : PySem.W.Frag) (neg : Bool) : R2 := fun x y H Q => ∃ d ds, Da K H x d ∧ (Da K H y (.list ds) ∨ Da K H y (.tuple ds)) ∧ SeqAt.shaped d = true ∧ SeqAt.shaped (.list ds) = true ∧ Q (.bl (if neg then !(ds.any fun z => PyData.eqv z d) else ds.any fun z => PyData.eqv z d)) H
theorem room_in {A : Around} {ds : List PyData} {d : PyData} (h : SeqAt.shaped d = true) (hu : A.units + 65 < cLine) : A.units + 1 + min (PyData.depthAll ds) d.depth < cLine := by
  have := SeqAt.depth_of_shaped h
  omega
theorem op_inA (hu : X.A.units + 65 < cLine) : OpR X (compareOp .In) (rInA X.K false) := by
  intro pins s σ H x y v u Q I rx ry ⟨d, ds, ⟨F, hF, hd⟩, hs, sd, se, q⟩
  obtain ⟨as, r1⟩ := At.reads I hF d x v (shaped_nd sd) hd rx
  have nd := shaped_nd se
  rcases hs with ⟨F', hF', he⟩ | ⟨F', hF', he⟩
  · obtain ⟨bs, r2⟩ := At.reads I hF' (.list ds) y u nd he ry
    exact SeqAt.in_list_reads r2 r1 (SeqAt.canLay_of_shaped se) (SeqAt.canLay_of_shaped sd) (room_in sd hu) ⟨.bl _, H, I, rfl, q⟩
  · obtain ⟨bs, r2⟩ := At.reads I hF' (.tuple ds) y u (by simpa only [PyData.hasDict] using nd) he ry
    exact SeqAt.in_tuple_reads r2 r1 (SeqAt.canLay_of_shaped se) (SeqAt.canLay_of_shaped sd) (room_in sd hu) ⟨.bl _, H, I, rfl, q⟩
theorem o2_in {neg : Bool} : Op2 X (rInA X.K neg) (oIn neg) := by
  intro G F δ σ H v u x y R Q hK g hx hy h k
  unfold oIn at h
  split at h
  · rename_i p ds e1 e2
    have d1 := pd_da hx g.fh e1
    rw [hK] at d1
    have d2 : Da X.K H u (.list ds) ∨ Da X.K H u (.tuple ds) := by
      match y, e2, hy with
      | .d (.list xs), e2, hy => cases e2; left; have := pd_da hy g.fh rfl; rw [hK] at this; exact this
      | .d (.tuple xs), e2, hy => cases e2; right; have := pd_da hy g.fh rfl; rw [hK] at this; exact this
      | .own xs, e2, hy => cases e2; left; have := pd_da hy g.fh rfl; rw [hK] at this; exact this
      | .bor xs, e2, hy => cases e2; left; have := pd_da hy g.fh rfl; rw [hK] at this; exact this
    exact ⟨p, ds, d1, d2, h.1, h.2.1, k _ h.2.2 _ F H (g.pushD (.bl _))⟩
  · exact h.elim
theorem de_in (cx : CtxU X) (ha : DE X W a ma u1) (hb : DE X W b mb u2) (hm : behindInMarks .In b = false := by rfl) : DE X W (.Compare a [.In] [b] pos) (mBin (oIn false) ma mb) (u1 + u2) := de_cmp (op_inA cx.u65) o2_in ha hb hm
def oIxI (x : DV) (i : Int) (R : DV → Prop) : Prop := match x with
  | .d (.str z) => z.length ≤ sizeLine ∧ ∃ ch, atI z.cps.toList i = some ch ∧ R (.d (.str ⟨#[ch]⟩))
  | x => match x.seq with
    | some ds => match atI ds i with
      | some d => R (.d d)
      | none => False
    | none => False
def oIx : D2 := fun x y R => match y with
  | .d (.int i) => oIxI x i R
  | _ => False
theorem atL_at {K : PySem.W.Frag} {F : Hp} {vs : List V} {ds : List PyData} (h : AtL K F vs ds) {i : Int} {d : PyData} (e : atI ds i = some d) : ∃ v, atI vs i = some v ∧ At K F v d := by
  unfold atI at e ⊢
  rw [h.length]
  cases q : ixN ds.length i with
  | none => rw [q] at e; cases e
  | some j =>
    rw [q] at e
    obtain ⟨v, h1, h2⟩ := h.get (i := j) e
    exact ⟨v, h1, h2⟩
theorem o2_ix : Op2 X (rIx X.K) oIx := by
  intro G F δ σ H v u x y R Q hK g hx hy h k
  match y, h, hy with
  | .d (.int i), h, hy =>
    cases int_of hy
    replace h : oIxI x i R := h
    have fin : ∀ {ds : List PyData} {l : Addr} {vs : List V}, (match atI ds i with | some d => R (.d d) | none => False) → v = .ref l → AtL G.K F vs ds → (SqL X.K H l vs ∨ SqT X.K H l vs) → rIx X.K v (.int i) H Q := by
      rintro ds l vs hm rfl ha hs
      split at hm
      · rename_i d ed
        obtain ⟨w, ew, hw⟩ := atL_at ha ed
        rcases hs with hs | hs
        · exact .inl ⟨l, vs, i, w, rfl, rfl, hs, ew, k _ hm _ F H (g.pushD hw)⟩
        · exact .inr (.inl ⟨l, vs, i, w, rfl, rfl, hs, ew, k _ hm _ F H (g.pushD hw)⟩)
      · exact hm.elim
    match x, h, hx with
    | .d (.str z), h, hx =>
      cases (show At G.K F v (.str z) from hx)
      obtain ⟨hz, ch, hc, hR⟩ := h
      exact .inr (.inr ⟨z, i, ch, rfl, rfl, hz, hc, k _ hR _ F H (g.pushD (.str _))⟩)
    | .d (.list xs), h, hx =>
      obtain ⟨l, vs, h1, h2, h3⟩ := lst_of hx g.fh rfl
      exact fin h h1 h3 (.inl (SqL.of h2))
    | .d (.tuple xs), h, hx =>
      obtain ⟨l, vs, h1, h2, h3⟩ := tup_of hx g.fh
      rw [hK] at h2
      exact fin h h1 h3 (.inr h2)
    | .own xs, h, hx =>
      obtain ⟨l, vs, h1, h2, h3⟩ := lst_of hx g.fh rfl
      exact fin h h1 h3 (.inl (SqL.of h2))
    | .bor xs, h, hx =>
      obtain ⟨l, vs, h1, h2, h3⟩ := lst_of hx g.fh rfl
      exact fin h h1 h3 (.inl (SqL.of h2))
theorem de_ix (ha : DE X W a ma u1) (hb : DE X W b mb u2) (hs : PlainIx b := by intro _ _; rfl) : DE X W (.Subscript a b pos) (mBin oIx ma mb) (u1 + u2) :=
  ⟨PE.imp (pe_ix ix_seq ha.pe hb.pe hs) fun σ H Q q => bin_lift o2_ix σ H Q q⟩
end
end DL
namespace DL
open PySem PySem.Spec L2
section
variable {u u1 u2 u3 : Nat} {X : Cx} {W : WC} {a b c e : Expr} {es : List Expr} {pos : Pos} {ma mb me : ME} {mas : MA} {k : Nat}
abbrev MO := XD → Env → (Option Int → Prop) → Prop
def liftO (K : PySem.W.Frag) (mg : Str → Option Value) (W : WC) (u : Nat) (m : MO) : TO := fun σ H Q => ∃ (ex : XD) (G : Gm) (F : Hp) (δ τ : Env) (ts : L2.St) (τ1 : Env) (ts1 : L2.St) (R : Option Int → Prop), Now K mg W u ex G F δ σ τ ts τ1 ts1 H ∧ m ex δ R ∧
  ∀ r, R r → ∀ F' H', Good (G.up u) F' (δ ++ τ ++ τ1) (σ ++ ts ++ ts1) H' → Q r H'
structure DO' (X : Cx) (W : WC) (e : Option Expr) (m : MO) (u : Nat) : Prop where
  po : PO X e (liftO X.K X.mg W u m)
theorem PO.imp {X : Cx} {e : Option Expr} {t t' : TO} (h : PO X e t) (i : ∀ σ H Q, t' σ H Q → t σ H Q) : PO X e t' := ⟨fun pins s σ H Q I q => h.run pins s σ H Q I (i _ _ _ q)⟩
def mPN : MO := fun _ _ R => R none
def mPS (m : ME) : MO := fun ex δ R => m ex δ fun x => match x with
  | .d (.int i) => R (some i)
  | _ => False
theorem do_none : DO' X W none mPN 0 := ⟨PO.imp po_none fun σ H Q q => by
  obtain ⟨ex, G, F, δ, τ, ts, τ1, ts1, R, n, m, k⟩ := q
  exact k _ m F H (n.good.later 0)⟩
theorem do_some (h : DE X W e me u) : DO' X W (some e) (mPS me) u := ⟨PO.imp (po_some h.pe) fun σ H Q q => by
  obtain ⟨ex, G, F, δ, τ, ts, τ1, ts1, R, n, m, k⟩ := q
  refine ⟨ex, G, F, δ, τ, ts, τ1, ts1, _, n, m, fun x hx v F1 H1 g1 => ?_⟩
  match x, hx, g1 with
  | .d (.int i), hx, g1 =>
    cases int_of g1.top
    exact ⟨i, rfl, k _ hx F1 H1 g1.pop⟩⟩
def cutD (xs : List PyData) (lo hi : Option Int) : List PyData := (xs.drop (HT.sIx xs.length 0 lo)).take (HT.sIx xs.length xs.length hi - HT.sIx xs.length 0 lo)
theorem atL_cut {K : PySem.W.Frag} {F : Hp} {vs : List V} {ds : List PyData} (h : AtL K F vs ds) (lo hi : Option Int) : AtL K F (cutV vs lo hi) (cutD ds lo hi) := by
  unfold cutV cutD
  rw [h.length]
  exact (h.drop _).take _
def oSl (x : DV) (lo hi : Option Int) (R : DV → Prop) : Prop := match x with
  | .d (.str z) => z.length ≤ sizeLine ∧ R (.d (.str (cutS z lo hi)))
  | .d (.tuple ds) => R (.d (.tuple (cutD ds lo hi)))
  | .scr ns => R (.own (cutD (ns.map .int) lo hi))
  | x => match x.lst with
    | some ds => R (.own (cutD ds lo hi))
    | none => False
def mSl (me : ME) (ml mh : MO) : ME := fun ex δ R => me ex δ fun x => ml ex δ fun lo => mh ex δ fun hi => oSl x lo hi R
def rSl3 (K : PySem.W.Frag) : V → Option Int → Option Int → Hp → VK → Prop := fun x lo hi H Q => rSlL K x lo hi H Q ∨ rSlA K x lo hi H Q ∨ rSlS x lo hi H Q
theorem sl3 : SlR X (rSl3 X.K) := SlR.or sl_list (SlR.or sl_tupA sl_str)
theorem cutD_all {ds : List PyData} {lo hi : Option Int} (h : HT.sIx ds.length 0 lo = 0 ∧ HT.sIx ds.length ds.length hi = ds.length) : cutD ds lo hi = ds := by
  unfold cutD
  rw [h.1, h.2]
  simp
theorem de_slice {lo hi : Option Expr} {p2 : Pos} {ml mh : MO} (he : DE X W e me u1) (hl : DO' X W lo ml u2) (hh : DO' X W hi mh u3) : DE X W (.Subscript e (.Slice lo hi none p2) pos) (mSl me ml mh) (u1 + (u2 + u3)) :=
  ⟨PE.imp (pe_slice sl3 he.pe hl.po hh.po) fun σ H Q q => by
    obtain ⟨ex, G, F, δ, τ, ts, τ1, ts1, R, n, m, k⟩ := q
    refine ⟨ex, G, F, δ, τ, ts, τ1, ts1, _, n.fst, m, fun x hx v F1 H1 g1 => ?_⟩
    refine ⟨ex, G.up u1, F1, δ, τ, ts, _, _, _, (n.after g1).fst, hx, fun l hlo F2 H2 g2 => ?_⟩
    refine ⟨ex, (G.up u1).up u2, F2, δ, τ, ts, _, _, _, (n.after g1).here g2, hlo, fun h hhi F3 H3 g3 => ?_⟩
    rw [up_up, up_up] at g3
    have g : Good (G.up (u1 + (u2 + u3))) F3 (δ ++ τ ++ τ1 ++ [some x]) (σ ++ ts ++ ts1 ++ [some v]) H3 := by simpa only [List.append_assoc] using g3
    have hxv := g.top
    match x, hhi, hxv, g with
    | .d (.str z), hhi, hxv, g =>
      cases (show At G.K F3 v (.str z) from hxv)
      exact .inr (.inr ⟨z, rfl, hhi.1, k _ hhi.2 _ F3 H3 (g.pop.pushD (.str _))⟩)
    | .d (.tuple ds), hhi, hxv, g =>
      obtain ⟨a, vs, rfl, h2, h3⟩ := tup_of hxv g.fh
      have hxx : At G.K F3 (.ref a) (.tuple ds) := hxv
      rw [n.k] at h2
      refine .inr (.inl ⟨a, vs, rfl, h2, fun hw => ?_, fun hw p hp => k _ hhi _ _ _ (g.pop.newT hp (atL_cut h3 l h))⟩)
      rw [h3.length] at hw
      have hhi' : R (.d (.tuple (cutD ds l h))) := hhi
      rw [cutD_all hw] at hhi'
      exact k _ hhi' _ F3 H3 (g.pop.pushD hxx)
    | .scr ns, hhi, hxv, g =>
      obtain ⟨a, vs, rfl, h2, h3⟩ := rd_of hxv g.fh rfl
      rw [n.k] at h2
      exact .inl ⟨a, vs, rfl, h2, fun p hp => k _ hhi _ _ _ (g.pop.newO hp (atL_cut h3 l h))⟩
    | .d (.list ds), hhi, hxv, g =>
      obtain ⟨a, vs, rfl, h2, h3⟩ := lst_of hxv g.fh rfl
      exact .inl ⟨a, vs, rfl, SqL.of h2, fun p hp => k _ hhi _ _ _ (g.pop.newO hp (atL_cut h3 l h))⟩
    | .own ds, hhi, hxv, g =>
      obtain ⟨a, vs, rfl, h2, h3⟩ := lst_of hxv g.fh rfl
      exact .inl ⟨a, vs, rfl, SqL.of h2, fun p hp => k _ hhi _ _ _ (g.pop.newO hp (atL_cut h3 l h))⟩
    | .bor ds, hhi, hxv, g =>
      obtain ⟨a, vs, rfl, h2, h3⟩ := lst_of hxv g.fh rfl
      exact .inl ⟨a, vs, rfl, SqL.of h2, fun p hp => k _ hhi _ _ _ (g.pop.newO hp (atL_cut h3 l h))⟩⟩
section
variable {prog : Program} {w : World} {A : Around} {E : Value → Shared → Prop} {s : Shared}
theorem back_applied {sl : Addr} {n : Nat} {Q : Int × Int × Nat → Shared → Prop} (hs : ∃ os, s.heap.get? sl = some os ∧ os.cls = .type "slice" ∧ ∃ t, os.data = .fields #[.none, .none, .int (-1) t])
    (h : Q ((n : Int) - 1, -1, n) s) : wpAny (model prog w) A (Builtin.Slice.sliceApplied (.ref sl) (pure (n : Int))) Q E s := by
  obtain ⟨os, hos, hcs, t, hds⟩ := hs
  unfold Builtin.Slice.sliceApplied Builtin.Slice.sliceFields
  refine wpAny_bind (wpAny_bind (wpAny_field hos hds (x := .none) rfl (wpAny_bind (wpAny_field hos hds (x := .none) rfl (wpAny_bind (wpAny_field hos hds (x := .int (-1) t) rfl (wpAny_pure ?_)))))))
  refine wpAny_bind (PyProof.Rows.slicePart_int ?_)
  show wpAny _ _ (if ((-1 : Int) == 0) = true then _ else _) _ _ s
  rw [if_neg (by decide)]
  refine wpAny_bind (PyProof.Rows.slicePart_none (wpAny_bind (PyProof.Rows.slicePart_none (wpAny_bind (wpAny_pure ?_)))))
  have e1 : Builtin.Slice.sliceAdjust none none (-1) (n : Int) = ((n : Int) - 1, -1) := by
    unfold Builtin.Slice.sliceAdjust
    simp
  have e2 : Builtin.Slice.slicePlaces ((n : Int) - 1) (-1) (-1) = n := by
    unfold Builtin.Slice.slicePlaces
    simp
    omega
  show wpAny _ _ (match Builtin.Slice.sliceAdjust none none (-1) (n : Int) with | (lo, hi) => pure (lo, (-1 : Int), Builtin.Slice.slicePlaces lo hi (-1))) _ _ s
  rw [e1]
  show wpAny _ _ (pure ((n : Int) - 1, (-1 : Int), Builtin.Slice.slicePlaces ((n : Int) - 1) (-1) (-1))) _ _ s
  rw [e2]
  exact wpAny_pure h
theorem back_pick (xs : List Value) : ((List.range xs.length).filterMap fun (m : Nat) => xs.toArray[(((xs.length : Nat) : Int) - 1 + (m : Int) * (-1)).toNat]?) = xs.reverse := by
  have e : (List.range xs.length).map (fun m => xs.length - 1 - m) = (List.range xs.length).reverse := by
    apply List.ext_getElem?
    intro i
    by_cases hi : i < xs.length
    · rw [List.getElem?_map, List.getElem?_range hi, List.getElem?_reverse (by simpa using hi), List.length_range, List.getElem?_range (by omega)]
      rfl
    · rw [List.getElem?_eq_none (by simpa using hi), List.getElem?_eq_none (by simpa using hi)]
  have e2 : ((List.range xs.length).filterMap fun (m : Nat) => xs.toArray[(((xs.length : Nat) : Int) - 1 + (m : Int) * (-1)).toNat]?) = ((List.range xs.length).map (fun m => xs.length - 1 - m)).filterMap fun j => xs[j]? := by
    rw [List.filterMap_map]
    have cong : ∀ (l : List Nat) (f g : Nat → Option Value), (∀ m ∈ l, f m = g m) → l.filterMap f = l.filterMap g := by
      intro l f g h
      induction l with
      | nil => rfl
      | cons a l ih => rw [List.filterMap_cons, List.filterMap_cons, h a List.mem_cons_self, ih fun m hm => h m (List.mem_cons_of_mem _ hm)]
    refine cong _ _ _ fun m hm => ?_
    have hm' : m < xs.length := List.mem_range.mp hm
    have : (((xs.length : Nat) : Int) - 1 + (m : Int) * (-1)).toNat = xs.length - 1 - m := by omega
    rw [this]
    simp
  rw [e2, e, List.filterMap_reverse]
  congr 1
  apply List.ext_getElem?
  intro i
  have all : ∀ l : List Value, (List.range l.length).filterMap (fun j => l[j]?) = l := by
    intro l
    induction l with
    | nil => rfl
    | cons a l ih =>
      rw [List.length_cons, List.range_succ_eq_map, List.filterMap_cons]
      simp only [List.getElem?_cons_zero, List.filterMap_map]
      congr 1
  rw [all]
theorem getItem_tuple_back {t sl : Addr} {its : List Value} {Q : Value → Shared → Prop} (ht : PyProof.Rows.IsTup s.heap t its.toArray) (hs : ∃ os, s.heap.get? sl = some os ∧ os.cls = .type "slice" ∧ ∃ tk, os.data = .fields #[.none, .none, .int (-1) tk])
    (h : Q (.ref s.heap.objs.size) { s with heap := s.heap.push { cls := .type "tuple", data := .seq its.reverse.toArray } }) (hsz : its.length ≤ sizeLine) : wpAny (model prog w) A (getItem (.ref t) (.ref sl)) Q E s := by
  obtain ⟨os, hos, hcs, hrest⟩ := id hs
  have hT : s.TypeIs (.ref sl) "slice" := ⟨os, hos, hcs⟩
  have room : sizeOk (.seq its.reverse.toArray) := by
    show its.reverse.toArray.size ≤ sizeLine
    rw [List.size_toArray, List.length_reverse]
    exact hsz
  unfold getItem
  try with_reducible refine wpAny_holding ?_
  first | refine wpAny_bind (wpAny_pure ?_) | skip
  refine wpAny_bind (wpAny_sequenceKey ht.typeIs (by decide) ?_)
  refine wpAny_bind (wpAny_callSpecial?_slot (name := Str.ofString "__getitem__") ht.typeIs PyProof.Rows.slot_tuple_getitem (wpAny_call_entry PyProof.Rows.slot_tuple_getitem ht.typeIs PyProof.Rows.entry_tuple_getitem ?_ (PyProof.Rows.args_tuple_getitem _ _)))
  show wpAny _ _ (Builtin.Tuple.tupleItemsOf (.ref t) >>= _) _ _ s
  refine wpAny_bind (PyProof.Rows.tupleItemsOf_ ht ?_)
  refine wpAny_bind (wpAny_typeOf hT ?_)
  rw [if_pos (by decide)]
  rw [show its.toArray.size = its.length from List.size_toArray]
  refine wpAny_bind (back_applied hs ?_)
  have hne : ¬ ((((its.length : Nat) : Int) - 1 == 0 && (-1 : Int) == 1 && its.length == its.length) = true) := by simp
  show wpAny _ _ (if ((((its.length : Nat) : Int) - 1 == 0 && (-1 : Int) == 1 && its.length == its.length) = true) then _ else _) _ _ s
  rw [if_neg hne, back_pick]
  first
    | exact wpAny_bind (m := Builtin.Tuple.tupleExact _) (wpAny_newObj_type (wpAny_pure ⟨_, rfl, wpAny_pure h⟩) room)
    | exact wpAny_bind (m := Builtin.Tuple.tupleExact _) (wpAny_newObj_type (wpAny_bind (wpAny_pure (wpAny_pure ⟨_, rfl, wpAny_pure h⟩))) room)
    | exact wpAny_bind (wpAny_bind (m := Builtin.Tuple.tupleExact _) (wpAny_newObj_type (wpAny_pure (wpAny_pure ⟨_, rfl, wpAny_pure h⟩)) room))
    | exact wpAny_bind (wpAny_bind (m := Builtin.Tuple.tupleExact _) (wpAny_newObj_type (wpAny_pure ⟨_, rfl, wpAny_pure h⟩) room))
end
def tBack (K : PySem.W.Frag) (te : TE) : TE := fun σ H Q => te σ H fun x H1 => ∃ a xs, x = .ref a ∧ ((SqL K H1 a xs ∧ ∀ p, H1 p = none → Q (.ref p) (upd H1 p (.lst xs.reverse))) ∨ (SqT K H1 a xs ∧ ∀ p, H1 p = none → Q (.ref p) (upd H1 p (.tup xs.reverse))))
theorem pe_back {te : TE} {n1 : Nat} {p1 p2 p3 : Pos} (he : PE X e te) : PE X (.Subscript e (.Slice none none (some (.UnaryOp .USub (.Constant (.int 1) n1 p1) p2)) p3) pos) (tBack X.K te) := by
  refine ⟨fun pins s σ H Q I h => ?_⟩
  refine PyProof.Rows.Subscript_ (thn (he.run pins s σ H _ I h) fun v s1 ⟨x, H1, I1, r1, a, xs, ex, q⟩ => ?_)
  subst ex
  cases r1
  have one : PO X (some (.UnaryOp .USub (.Constant (.int 1) n1 p1) p2)) (tPart (tUn (rU fun i => .int (-i)) (tC (.int 1)))) := po_some (pe_un un_neg pe_int)
  refine wpAny_Slice (thn (po_none.run pins s1 σ H1 (fun o H' => o = none ∧ H' = H1) I1 ⟨rfl, rfl⟩) fun vl s2 ⟨l, H2, I2, pl, el, e2⟩ => ?_)
  subst el
  subst e2
  refine thn (po_none.run pins s2 σ H2 (fun o H' => o = none ∧ H' = H2) I2 ⟨rfl, rfl⟩) fun vu s3 ⟨u, H3, I3, pu, eu, e3⟩ => ?_
  subst eu
  subst e3
  refine thn (one.run pins s3 σ H3 (fun o H' => o = some (-1) ∧ H' = H3) I3 ⟨1, rfl, -1, rfl, rfl, rfl⟩) fun vs s4 ⟨o, H4, I4, ps, eo, e4⟩ => ?_
  subst eo
  subst e4
  cases pl
  cases pu
  have I5 : Inv X pins σ H4 { s4 with heap := s4.heap.push { cls := .type "slice", data := .fields #[.none, .none, vs] } } := I4.kept (t' := s4.toks) fun b ob z => Heap.get?_push_of_some _ z
  show wpAny (model X.prog X.w) X.A (PyProof.Rows.subscriptTail e (.Slice none none (some (.UnaryOp .USub (.Constant (.int 1) n1 p1) p2)) p3) (.ref a) (.ref s4.heap.objs.size)) (EP X pins σ Q) X.xe { s4 with heap := s4.heap.push { cls := .type "slice", data := .fields #[.none, .none, vs] } }
  rcases q with ⟨hx, q⟩ | ⟨hx, q⟩
  · obtain ⟨its, r, ht, hz⟩ := I5.list hx
    have hlen := r.length
    refine PyProof.Rows.tail_any (ops := [.ref a, .ref s4.heap.objs.size]) ht.isList.typeIs PySem.slot_list_getitem.lookup ?_ (by with_unfolding_all rfl)
    refine wpAny_getItem_list_slice ht.isList (Heap.IsSliceOf.new _ .none .none vs) .none .none ps (by decide) ?_ (by rw [List.size_toArray]; omega)
    rw [PySem.W.krv_pick]
    exact ⟨.ref _, _, I5.laid (t' := s4.toks) (o := .lst xs.reverse) (fun b ob z => Heap.get?_push_of_some _ z) (Nat.le_refl _) ⟨by rw [List.length_reverse]; exact hz, _, 0, r.reverse, Heap.get?_push_size _ rfl⟩, rfl, q _ (I5.hok.fresh (Nat.le_refl _))⟩
  · obtain ⟨its, r, ht, hz⟩ := I5.tuple hx
    have hlen := r.length
    obtain ⟨tk, rfl⟩ : ∃ tk, vs = .int (-1) tk := by
      cases ps
      exact ⟨_, rfl⟩
    refine PyProof.Rows.tail_any (ops := [.ref a, .ref s4.heap.objs.size]) ht.typeIs PyProof.Rows.slot_tuple_getitem.lookup ?_ (by with_unfolding_all rfl)
    refine getItem_tuple_back ht ⟨_, Heap.get?_push_size _ rfl, rfl, tk, rfl⟩ ?_ (by omega)
    exact ⟨.ref _, _, I5.laid (t' := s4.toks) (o := .tup xs.reverse) (fun b ob z => Heap.get?_push_of_some _ z) (Nat.le_refl _) ⟨by rw [List.length_reverse]; exact hz, _, r.reverse, PyProof.Rows.IsTup.new _ _⟩, rfl, q _ (I5.hok.fresh (Nat.le_refl _))⟩
def oBack : D1 := fun x R => match x with
  | .d (.tuple ds) => R (.d (.tuple ds.reverse))
  | x => match x.lst with
    | some ds => R (.own ds.reverse)
    | none => False
theorem de_back {n1 : Nat} {p1 p2 p3 : Pos} (he : DE X W e me u) : DE X W (.Subscript e (.Slice none none (some (.UnaryOp .USub (.Constant (.int 1) n1 p1) p2)) p3) pos) (mUn oBack me) u :=
  ⟨PE.imp (pe_back he.pe) fun σ H Q q => by
    obtain ⟨ex, G, F, δ, τ, ts, τ1, ts1, R, n, m, k⟩ := q
    refine ⟨ex, G, F, δ, τ, ts, τ1, ts1, _, n, m, fun x hx v F1 H1 g => ?_⟩
    have hxv := g.top
    match x, hx, hxv, g with
    | .d (.tuple ds), hx, hxv, g =>
      obtain ⟨a, vs, rfl, h2, h3⟩ := tup_of hxv g.fh
      rw [n.k] at h2
      exact ⟨a, vs, rfl, .inr ⟨h2, fun p hp => k _ hx _ _ _ (g.pop.newT hp h3.reverse)⟩⟩
    | .d (.list ds), hx, hxv, g =>
      obtain ⟨a, vs, rfl, h2, h3⟩ := lst_of hxv g.fh rfl
      exact ⟨a, vs, rfl, .inl ⟨SqL.of h2, fun p hp => k _ hx _ _ _ (g.pop.newO hp h3.reverse)⟩⟩
    | .own ds, hx, hxv, g =>
      obtain ⟨a, vs, rfl, h2, h3⟩ := lst_of hxv g.fh rfl
      exact ⟨a, vs, rfl, .inl ⟨SqL.of h2, fun p hp => k _ hx _ _ _ (g.pop.newO hp h3.reverse)⟩⟩
    | .bor ds, hx, hxv, g =>
      obtain ⟨a, vs, rfl, h2, h3⟩ := lst_of hxv g.fh rfl
      exact ⟨a, vs, rfl, .inl ⟨SqL.of h2, fun p hp => k _ hx _ _ _ (g.pop.newO hp h3.reverse)⟩⟩⟩
end
end DL
namespace DL
open PySem PySem.Spec L2
section
variable {u u1 u2 u3 : Nat} {X : Cx} {W : WC} {a b c e : Expr} {es : List Expr} {pos p : Pos} {ma mb me : ME} {mas : MA} {k : Nat}
def o1 (o : D1) : DN := fun xs R => match xs with
  | [x] => o x R
  | _ => False
theorem on_1 {r : List V → Hp → VK → Prop} {o : D1} (h : ∀ (G : Gm) (F : Hp) (δ : Env) (σ : L2.St) (H : Hp) (v : V) (x : DV) (R : DV → Prop) (Q : VK), G.K = X.K → Good G F δ σ H → VOk G F H v x → o x R →
    (∀ z, R z → ∀ w F' H', Good G F' (δ ++ [some z]) (σ ++ [some w]) H' → Q w H') → r [v] H Q) : OpN X r (o1 o) := by
  intro G F δ σ H vs xs R Q hK hl g ho k
  match xs, ho, hl, g with
  | [x], ho, hl, g =>
    obtain ⟨v, rfl, hv, g'⟩ := one_of hl g
    exact h G F δ σ H v x R Q hK g' hv ho k
theorem on_2 {r : List V → Hp → VK → Prop} {o : D2} (h : ∀ (G : Gm) (F : Hp) (δ : Env) (σ : L2.St) (H : Hp) (v u : V) (x y : DV) (R : DV → Prop) (Q : VK), G.K = X.K → Good G F δ σ H → VOk G F H v x → VOk G F H u y → o x y R →
    (∀ z, R z → ∀ w F' H', Good G F' (δ ++ [some z]) (σ ++ [some w]) H' → Q w H') → r [v, u] H Q) : OpN X r (fun xs R => match xs with | [x, y] => o x y R | _ => False) := by
  intro G F δ σ H vs xs R Q hK hl g ho k
  match xs, ho, hl, g with
  | [x, y], ho, hl, g =>
    obtain ⟨v, u, rfl, hv, hu, g'⟩ := two_of hl g
    exact h G F δ σ H v u x y R Q hK g' hv hu ho k
def o2 (o : D2) : DN := fun xs R => match xs with
  | [x, y] => o x y R
  | _ => False
def oLen : D1 := fun x R => match x with
  | .d (.str z) => z.length ≤ sizeLine ∧ R (.d (.int z.length))
  | .scr ns => R (.d (.int ns.length))
  | x => match x.seq with
    | some ds => R (.d (.int ds.length))
    | none => False
def rLen (K : PySem.W.Frag) : List V → Hp → VK → Prop := fun xs H Q => (∃ p ys, xs = [.ref p] ∧ (SqL K H p ys ∨ SqT K H p ys) ∧ Q (.int ys.length) H) ∨ ∃ z, xs = [.str z] ∧ z.length ≤ sizeLine ∧ Q (.int z.length) H
theorem cr_len : CallR X (.builtin "len") (rLen X.K) := CallR.or call_len_seq call_len_str
theorem on_len : OpN X (rLen X.K) (o1 oLen) := on_1 fun G F δ σ H v x R Q hK g hx h k => by
  match x, h, hx with
  | .d (.str z), h, hx =>
    cases (show At G.K F v (.str z) from hx)
    exact .inr ⟨z, rfl, h.1, k _ h.2 _ F H (g.pushD (.int _))⟩
  | .scr ns, h, hx =>
    obtain ⟨l, vs, rfl, h1, h2⟩ := rd_of hx g.fh rfl
    rw [hK] at h1
    refine .inl ⟨l, vs, rfl, .inl h1, ?_⟩
    rw [h2.length, List.length_map]
    exact k _ h _ F H (g.pushD (.int _))
  | .d (.list ds), h, hx =>
    obtain ⟨l, vs, rfl, h1, h2⟩ := lst_of hx g.fh rfl
    refine .inl ⟨l, vs, rfl, .inl (SqL.of h1), ?_⟩
    rw [h2.length]
    exact k _ h _ F H (g.pushD (.int _))
  | .d (.tuple ds), h, hx =>
    obtain ⟨l, vs, rfl, h1, h2⟩ := tup_of hx g.fh
    rw [hK] at h1
    refine .inl ⟨l, vs, rfl, .inr h1, ?_⟩
    rw [h2.length]
    exact k _ h _ F H (g.pushD (.int _))
  | .own ds, h, hx =>
    obtain ⟨l, vs, rfl, h1, h2⟩ := lst_of hx g.fh rfl
    refine .inl ⟨l, vs, rfl, .inl (SqL.of h1), ?_⟩
    rw [h2.length]
    exact k _ h _ F H (g.pushD (.int _))
  | .bor ds, h, hx =>
    obtain ⟨l, vs, rfl, h1, h2⟩ := lst_of hx g.fh rfl
    refine .inl ⟨l, vs, rfl, .inl (SqL.of h1), ?_⟩
    rw [h2.length]
    exact k _ h _ F H (g.pushD (.int _))
theorem de_len (hg : Gl X "len") (hm : X.mg "len" = none) (ha : DA X W [e] mas u) (he : starEach [e] X.env = (false, eval e X.env) :: starEach [] X.env := by rfl) (hpl : (backTo pos (starEach [] X.env)).any (·.1) = false := by rfl) :
    DE X W (.Call (.Name "len" p) [e] [] pos) (mCB (o1 oLen) mas) u := de_callB cr_len on_len hg hm PySem.boot_len ha (by decide) (by decide) he hpl
def oMax2 : D2 := fun x y R => match x, y with
  | .d (.int i), .d (.int j) => R (.d (.int (if j > i then j else i)))
  | _, _ => False
def oMin2 : D2 := fun x y R => match x, y with
  | .d (.int i), .d (.int j) => R (.d (.int (if j < i then j else i)))
  | _, _ => False
theorem oMax2_inv {x y : DV} {R : DV → Prop} (h : oMax2 x y R) : ∃ i j, x = .d (.int i) ∧ y = .d (.int j) ∧ R (.d (.int (if j > i then j else i))) := by
  cases x with
  | d v => cases v with
    | int i => cases y with
      | d w => cases w with
        | int j => exact ⟨i, j, rfl, rfl, h⟩
        | _ => exact False.elim h
      | _ => exact False.elim h
    | _ => exact False.elim h
  | _ => exact False.elim h
theorem oMin2_inv {x y : DV} {R : DV → Prop} (h : oMin2 x y R) : ∃ i j, x = .d (.int i) ∧ y = .d (.int j) ∧ R (.d (.int (if j < i then j else i))) := by
  cases x with
  | d v => cases v with
    | int i => cases y with
      | d w => cases w with
        | int j => exact ⟨i, j, rfl, rfl, h⟩
        | _ => exact False.elim h
      | _ => exact False.elim h
    | _ => exact False.elim h
  | _ => exact False.elim h
theorem on_max2 : OpN X (fun xs H Q => ∃ i j, xs = [.int i, .int j] ∧ Q (.int (if j > i then j else i)) H) (o2 oMax2) := on_2 fun G F δ σ H v u x y R Q hK g hx hy h k => by
  obtain ⟨i, j, rfl, rfl, h⟩ := oMax2_inv h
  cases int_of hx
  cases int_of hy
  exact ⟨i, j, rfl, k _ h _ F H (g.pushD (.int _))⟩
theorem on_min2 : OpN X (fun xs H Q => ∃ i j, xs = [.int i, .int j] ∧ Q (.int (if j < i then j else i)) H) (o2 oMin2) := on_2 fun G F δ σ H v u x y R Q hK g hx hy h k => by
  obtain ⟨i, j, rfl, rfl, h⟩ := oMin2_inv h
  cases int_of hx
  cases int_of hy
  exact ⟨i, j, rfl, k _ h _ F H (g.pushD (.int _))⟩
theorem de_max2 (hc : X.calm = true) (hg : Gl X "max") (hm : X.mg "max" = none) (ha : DA X W [a, b] mas u) (he : starEach [a, b] X.env = (false, eval a X.env) :: starEach [b] X.env := by rfl) (hpl : (backTo pos (starEach [b] X.env)).any (·.1) = false := by rfl) :
    DE X W (.Call (.Name "max" p) [a, b] [] pos) (mCB (o2 oMax2) mas) u := de_callB (call_max2 hc) on_max2 hg hm (by decide +kernel) ha (by decide) (by decide) he hpl
theorem de_min2 (hc : X.calm = true) (hg : Gl X "min") (hm : X.mg "min" = none) (ha : DA X W [a, b] mas u) (he : starEach [a, b] X.env = (false, eval a X.env) :: starEach [b] X.env := by rfl) (hpl : (backTo pos (starEach [b] X.env)).any (·.1) = false := by rfl) :
    DE X W (.Call (.Name "min" p) [a, b] [] pos) (mCB (o2 oMin2) mas) u := de_callB (call_min2 hc) on_min2 hg hm (by decide +kernel) ha (by decide) (by decide) he hpl
def oTuple : D1 := fun x R => match x with
  | .d (.tuple ds) => R (.d (.tuple ds))
  | x => match x.lst with
    | some ds => R (.d (.tuple ds))
    | none => False
theorem on_tuple : OpN X (fun xs H Q => ∃ p ys, xs = [.ref p] ∧ ((SqL X.K H p ys ∧ ∀ l, H l = none → Q (.ref l) (upd H l (.tup ys))) ∨ (SqT X.K H p ys ∧ Q (.ref p) H))) (o1 oTuple) := on_1 fun G F δ σ H v x R Q hK g hx h k => by
  match x, h, hx with
  | .d (.tuple ds), h, hx =>
    have hxx : At G.K F v (.tuple ds) := hx
    obtain ⟨l, vs, rfl, h1, h2⟩ := tup_of hx g.fh
    rw [hK] at h1
    exact ⟨l, vs, rfl, .inr ⟨h1, k _ h _ F H (g.pushD hxx)⟩⟩
  | .d (.list ds), h, hx =>
    obtain ⟨l, vs, rfl, h1, h2⟩ := lst_of hx g.fh rfl
    exact ⟨l, vs, rfl, .inl ⟨SqL.of h1, fun q hq => k _ h _ _ _ (g.newT hq h2)⟩⟩
  | .own ds, h, hx =>
    obtain ⟨l, vs, rfl, h1, h2⟩ := lst_of hx g.fh rfl
    exact ⟨l, vs, rfl, .inl ⟨SqL.of h1, fun q hq => k _ h _ _ _ (g.newT hq h2)⟩⟩
  | .bor ds, h, hx =>
    obtain ⟨l, vs, rfl, h1, h2⟩ := lst_of hx g.fh rfl
    exact ⟨l, vs, rfl, .inl ⟨SqL.of h1, fun q hq => k _ h _ _ _ (g.newT hq h2)⟩⟩
theorem de_tupleC (hg : Gl X "tuple") (hm : X.mg "tuple" = none) (ha : DA X W [e] mas u) (he : starEach [e] X.env = (false, eval e X.env) :: starEach [] X.env := by rfl) (hpl : (backTo pos (starEach [] X.env)).any (·.1) = false := by rfl) :
    DE X W (.Call (.Name "tuple" p) [e] [] pos) (mCB (o1 oTuple) mas) u := de_callTy call_tuple_of on_tuple hg hm (by decide +kernel) ha (by decide) (by decide) he hpl
def oList : D1 := fun x R => match x.seq with
  | some ds => R (.own ds)
  | none => False
theorem on_list : OpN X (fun xs H Q => ∃ p ys, xs = [.ref p] ∧ (SqL X.K H p ys ∨ SqT X.K H p ys) ∧ ∀ l, H l = none → Q (.ref l) (upd H l (.lst ys))) (o1 oList) := on_1 fun G F δ σ H v x R Q hK g hx h k => by
  match x, h, hx with
  | .d (.tuple ds), h, hx =>
    obtain ⟨l, vs, rfl, h1, h2⟩ := tup_of hx g.fh
    rw [hK] at h1
    exact ⟨l, vs, rfl, .inr h1, fun q hq => k _ h _ _ _ (g.newO hq h2)⟩
  | .d (.list ds), h, hx =>
    obtain ⟨l, vs, rfl, h1, h2⟩ := lst_of hx g.fh rfl
    exact ⟨l, vs, rfl, .inl (SqL.of h1), fun q hq => k _ h _ _ _ (g.newO hq h2)⟩
  | .own ds, h, hx =>
    obtain ⟨l, vs, rfl, h1, h2⟩ := lst_of hx g.fh rfl
    exact ⟨l, vs, rfl, .inl (SqL.of h1), fun q hq => k _ h _ _ _ (g.newO hq h2)⟩
  | .bor ds, h, hx =>
    obtain ⟨l, vs, rfl, h1, h2⟩ := lst_of hx g.fh rfl
    exact ⟨l, vs, rfl, .inl (SqL.of h1), fun q hq => k _ h _ _ _ (g.newO hq h2)⟩
theorem de_listC (hg : Gl X "list") (hm : X.mg "list" = none) (ha : DA X W [e] mas u) (he : starEach [e] X.env = (false, eval e X.env) :: starEach [] X.env := by rfl) (hpl : (backTo pos (starEach [] X.env)).any (·.1) = false := by rfl) :
    DE X W (.Call (.Name "list" p) [e] [] pos) (mCB (o1 oList) mas) u := de_callTy call_list_of on_list hg hm (by decide +kernel) ha (by decide) (by decide) he hpl
def intsOf : List PyData → Option (List Int)
  | [] => some []
  | .int i :: r => (intsOf r).map (i :: ·)
  | _ :: _ => none
theorem intsOf_map : ∀ ns : List Int, intsOf (ns.map PyData.int) = some ns
  | [] => rfl
  | n :: ns => by simp [intsOf, intsOf_map ns]
theorem intsOf_eq : ∀ {ds : List PyData} {ns : List Int}, intsOf ds = some ns → ds = ns.map PyData.int
  | [], ns, e => by cases e; rfl
  | .int i :: r, ns, e => by
    simp only [intsOf, Option.map_eq_some_iff] at e
    obtain ⟨m, h, rfl⟩ := e
    rw [intsOf_eq h]
    rfl
def isTy : PyData → String → Bool
  | .none, _ => false
  | .bool _, T => T == "bool" || T == "int"
  | .int _, T => T == "int"
  | .str _, T => T == "str"
  | .list _, T => T == "list"
  | .tuple _, T => T == "tuple"
  | .dict ks, T => T == "dict" && !isObj ks
def tys : List String := ["int", "bool", "str", "tuple", "list", "dict"]
theorem kit_all : ∀ T ∈ tys, kitB "NoneType" T = some false ∧ kitB "bool" T = some (T == "bool" || T == "int") ∧ kitB "int" T = some (T == "int") ∧ kitB "str" T = some (T == "str") ∧ kitB "list" T = some (T == "list") ∧ kitB "tuple" T = some (T == "tuple") ∧ kitB "dict" T = some (T == "dict") := by decide +kernel
theorem isObj_kv {K : PySem.W.Frag} {F : Hp} {kvs : List (Key × V)} {ds : List (PyData × PyData)} (h : AtKv K F kvs ds) : isObj ds = false := by
  cases h with
  | nil => rfl
  | @cons k v r d ds h1 h2 => cases k <;> rfl
theorem kit_at {K : PySem.W.Frag} {H : Hp} {v : V} {d : PyData} (h : Da K H v d) : ∃ t, TyX K H v t ∧ ∀ T ∈ tys, PySem.W.kitOne K t (.type T) = some (isTy d T) := by
  obtain ⟨F, hF, h⟩ := h
  cases h with
  | non => exact ⟨_, .base .non, fun T h => kit_ty (kit_all T h).1⟩
  | bl b => exact ⟨_, .base (.bl b), fun T h => kit_ty (kit_all T h).2.1⟩
  | int i => exact ⟨_, .base (.int i), fun T h => kit_ty (kit_all T h).2.2.1⟩
  | str x => exact ⟨_, .base (.str x), fun T h => kit_ty (kit_all T h).2.2.2.1⟩
  | lst hs _ => exact ⟨_, .base (.lst (hF _ _ hs)), fun T h => kit_ty (kit_all T h).2.2.2.2.1⟩
  | dct hs ha =>
    have e : ∀ T ∈ tys, PySem.W.kitOne K (.type "dict") (.type T) = some (isTy (.dict _) T) := fun T h => by
      rw [isTy, isObj_kv ha, Bool.not_false, Bool.and_true]
      exact kit_ty (kit_all T h).2.2.2.2.2.2
    rcases hs with hs | ⟨o, hs⟩
    · exact ⟨_, .base (.dK (hF _ _ hs)), e⟩
    · exact ⟨_, .fDict (hF _ _ hs), e⟩
  | tup hs _ =>
    exact ⟨_, .base (.tup (hF _ _ hs)), fun T h => kit_ty (kit_all T h).2.2.2.2.2.1⟩
  | obj hs ho _ _ => exact ⟨_, .base (.ins (hF _ _ hs) ho.cls ho.ha ho.hn ho.htk ho.hm), fun T h => by
      rw [isTy, show isObj ((objK, _) :: _) = true from rfl, Bool.not_true, Bool.and_false]
      exact ho.no T h⟩
def oIsi : D2 := fun x y R => match x.pd, y with
  | some d, .raw (.ty T) => T ∈ tys ∧ R (.d (.bool (isTy d T)))
  | _, _ => False
theorem on_isi : OpN X (rIsi X.K) (o2 oIsi) := on_2 fun G F δ σ H v u x y R Q hK g hx hy h k => by
  unfold oIsi at h
  split at h
  · rename_i d T e
    have hd := pd_da hx g.fh e
    rw [hK] at hd
    have hu : u = .ty T := hy
    subst hu
    obtain ⟨t, ht, hk⟩ := kit_at hd
    exact ⟨v, .ty T, _, _, _, rfl, .ty T, ht, hk T h.1, k _ h.2 _ F H (g.pushD (.bl _))⟩
  · exact h.elim
theorem de_isi (hg : Gl X "isinstance") (hm : X.mg "isinstance" = none) (ha : DA X W [a, b] mas u) (he : starEach [a, b] X.env = (false, eval a X.env) :: starEach [b] X.env := by rfl) (hpl : (backTo pos (starEach [b] X.env)).any (·.1) = false := by rfl) :
    DE X W (.Call (.Name "isinstance" p) [a, b] [] pos) (mCB (o2 oIsi) mas) u := de_callB call_isi on_isi hg hm (by decide +kernel) ha (by decide) (by decide) he hpl
def Shows (d : PyData) : Prop := d.hasDict = false ∧ d.showable = true ∧ d.shown.length ≤ sizeLine ∧ d.depth ≤ 30
end
end DL
namespace DL
open PySem PySem.Spec L2
section
variable {u u1 u2 u3 : Nat} {X : Cx} {W : WC} {a b c e : Expr} {es : List Expr} {pos p : Pos} {ma mb me mi : ME} {mas : MA} {k : Nat}
abbrev Mut := List PyData → List PyData → Option (PyData × List PyData)
def MutOk (K : PySem.W.Frag) (r : V → List V → Hp → VK → Prop) (o : Mut) : Prop := ∀ (F : Hp) (l : Addr) (ws : List V) (xs : List PyData) (vs : List V) (ds : List PyData) (H : Hp) (Q : VK) (res : PyData) (xs' : List PyData), Same F H → H l = some (.lst ws) → AtL K F ws xs → AtL K F vs ds → o xs ds = some (res, xs') →
  (∀ u ws', At K F u res → AtL K F ws' xs' → Q u (upd H l (.lst ws'))) → r (.ref l) vs H Q
def uApp : Mut := fun xs ds => match ds with
  | [d] => if xs.length < sizeLine then some (.none, xs ++ [d]) else none
  | _ => none
theorem mut_app {K : PySem.W.Frag} : MutOk K rAppend uApp := by
  intro F l ws xs vs ds H Q res xs' hF hl ha hv e k
  unfold uApp at e
  split at e
  · cases hv with
    | cons h1 h2 =>
      cases h2
      split at e
      · rename_i hz
        cases e
        exact ⟨l, ws, _, rfl, rfl, hl, by rw [ha.length]; exact hz, k _ _ .non (ha.append (.cons h1 .nil))⟩
      · cases e
  · cases e
theorem AtL.dropLast {K : PySem.W.Frag} {F : Hp} {vs : List V} {ds : List PyData} (h : AtL K F vs ds) : AtL K F vs.dropLast ds.dropLast := by
  rw [List.dropLast_eq_take, List.dropLast_eq_take, h.length]
  exact h.take _
def uExt : Mut := fun xs ds => match ds with
  | [.list zs] => if xs.length + zs.length ≤ sizeLine then some (.none, xs ++ zs) else none
  | _ => none
theorem mut_ext {K : PySem.W.Frag} : MutOk K rExtend uExt := by
  intro F l ws xs vs ds H Q res xs' hF hl ha hv e k
  unfold uExt at e
  split at e
  · rename_i zs
    cases hv with
    | cons h1 h2 =>
      cases h2
      cases h1 with
      | @lst b ys _ hb hy =>
        split at e
        · rename_i hz
          cases e
          exact ⟨l, b, ws, ys, rfl, rfl, hl, hF _ _ hb, by rw [ha.length, hy.length]; exact hz, k _ _ .non (ha.append hy)⟩
        · cases e
  · cases e
def mutRun (o : Mut) (i : Nat) (δ : Env) (as : List DV) (R : PyData → Env → Prop) : Prop := match δ[i]? with
  | some (some (.own xs)) => match vals as with
    | some ds => match o xs ds with
      | some (res, xs') => R res (δ.set i (some (.own xs')))
      | none => False
    | none => False
  | _ => False
theorem mut_lift {r : V → List V → Hp → VK → Prop} {o : Mut} {G : Gm} (ho : MutOk G.K r o) {F : Hp} {δ τ : Env} {σ ts : L2.St} {H : Hp} {i : Nat} {as : List DV} {vs : List V} {R : PyData → Env → Prop} {Q : VK} {v : V} (nb : NoBor (δ ++ τ)) (l1 : δ.length = σ.length) (hl : as.length = vs.length)
    (g : Good G F (δ ++ τ ++ as.map some) (σ ++ ts ++ vs.map some) H) (hi : σ[i]? = some (some v)) (h : mutRun o i δ as R) (hQ : ∀ res δ', R res δ' → ∀ u F' H', δ'.length = δ.length → NoBor (δ' ++ τ) → Good G F' (δ' ++ τ ++ [some (.d res)]) (σ ++ ts ++ [some u]) H' → Q u H') : r v vs H Q := by
  unfold mutRun at h
  split at h
  · rename_i xs e
    have hiL : i < δ.length := (List.getElem?_eq_some_iff.mp e).1
    split at h
    · rename_i ds ev
      split at h
      · rename_i res xs' eo
        obtain ⟨F2, s2, g2⟩ := fix_all as g ev
        have hd : ds.length = vs.length := (vals_len ev).trans hl
        have hav := atL_of hd g2
        have g3 := g2.cut (by simpa using hd)
        obtain ⟨w, ew, l, ws, rfl, h1, h2, _⟩ := g3.get (i := i) (dv := .own xs) (by rw [List.getElem?_append_left hiL]; exact e)
        rw [List.getElem?_append_left (by omega), hi] at ew
        cases ew
        refine ho F2 l ws xs vs ds H Q res xs' g3.fh h1 h2 hav eo fun u ws' hu hws => ?_
        have g4 := g3.write nb (n := i) (xs := xs) (ys := xs') (l := l) (ws := ws') (by rw [List.getElem?_append_left hiL]; exact e) (by rw [List.getElem?_append_left (by omega)]; exact hi) hws
        rw [List.set_append_left _ _ hiL] at g4
        refine hQ res _ h u F2 _ (by simp) ?_ (g4.pushD hu)
        rw [← List.set_append_left _ _ hiL]
        exact noBor_set nb rfl
      · exact h.elim
    · exact h.elim
  · exact h.elim
theorem own_ref {G : Gm} {F : Hp} {δ A : Env} {σ A' : L2.St} {H : Hp} {i : Nat} {xs : List PyData} (l1 : δ.length = σ.length) (g : Good G F (δ ++ A) (σ ++ A') H) (e : δ[i]? = some (some (.own xs))) : ∃ l ws, σ[i]? = some (some (.ref l)) ∧ H l = some (.lst ws) := by
  have hiL : i < δ.length := (List.getElem?_eq_some_iff.mp e).1
  obtain ⟨w, ew, l, ws, rfl, h1, _⟩ := g.get (i := i) (dv := .own xs) (by rw [List.getElem?_append_left hiL]; exact e)
  rw [List.getElem?_append_left (by omega)] at ew
  exact ⟨l, ws, ew, h1⟩
def isOwnAt (δ : Env) (i : Nat) : Prop := match δ[i]? with
  | some (some (.own _)) => True
  | _ => False
theorem isOwn_some {δ : Env} {i : Nat} (h : isOwnAt δ i) : ∃ xs, δ[i]? = some (some (.own xs)) := by
  unfold isOwnAt at h
  split at h
  · exact ⟨_, by assumption⟩
  · exact h.elim
def mMut (i : Nat) (o : Mut) (t : MA) : MS := fun ex E δ => isOwnAt δ i ∧ t ex δ fun as => mutRun o i δ as fun _ δ' => E.nx δ'
theorem setTop2 {G : Gm} {F : Hp} {δ τ : Env} {σ ts : L2.St} {H : Hp} {j : Nat} {x : DV} {u : V} (l1 : δ.length = σ.length) (hj : j < δ.length) (g : Good G F (δ ++ τ ++ [some x]) (σ ++ ts ++ [some u]) H) : Good G F (δ.set j (some x) ++ τ) (σ.set j (some u) ++ ts) H := by
  have := g.setTop (i := j) (by simp; omega)
  rw [List.set_append_left _ _ hj, List.set_append_left _ _ (by omega)] at this
  exact this
variable {x : Str} {p1 ap cp : Pos} {m id : Str}
theorem tyL {K : PySem.W.Frag} {H : Hp} {l : Addr} {ws : List V} (h : H l = some (.lst ws)) : tyV K "list" (.ref l) H := .inl ⟨rfl, ws, SqL.of h⟩
theorem bm_lift {i : Nat} {o : Mut} {r : V → List V → Hp → VK → Prop} (ho : MutOk X.K r o) {D : Ends} {σ : L2.St} {H : Hp} {ex : XD} {G : Gm} {F : Hp} {δ τ : Env} {ts : L2.St} (n : Now X.K X.mg W u1 ex G F δ σ τ ts [] [] H) (nb : NoBor (δ ++ τ)) {R : PyData → Env → Prop} {Q : VK}
    (h : isOwnAt δ i ∧ mas ex δ fun as => mutRun o i δ as R) (hQ : ∀ res δ', R res δ' → ∀ u F' H', δ'.length = δ.length → NoBor (δ' ++ τ) → Good (G.up u1) F' (δ' ++ τ ++ [some (.d res)]) (σ ++ ts ++ [some u]) H' → Q u H') :
    tBM X.K "list" r (tVar i) (liftA X.K X.mg W u1 mas) σ H Q := by
  obtain ⟨ho1, ha⟩ := h
  obtain ⟨xs, e⟩ := isOwn_some ho1
  obtain ⟨l, ws, el, hw⟩ := own_ref n.l1 n.g0 e
  refine ⟨.ref l, el, tyL hw, ex, G, F, δ, τ, ts, [], [], _, n, ha, fun as has vs F1 H1 hl g1 => ?_⟩
  exact mut_lift (by have e : (G.up u1).K = X.K := n.k; rw [e]; exact ho) nb n.l1 hl (by simpa using g1) el has hQ
theorem drop_end {D : Ends} {σ : L2.St} {G : Gm} {δ τ : Env} {ts : L2.St} {E : DEnds} {u1 : Nat} (l1 : δ.length = σ.length) (eo : EndsOk G u1 τ ts E D) : ∀ (res : PyData) δ', E.nx δ' → ∀ u F' H', δ'.length = δ.length → NoBor (δ' ++ τ) → Good (G.up u1) F' (δ' ++ τ ++ [some (.d res)]) (σ ++ ts ++ [some u]) H' → D.nx σ H' :=
  fun res δ' h u F' H' hl nb g => eo.nx δ' h u1 σ F' H' (Nat.le_refl _) (hl.trans l1) nb g.pop
theorem ds_mut {i : Nat} {o : Mut} {r : V → List V → Hp → VK → Prop} {name : Str} {id : String} (slot : Slot "list" name id) (hty : typeOf (.builtin id) = pure (.type "method_descriptor")) (hm : MtR X id r) (ho : MutOk X.K r o) (hv : PE X (.Name x p1) (tVar i)) (ha : DA X W (e :: es) mas u1)
    (hbase : attributeBase (.Name x p1) name X.env (eval (.Name x p1) X.env) = eval (.Name x p1) X.env := by rfl)
    (hfew : ((backTo cp (starEach (e :: es) X.env)).all (fun x => !x.1) && (backToKw cp (keywordEach [] X.env)).all (fun x => x.1.isSome)
      && decide ((e :: es).length + ([] : List Keyword).length + (if ([] : List Keyword).isEmpty then 0 else 1) < 30)) = true := by rfl)
    (hline : (ap.endLine == cp.line) = true := by rfl) (hs : starEach (e :: es) X.env = (false, eval e X.env) :: starEach es X.env := by rfl) (hplain : (backTo cp (starEach es X.env)).any (·.1) = false := by rfl) (hsw : swapsWith (.Call (.Attribute (.Name x p1) name ap) (e :: es) [] cp) none pos.line X.env = pure false := by rfl) :
    DS X W (.Expr (.Call (.Attribute (.Name x p1) name ap) (e :: es) [] cp) pos) (mMut i o mas) u1 :=
  ⟨PS.imp (ps_expr (pe_bm PySem.F.plainAttrs_list slot hty hm hv ha.pa hbase hfew hline hs hplain) hsw) fun D σ H q => by
    obtain ⟨ex, G, F, δ, τ, ts, E, n, nb, eo, h⟩ := q
    exact bm_lift (D := D) (Q := fun _ H1 => D.nx σ H1) ho n nb h (drop_end n.l1 eo)⟩
def mSto (i : Nat) (mi me : ME) : MS := fun ex E δ => isOwnAt δ i ∧ me ex δ fun y => mi ex δ fun z => match δ[i]?, y.val, z with
  | some (some (.own xs)), some d, .d (.int k) => match ixN xs.length k with
    | some j => E.nx (δ.set i (some (.own (xs.set j d))))
    | none => False
  | _, _, _ => False
theorem ds_sto {i : Nat} {idx : Expr} {p2 : Pos} (hv : PE X (.Name x p1) (tVar i)) (hi : DE X W idx mi u2) (he : DE X W e me u1)
    (hset : ∀ v, assign (.Subscript (.Name x p1) idx p2) X.env v = (do
      let ov ← holding [v] (eval (.Name x p1) X.env)
      let iv ← holding [v, ov] (eval idx X.env)
      standAt p2
      holding [v, ov, iv] (setItem ov iv v)
      release [v, ov, iv] []) := by intro _; rfl)
    (hs : swapsWithSole [.Subscript (.Name x p1) idx p2] e pos.line X.env = pure false := by rfl) (hw : swappedStores [.Subscript (.Name x p1) idx p2] e X.env = pure none := by rfl)
    (h1 : (assignEach [.Subscript (.Name x p1) idx p2] X.env).map (·.2) = [assign (.Subscript (.Name x p1) idx p2) X.env] := by rfl) :
    DS X W (.Assign [.Subscript (.Name x p1) idx p2] e pos) (mSto i mi me) (u1 + u2) :=
  ⟨PS.imp (ps_asg he.pe (pg_sub hv hi.pe set_list hset) hs hw h1) fun D σ H q => by
    obtain ⟨ex, G, F, δ, τ, ts, E, n, nb, eo, ho1, h⟩ := q
    obtain ⟨xs, eX⟩ := isOwn_some ho1
    refine ⟨ex, G, F, δ, τ, ts, [], [], _, n.fst, h, fun y hy v F1 H1 g1 => ?_⟩
    obtain ⟨l, ws0, el, _⟩ := own_ref n.l1 n.g0 eX
    refine ⟨.ref l, el, ?_⟩
    refine ⟨ex, G.up u1, F1, δ, τ, ts, _, _, _, n.after (rs := [some y]) (vs := [some v]) g1, hy, fun z hz iv F2 H2 g2 => ?_⟩
    rw [up_up] at g2
    have g : Good (G.up (u1 + u2)) F2 (δ ++ τ ++ [some y] ++ [some z]) (σ ++ ts ++ [some v] ++ [some iv]) H2 := by simpa only [List.append_assoc, List.nil_append] using g2
    rw [eX] at hz
    match hyv : y.val, z, hz, g with
    | some d, .d (.int kk), hz, g =>
      cases int_of g.top
      obtain ⟨F3, s3, g3⟩ := fix_one (A := δ ++ τ) (A2 := []) (x := y) (ρ := σ ++ ts ++ [some v]) (by simpa using g.pop) hyv
      have g3' : Good (G.up (u1 + u2)) F3 (δ ++ τ ++ [some (.d d)]) (σ ++ ts ++ [some v]) H2 := g3
      have hd : At G.K F3 v d := g3'.top
      have g4 := g3'.pop
      have hiL : i < δ.length := (List.getElem?_eq_some_iff.mp eX).1
      obtain ⟨w, ew, l', ws, rfl, q1, q2, _⟩ := g4.get (i := i) (dv := .own xs) (by rw [List.getElem?_append_left hiL]; exact eX)
      rw [List.getElem?_append_left (by have := n.l1; omega), el] at ew
      cases ew
      have hz' : (match ixN xs.length kk with | some j => E.nx (δ.set i (some (.own (xs.set j d)))) | none => False) := hz
      split at hz'
      · rename_i j ej
        refine ⟨l, ws, kk, j, rfl, rfl, q1, by rw [q2.length]; exact ej, ?_⟩
        have g5 := g4.write nb (n := i) (xs := xs) (ys := xs.set j d) (l := l) (ws := ws.set j v) (by rw [List.getElem?_append_left hiL]; exact eX) (by rw [List.getElem?_append_left (by have := n.l1; omega)]; exact el) (AtL.set hd j q2)
        rw [List.set_append_left _ _ hiL] at g5
        refine eo.nx _ hz' _ σ F3 _ (Nat.le_refl _) (by simpa using n.l1) ?_ g5
        rw [← List.set_append_left _ _ hiL]
        exact noBor_set nb rfl
      · exact hz'.elim⟩
def mPar2 (i j : Nat) (t : MA) : MS := fun ex E δ => t ex δ fun xs => match xs with
  | [x, y] => x.isBor = false ∧ y.isBor = false ∧ i < δ.length ∧ j < δ.length ∧ E.nx ((δ.set i (some x)).set j (some y))
  | _ => False
theorem ds_par2 {i j : Nat} {y : Str} {px py pt pt2 : Pos} {kt k2 : _} (hc : X.calm = true) (hN : X.N.Nodup) (hi : X.N[i]? = some x) (hj : X.N[j]? = some y) (hij : i ≠ j)
    (hx : X.env.scope.names.lookup x = some .local) (hy : X.env.scope.names.lookup y = some .local) (ha : DA X W [a, b] mas u1)
    (hw : swappedStores [.Tuple [.Name x px, .Name y py] kt pt] (.Tuple [a, b] k2 pt2) X.env = pure (some [x, y]))
    (hs : swapsWithSole [.Tuple [.Name x px, .Name y py] kt pt] (.Tuple [a, b] k2 pt2) pos.line X.env = pure false := by rfl) :
    DS X W (.Assign [.Tuple [.Name x px, .Name y py] kt pt] (.Tuple [a, b] k2 pt2) pos) (mPar2 i j mas) u1 :=
  ⟨PS.imp (ps_par hc hN hi hj hij hx hy ha.pa hw hs) fun D σ H q => by
    obtain ⟨ex, G, F, δ, τ, ts, E, n, nb, eo, h⟩ := q
    refine ⟨ex, G, F, δ, τ, ts, [], [], _, n, h, fun xs hxs vs F1 H1 hl g1 => ?_⟩
    match xs, hxs, hl, g1 with
    | [x, y], hxs, hl, g1 =>
      obtain ⟨h1, h2, h3, h4, h5⟩ := hxs
      match vs, hl, g1 with
      | [v, u], hl, g1 =>
        refine ⟨v, u, rfl, ?_⟩
        have l1 := n.l1
        have g : Good (G.up u1) F1 (δ ++ (τ ++ [some x]) ++ [some y]) (σ ++ (ts ++ [some v]) ++ [some u]) H1 := by simpa using g1
        have g2 : Good (G.up u1) F1 (δ.set j (some y) ++ τ ++ [some x]) (σ.set j (some u) ++ ts ++ [some v]) H1 := by
          have := setTop2 l1 h4 g
          simpa only [List.append_assoc] using this
        have g3 := setTop2 (by simpa using l1) (j := i) (by simpa using h3) g2
        rw [List.set_comm _ _ (Ne.symm hij), List.set_comm _ _ (Ne.symm hij)] at g3
        refine eo.nx _ h5 _ _ F1 H1 (Nat.le_refl _) (by simpa using l1) ?_ g3
        exact nb_mk (noBor_set (noBor_set (nb_left nb) h1) h2) (nb_right nb)⟩
def mPar3 (i j l : Nat) (t : MA) : MS := fun ex E δ => t ex δ fun xs => match xs with
  | [x, y, z] => x.isBor = false ∧ y.isBor = false ∧ z.isBor = false ∧ i < δ.length ∧ j < δ.length ∧ l < δ.length ∧ E.nx (((δ.set i (some x)).set j (some y)).set l (some z))
  | _ => False
theorem ds_par3 {i j l : Nat} {y z : Str} {px py pz pt pt2 : Pos} {kt k2 : _} (hc : X.calm = true) (hN : X.N.Nodup) (hi : X.N[i]? = some x) (hj : X.N[j]? = some y) (hl : X.N[l]? = some z) (hij : i ≠ j) (hil : i ≠ l) (hjl : j ≠ l)
    (hx : X.env.scope.names.lookup x = some .local) (hy : X.env.scope.names.lookup y = some .local) (hz : X.env.scope.names.lookup z = some .local) (ha : DA X W [a, b, c] mas u1)
    (hw : swappedStores [.Tuple [.Name x px, .Name y py, .Name z pz] kt pt] (.Tuple [a, b, c] k2 pt2) X.env = pure (some [x, y, z]))
    (hs : swapsWithSole [.Tuple [.Name x px, .Name y py, .Name z pz] kt pt] (.Tuple [a, b, c] k2 pt2) pos.line X.env = pure false := by rfl) :
    DS X W (.Assign [.Tuple [.Name x px, .Name y py, .Name z pz] kt pt] (.Tuple [a, b, c] k2 pt2) pos) (mPar3 i j l mas) u1 :=
  ⟨PS.imp (ps_par3 hc hN hi hj hl hij hil hjl hx hy hz ha.pa hw hs) fun D σ H q => by
    obtain ⟨ex, G, F, δ, τ, ts, E, n, nb, eo, h⟩ := q
    refine ⟨ex, G, F, δ, τ, ts, [], [], _, n, h, fun xs hxs vs F1 H1 hln g1 => ?_⟩
    match xs, hxs, hln, g1 with
    | [x, y, z], hxs, hln, g1 =>
      obtain ⟨h1, h2, h3, h4, h5, h6, h7⟩ := hxs
      match vs, hln, g1 with
      | [v, u, w], hln, g1 =>
        refine ⟨v, u, w, rfl, ?_⟩
        have l1 := n.l1
        have g : Good (G.up u1) F1 (δ ++ (τ ++ [some x] ++ [some y]) ++ [some z]) (σ ++ (ts ++ [some v] ++ [some u]) ++ [some w]) H1 := by simpa using g1
        have g2 : Good (G.up u1) F1 (δ.set l (some z) ++ (τ ++ [some x]) ++ [some y]) (σ.set l (some w) ++ (ts ++ [some v]) ++ [some u]) H1 := by
          have := setTop2 l1 h6 g
          simpa only [List.append_assoc] using this
        have g3 : Good (G.up u1) F1 ((δ.set l (some z)).set j (some y) ++ τ ++ [some x]) ((σ.set l (some w)).set j (some u) ++ ts ++ [some v]) H1 := by
          have := setTop2 (by simpa using l1) (j := j) (by simpa using h5) g2
          simpa only [List.append_assoc] using this
        have g4 := setTop2 (by simpa using l1) (j := i) (by simpa using h4) g3
        have perm : ∀ {α : Type} (s : List α) (p q r : α), ((s.set l r).set j q).set i p = ((s.set i p).set j q).set l r := fun s p q r => by
          rw [List.set_comm _ _ (Ne.symm hij), List.set_comm r p (Ne.symm hil), List.set_comm _ _ (Ne.symm hjl)]
        rw [perm, perm] at g4
        refine eo.nx _ h7 _ _ F1 H1 (Nat.le_refl _) (by simpa using l1) ?_ g4
        exact nb_mk (noBor_set (noBor_set (noBor_set (nb_left nb) h1) h2) h3) (nb_right nb)⟩
def mAug (i : Nat) (f : Int → Int → Int) (me : ME) : MS := fun ex E δ => match δ[i]? with
  | some (some (.d (.int v))) => me ex δ fun y => match y with
    | .d (.int u) => E.nx (δ.set i (some (.d (.int (f v u)))))
    | _ => False
  | _ => False
theorem ds_aug {i : Nat} {op : Operator} {f : Int → Int → Int} (hN : X.N.Nodup) (hi : X.N[i]? = some x) (hx : Loc X.env.scope x) (he : DE X W e me u1) (ho : PIp X op (ipI f)) (hf : X.fn x = true ∨ X.env.scope.names.lookup x = some .local := by first | exact .inl rfl | exact .inr rfl | assumption) :
    DS X W (.AugAssign (.Name x p1) op e pos) (mAug i f me) u1 :=
  ⟨PS.imp (ps_aug hN hi hx he.pe ho hf) fun D σ H q => by
    obtain ⟨ex, G, F, δ, τ, ts, E, n, nb, eo, h⟩ := q
    unfold mAug at h
    split at h
    · rename_i v e
      have hiL : i < δ.length := (List.getElem?_eq_some_iff.mp e).1
      obtain ⟨w, ew, hw⟩ := n.g0.get (i := i) (dv := .d (.int v)) (by rw [List.getElem?_append_left hiL]; exact e)
      rw [List.getElem?_append_left (by have := n.l1; omega)] at ew
      cases int_of hw
      refine ⟨.int v, ew, ex, G, F, δ, τ, ts, [], [], _, n, h, fun y hy u F1 H1 g1 => ?_⟩
      match y, hy, g1 with
      | .d (.int j), hy, g1 =>
        cases int_of g1.top
        have g2 : Good (G.up u1) F1 (δ ++ τ) (σ ++ ts) H1 := by
          have := g1.pop
          simpa using this
        refine ⟨v, j, rfl, rfl, eo.nx _ hy _ _ F1 H1 (Nat.le_refl _) (by simpa using n.l1) ?_ (setTop2 n.l1 hiL (g2.pushD (.int _)))⟩
        rw [← List.set_append_left _ _ hiL]
        exact noBor_set nb rfl
    · exact h.elim⟩
end
end DL
namespace DL
open PySem PySem.Spec L2
section
variable {u u1 u2 u3 : Nat} {X : Cx} {W : WC} {a b c e : Expr} {es : List Expr} {pos p : Pos} {ma mb mc me : ME} {mas : MA} {k : Nat}
theorem Ctx.blk (cx : Ctx X W k) {s : Shared} {H : Hp} {scope : Scope} {ce : PySem.Env} {fp : List Addr} : Ctx (X.blk s H scope ce fp) (W0 W) k := ⟨cx.gd, cx.hr, takes0⟩
theorem CtxU.blk (cx : CtxU X) {s : Shared} {H : Hp} {scope : Scope} {ce : PySem.Env} {fp : List Addr} : CtxU (X.blk s H scope ce fp) := ⟨cx.gd, cx.un⟩
theorem Ctx.passes {Y : Cx} {K : Value → Shared → Prop} {E₁ : Value → Shared → Prop} (hx : Y.xe = fun e s' => wpAny (model Y.prog Y.w) Y.A (leaving Y.env e) (fun _ s'' => K e s'') E₁ s') : PassesOwn (model Y.prog Y.w) Y.A Y.env Y.xe := passes_of hx
theorem dt_eq (cx : CtxU X) (ha : DE X W a ma u1) (hb : DE X W b mb u2) : DT X W (.Compare a [.Eq] [b] pos) (mB (mBin (oEq false) ma mb)) (u1 + u2) := dt_cmp (op_eqB cx.u64) o2_eq ha hb (nomark _)
theorem dt_ne (cx : CtxU X) (ha : DE X W a ma u1) (hb : DE X W b mb u2) : DT X W (.Compare a [.NotEq] [b] pos) (mB (mBin (oEq true) ma mb)) (u1 + u2) := dt_cmp (op_neB cx.u64) o2_eq ha hb (nomark _)
theorem dt_lt (ha : DE X W a ma u1) (hb : DE X W b mb u2) : DT X W (.Compare a [.Lt] [b] pos) (mB (mBin oLt ma mb)) (u1 + u2) := dt_cmp op_lt o2_C ha hb (nomark _)
theorem dt_le (ha : DE X W a ma u1) (hb : DE X W b mb u2) : DT X W (.Compare a [.LtE] [b] pos) (mB (mBin oLe ma mb)) (u1 + u2) := dt_cmp op_le o2_C ha hb (nomark _)
theorem dt_gt (ha : DE X W a ma u1) (hb : DE X W b mb u2) : DT X W (.Compare a [.Gt] [b] pos) (mB (mBin oGt ma mb)) (u1 + u2) := dt_cmp op_gt o2_C ha hb (nomark _)
theorem dt_ge (ha : DE X W a ma u1) (hb : DE X W b mb u2) : DT X W (.Compare a [.GtE] [b] pos) (mB (mBin oGe ma mb)) (u1 + u2) := dt_cmp op_ge o2_C ha hb (nomark _)
theorem de_ch {op op' : CmpOp} {f g : Int → Int → Bool} (h : OpR X (compareOp op) (rI0 fun i j => .bl (f i j))) (h' : OpR X (compareOp op') (rI0 fun i j => .bl (g i j))) (ha : DE X W a ma u1) (hb : DE X W b mb u2) (hc : DE X W c mc u3)
    (hm : lastMarks [op, op'] [b, c] = false := by with_unfolding_all rfl) : DE X W (.Compare a [op, op'] [b, c] pos) (mChain (oC f) (oC g) ma mb mc) (u1 + (u2 + u3)) :=
  ⟨PE.imp (pe_chain h h' ha.pe hb.pe hc.pe hm) fun σ H Q q => chain_lift o2_C o2_C oC_bool σ H Q q⟩
theorem dt_ch {op op' : CmpOp} {f g : Int → Int → Bool} (h : OpR X (compareOp op) (rI0 fun i j => .bl (f i j))) (h' : OpR X (compareOp op') (rI0 fun i j => .bl (g i j))) (ha : DE X W a ma u1) (hb : DE X W b mb u2) (hc : DE X W c mc u3)
    (hm : lastMarks [op, op'] [b, c] = false := by with_unfolding_all rfl) : DT X W (.Compare a [op, op'] [b, c] pos) (mB (mChain (oC f) (oC g) ma mb mc)) (u1 + (u2 + u3)) :=
  ⟨PT.imp (pt_chain h h' ha.pe hb.pe hc.pe hm) fun σ H Q q => by
    have q' := liftT_of σ H Q q
    exact chain_lift o2_C o2_C oC_bool σ H _ q'⟩
def tCallG (sp : Sp) (W : WX) (t : TA) : TE := fun σ H Q => t σ H fun vs H1 => sp vs H1 Q (WE W σ)
theorem pe_callG {sp : Sp} {t : TA} {f : Addr} {fd : FuncData} {ps : List Str} {j : Nat} {x : Str} {w : WX} (gd : X.A.guards = some []) (hr : Room j X.A) (tk : Takes X w) (F : FnG X.prog X.w X.K X.mg X.base k f fd ps sp) (hk : k ≤ j) (hm : X.mg x = some (.ref f)) (hkp : PySem.W.keepIn X.K (.ref f) = true) (hb : Binds X.K fd ps []) (hg : Gl X x) (ha : PA X (e :: es) t) (hdb : (x == ("__debug__" : Str)) = false := by decide)
    (he : starEach (e :: es) X.env = (false, eval e X.env) :: starEach es X.env := by rfl) (hpl : (backTo pos (starEach es X.env)).any (·.1) = false := by rfl) : PE X (.Call (.Name x p) (e :: es) [] pos) (tCallG sp w t) := by
  refine ⟨fun pins s σ H Q I h => ?_⟩
  refine wpAny_Call_Name_kw (ld_glob I hg hm ?_ hdb)
  exact PySem.W.callWith_K (h₀ := X.base) I.ok.mod.kin hkp (thn (ha.run pos pins s σ H _ I h) fun us s1 ⟨vs, H1, I1, r, q⟩ => ⟨I1.kIn, call_run (W := ⟨w, fun _ _ _ _ => True⟩) F gd (hr.mono hk) hb tk I1 r q⟩) he hpl
end
end DL
namespace DL
open PySem PySem.Spec L2
section
variable {u u1 u2 u3 : Nat} {X : Cx} {W : WC} {a b c e : Expr} {pos p : Pos} {mas : MA}
def downD (hi : Int) (n : Nat) : List PyData := (List.range n).map fun i => .int (hi - (i : Nat))
theorem downD_len {lo : Int} {n : Nat} : (downD lo n).length = n := by unfold downD; simp
theorem downD_get {lo : Int} {n i : Nat} : (downD lo n)[i]? = if i < n then some (.int (lo - (i : Nat))) else none := by
  unfold downD
  rw [List.getElem?_map]
  by_cases h : i < n
  · rw [List.getElem?_range h, if_pos h]; rfl
  · rw [List.getElem?_eq_none (by simpa using h), if_neg h]; rfl
theorem itc_ok (G : Gm) (lo : Int) (n : Nat) : ItOk G ⟨[], downD lo n⟩ [] (Itc lo (-1) n) := fun b i F A B A' B' H hA hB g => by
  refine ⟨fun h => by rw [downD_len] at h; exact h, fun d hd => ?_⟩
  rw [downD_get] at hd
  split at hd
  · rename_i hi
    cases hd
    refine ⟨hi, fun y H3 hy => ?_⟩
    obtain ⟨rfl, rfl⟩ := hy
    have e : lo + (i : Nat) * (-1 : Int) = lo - (i : Nat) := by omega
    rw [e]
    exact ⟨F, g.pushD (.int _)⟩
  · cases hd
def mR3 (t : MA) : MI := fun ex δ R => t ex δ fun xs => match xs with
  | [.d (.int i), .d (.int j), .d (.int c)] => c = -1 ∧ (-(2 ^ 62) ≤ i ∧ i < 2 ^ 62 ∧ -(2 ^ 62) ≤ j ∧ j < 2 ^ 62) ∧ R ⟨[], downD i (i - j).toNat⟩
  | _ => False
theorem di_range3 {tg : Expr} {p : Pos} (hg : Gl X "range") (hm : X.mg "range" = none) (ha : DA X W [a, b, c] mas u) (hs : starEach [a, b, c] X.env = (false, eval a X.env) :: starEach [b, c] X.env := by rfl)
    (hpl : (backTo pos (starEach [b, c] X.env)).any (·.1) = false := by rfl) :
    DI X W tg (.Call (.Name "range" p) [a, b, c] [] pos) (mR3 mas) u :=
  ⟨PI.imp (pi_range3 hg hm ha.pa hs hpl) fun σ H Q q => by
    obtain ⟨ex, G, F, δ, τ, ts, τ1, ts1, R, n, m, k⟩ := q
    refine ⟨ex, G, F, δ, τ, ts, τ1, ts1, _, n, m, fun xs hxs vs F1 H1 hl g1 => ?_⟩
    match xs, hxs, hl, g1 with
    | [.d (.int i), .d (.int j), .d (.int c)], hxs, hl, g1 =>
      obtain ⟨rfl, ⟨h1, h2, h3, h4⟩, hR⟩ := hxs
      obtain ⟨v, u, w, rfl, hv, hu, hw, g⟩ := three_of hl g1
      cases int_of hv
      cases int_of hu
      cases int_of hw
      exact ⟨i, j, -1, _, rfl, RgC.neg h1 h2 h3 h4, k _ hR [] F1 H1 _ rfl (by simpa using g) (itc_ok _ i _)⟩⟩
end
theorem Good.alloc {G : Gm} {F H : Hp} {δ : Env} {σ : L2.St} (g : Good G F δ σ H) {p : Addr} {o : HO} (hp : H p = none) : Good G F δ σ (upd H p o) := by
  have cp : ¬ G.C p := fun c => g.g.jn _ H g.jh p c hp
  have fp : F p = none := g.fresh hp
  refine ⟨g.g, g.len, g.f0, fun b u e => ?_, g.fr, fun b u c e => ?_, g.cf, g.g.js _ _ _ g.jh (fun b c => upd_ne (fun z => cp (z ▸ c))) (fun b x e => by rw [upd_ne (ne_of_none e hp)]; exact e), fun i z e => ?_, g.di⟩
  · rw [upd_ne (ne_of_none e fp)]
    exact g.fh _ _ e
  · have hb := g.bh _ _ c e
    rw [upd_ne (ne_of_none hb hp)]
    exact hb
  · obtain ⟨w, e', h⟩ := g.sl i z e
    exact ⟨w, e', h.keep (Same.refl F) (fun l vs _ _ hl => by rw [upd_ne (ne_of_none hl hp)]; exact hl) fun _ _ _ hl => hl⟩
theorem Good.base {G : Gm} {F H : Hp} {δ : Env} {σ : L2.St} (g : Good G F δ σ H) (hn : ∀ (i : Nat) (x : DV), δ[i]? = some (some x) → x.arg = true) : Good (G.into F H) F δ σ H := by
  refine ⟨⟨g.g.js, g.g.jm, g.g.jn, fun p c => g.g.jn _ H g.jh p c, g.g.jt⟩, g.len, Same.refl F, g.fh, fun p q1 q2 => absurd q2 q1, fun p o _ q => q, g.cf, g.jh, fun i x e => ?_, fun i j a b l hx _ e1 _ _ _ => ?_⟩
  · obtain ⟨v, e1, e2⟩ := g.sl i x e
    have hm := hn i x e
    refine ⟨v, e1, ?_⟩
    cases x with
    | d _ => exact e2
    | cask => exact e2
    | raw _ => exact e2
    | scr _ => exact e2
    | fvs _ _ => exact e2
    | _ => cases hm
  · have hm := hn i a e1
    cases a with
    | own _ => cases hm
    | odk _ => cases hm
    | olk _ _ => cases hm
    | odt _ _ => cases hm
    | ins _ _ _ => cases hm
    | _ => cases hx
theorem Good.draw {G : Gm} {F H H' : Hp} {δ : Env} {σ : L2.St} {k : Nat} (g : Good G F δ σ H) (hk : ∀ p, ¬ G.C p → ∀ o, H p = some o → H' p = some o) (hj : G.J (G.n + k) H') : Good (G.up k) F [] [] H' := by
  refine ⟨g.g.up k, rfl, g.f0, fun b u e => ?_, g.fr, fun b u c e => hk b c _ (g.bh _ _ c e), g.cf, hj, fun i z e => by simp at e, fun i j x y l _ _ e => by simp at e⟩
  have nc : ¬ G.C b := fun c => by rw [g.cf b c] at e; cases e
  exact hk b nc _ (g.fh _ _ e)
theorem good_script {K : PySem.W.Frag} {H : Hp} {a : Addr} {ns : List Int} (h : SqL K H a (ns.map V.int)) (k lim : Nat) :
    Good ⟨K, fun p => if p = a then H p else none, H, fun _ => False, .non, fun _ _ => True, 0, lim⟩ (fun p => if p = a then H p else none) (some (.scr ns) :: List.replicate k none) (some (.ref a) :: List.replicate k none) H := by
  refine ⟨⟨fun _ _ _ _ _ _ => trivial, fun _ _ _ _ _ => trivial, fun _ _ _ _ z => z.elim, fun _ z => z.elim, fun _ _ _ _ z => z.elim⟩, by simp, Same.refl _, fun b u e => ?_, fun p q1 q2 => absurd q2 q1, fun _ _ _ q => q, fun _ z => z.elim, trivial, fun i x e => ?_, fun i j x y l hx _ e1 _ _ _ => ?_⟩
  · have e' : (if b = a then H b else none) = some u := e
    split at e'
    · exact e'
    · cases e'
  · cases i with
    | zero =>
      cases e
      refine ⟨.ref a, rfl, a, rfl, ?_⟩
      have h' : SqL K (fun p => if p = a then H p else none) a (ns.map V.int) := by
        have e0 : (fun p => if p = a then H p else none) a = H a := if_pos rfl
        unfold SqL Rd at h ⊢
        rw [e0]
        exact h
      exact h'
    | succ i =>
      rw [List.getElem?_cons_succ, List.getElem?_replicate] at e
      split at e <;> cases e
  · cases i with
    | zero => cases e1; cases hx
    | succ i =>
      rw [List.getElem?_cons_succ, List.getElem?_replicate] at e1
      split at e1 <;> cases e1
theorem good_cask {G : Gm} {H : Hp} {i : Nat} {σ : L2.St} (hG : G.Ok) (h0 : G.F0 = fun _ => none) (hB : G.B = H) (hj : G.J G.n H) (hi : σ[i]? = some (some G.cv)) : Good G (fun _ => none) ((List.replicate σ.length none).set i (some .cask)) σ H := by
  have s0 : Same G.F0 (fun _ => none) := by rw [h0]; exact Same.refl _
  refine ⟨hG, by simp, s0, fun b u e => (nomatch e), fun p q => absurd rfl q, fun p o _ q => by rw [← hB]; exact q, fun _ _ => rfl, hj, fun j x e => ?_, fun a b x y l hx _ e1 _ _ _ => ?_⟩
  · rcases get_set e with ⟨q1, q2, _⟩ | ⟨_, q⟩
    · cases q2
      subst q1
      exact ⟨G.cv, hi, rfl⟩
    · rw [List.getElem?_replicate] at q
      split at q <;> cases q
  · rcases get_set e1 with ⟨_, q2, _⟩ | ⟨_, q⟩
    · cases q2; cases hx
    · rw [List.getElem?_replicate] at q
      split at q <;> cases q
section
variable {u1 : Nat} {X : Cx} {W : WC} {a b c : Expr} {pos : Pos} {mas : MA} {x y z : Str}
theorem ds_tup2 {i j : Nat} {px py pt pt2 : Pos} {kt k2 : _} (hc : X.calm = true) (hN : X.N.Nodup) (hi : X.N[i]? = some x) (hj : X.N[j]? = some y) (hij : i ≠ j) (hx : Loc X.env.scope x) (hy : Loc X.env.scope y) (ha : DA X W [a, b] mas u1)
    (hfx : X.fn x = true ∨ X.env.scope.names.lookup x = some .local := by first | exact .inl rfl | exact .inr rfl) (hfy : X.fn y = true ∨ X.env.scope.names.lookup y = some .local := by first | exact .inl rfl | exact .inr rfl)
    (hn : (assignEach [.Name x px, .Name y py] X.env).length = 2 := by rfl) (hst : (assignEach [.Name x px, .Name y py] X.env).findIdx? (·.1) = none := by rfl)
    (h1 : (assignEach [.Name x px, .Name y py] X.env).map (·.2) = assign (.Name x px) X.env :: (assignEach [.Name y py] X.env).map (·.2) := by rfl) (h2 : (assignEach [.Name y py] X.env).map (·.2) = assign (.Name y py) X.env :: (assignEach [] X.env).map (·.2) := by rfl)
    (hs : swapsWithSole [.Tuple [.Name x px, .Name y py] kt pt] (.Tuple [a, b] k2 pt2) pos.line X.env = pure false := by rfl) (hw : swappedStores [.Tuple [.Name x px, .Name y py] kt pt] (.Tuple [a, b] k2 pt2) X.env = pure none := by rfl)
    (h0 : (assignEach [.Tuple [.Name x px, .Name y py] kt pt] X.env).map (·.2) = [assign (.Tuple [.Name x px, .Name y py] kt pt) X.env] := by rfl) :
    DS X W (.Assign [.Tuple [.Name x px, .Name y py] kt pt] (.Tuple [a, b] k2 pt2) pos) (mPar2 i j mas) u1 :=
  ⟨PS.imp (ps_asg (pe_tup ha.pa) (pg_tup hc (pgs_cons (pg_name hN hi hx hfx) (pgs_cons (pg_name hN hj hy hfy) pgs_nil h2) h1) hn hst) hs hw h0) fun D σ H q => by
    obtain ⟨ex, G, F, δ, τ, ts, E, n, nb, eo, h⟩ := q
    refine ⟨ex, G, F, δ, τ, ts, [], [], _, n, h, fun xs hxs vs F1 H1 hl g1 => ?_⟩
    match xs, hxs, hl, g1 with
    | [x, y], hxs, hl, g1 =>
      obtain ⟨q1, q2, q3, q4, q5⟩ := hxs
      match vs, hl, g1 with
      | [v, u], hl, g1 =>
        refine ⟨by show 2 ≤ sizeLine; decide, fun p hp => ⟨p, [v, u], rfl, SqT.of upd_same, rfl, v, [u], rfl, u, [], rfl, rfl, ?_⟩⟩
        have l1 := n.l1
        have g : Good (G.up u1) F1 (δ ++ (τ ++ [some x]) ++ [some y]) (σ ++ (ts ++ [some v]) ++ [some u]) (upd H1 p (.tup [v, u])) := by
          have := g1.alloc (o := .tup [v, u]) hp
          simpa using this
        have g2 : Good (G.up u1) F1 (δ.set j (some y) ++ τ ++ [some x]) (σ.set j (some u) ++ ts ++ [some v]) (upd H1 p (.tup [v, u])) := by
          have := setTop2 l1 q4 g
          simpa only [List.append_assoc] using this
        have g3 := setTop2 (by simpa using l1) (j := i) (by simpa using q3) g2
        rw [List.set_comm _ _ (Ne.symm hij), List.set_comm _ _ (Ne.symm hij)] at g3
        refine eo.nx _ q5 _ _ F1 _ (Nat.le_refl _) (by simpa using l1) ?_ g3
        exact nb_mk (noBor_set (noBor_set (nb_left nb) q1) q2) (nb_right nb)⟩
theorem ds_tup3 {i j l : Nat} {px py pz pt pt2 : Pos} {kt k2 : _} (hc : X.calm = true) (hN : X.N.Nodup) (hi : X.N[i]? = some x) (hj : X.N[j]? = some y) (hl : X.N[l]? = some z) (hij : i ≠ j) (hil : i ≠ l) (hjl : j ≠ l) (hx : Loc X.env.scope x) (hy : Loc X.env.scope y) (hz : Loc X.env.scope z) (ha : DA X W [a, b, c] mas u1)
    (hfx : X.fn x = true ∨ X.env.scope.names.lookup x = some .local := by first | exact .inl rfl | exact .inr rfl) (hfy : X.fn y = true ∨ X.env.scope.names.lookup y = some .local := by first | exact .inl rfl | exact .inr rfl) (hfz : X.fn z = true ∨ X.env.scope.names.lookup z = some .local := by first | exact .inl rfl | exact .inr rfl)
    (hn : (assignEach [.Name x px, .Name y py, .Name z pz] X.env).length = 3 := by rfl) (hst : (assignEach [.Name x px, .Name y py, .Name z pz] X.env).findIdx? (·.1) = none := by rfl)
    (h1 : (assignEach [.Name x px, .Name y py, .Name z pz] X.env).map (·.2) = assign (.Name x px) X.env :: (assignEach [.Name y py, .Name z pz] X.env).map (·.2) := by rfl) (h2 : (assignEach [.Name y py, .Name z pz] X.env).map (·.2) = assign (.Name y py) X.env :: (assignEach [.Name z pz] X.env).map (·.2) := by rfl)
    (h3 : (assignEach [.Name z pz] X.env).map (·.2) = assign (.Name z pz) X.env :: (assignEach [] X.env).map (·.2) := by rfl)
    (hs : swapsWithSole [.Tuple [.Name x px, .Name y py, .Name z pz] kt pt] (.Tuple [a, b, c] k2 pt2) pos.line X.env = pure false := by rfl) (hw : swappedStores [.Tuple [.Name x px, .Name y py, .Name z pz] kt pt] (.Tuple [a, b, c] k2 pt2) X.env = pure none := by rfl)
    (h0 : (assignEach [.Tuple [.Name x px, .Name y py, .Name z pz] kt pt] X.env).map (·.2) = [assign (.Tuple [.Name x px, .Name y py, .Name z pz] kt pt) X.env] := by rfl) :
    DS X W (.Assign [.Tuple [.Name x px, .Name y py, .Name z pz] kt pt] (.Tuple [a, b, c] k2 pt2) pos) (mPar3 i j l mas) u1 :=
  ⟨PS.imp (ps_asg (pe_tup ha.pa) (pg_tup hc (pgs_cons (pg_name hN hi hx hfx) (pgs_cons (pg_name hN hj hy hfy) (pgs_cons (pg_name hN hl hz hfz) pgs_nil h3) h2) h1) hn hst) hs hw h0) fun D σ H q => by
    obtain ⟨ex, G, F, δ, τ, ts, E, n, nb, eo, h⟩ := q
    refine ⟨ex, G, F, δ, τ, ts, [], [], _, n, h, fun xs hxs vs F1 H1 hln g1 => ?_⟩
    match xs, hxs, hln, g1 with
    | [x, y, z], hxs, hln, g1 =>
      obtain ⟨q1, q2, q3, q4, q5, q6, q7⟩ := hxs
      match vs, hln, g1 with
      | [v, u, w], hln, g1 =>
        refine ⟨by show 3 ≤ sizeLine; decide, fun p hp => ⟨p, [v, u, w], rfl, SqT.of upd_same, rfl, v, [u, w], rfl, u, [w], rfl, w, [], rfl, rfl, ?_⟩⟩
        have l1 := n.l1
        have g : Good (G.up u1) F1 (δ ++ (τ ++ [some x] ++ [some y]) ++ [some z]) (σ ++ (ts ++ [some v] ++ [some u]) ++ [some w]) (upd H1 p (.tup [v, u, w])) := by
          have := g1.alloc (o := .tup [v, u, w]) hp
          simpa using this
        have g2 : Good (G.up u1) F1 (δ.set l (some z) ++ (τ ++ [some x]) ++ [some y]) (σ.set l (some w) ++ (ts ++ [some v]) ++ [some u]) (upd H1 p (.tup [v, u, w])) := by
          have := setTop2 l1 q6 g
          simpa only [List.append_assoc] using this
        have g3 : Good (G.up u1) F1 ((δ.set l (some z)).set j (some y) ++ τ ++ [some x]) ((σ.set l (some w)).set j (some u) ++ ts ++ [some v]) (upd H1 p (.tup [v, u, w])) := by
          have := setTop2 (by simpa using l1) (j := j) (by simpa using q5) g2
          simpa only [List.append_assoc] using this
        have g4 := setTop2 (by simpa using l1) (j := i) (by simpa using q4) g3
        have perm : ∀ {α : Type} (s : List α) (p q r : α), ((s.set l r).set j q).set i p = ((s.set i p).set j q).set l r := fun s p q r => by
          rw [List.set_comm _ _ (Ne.symm hij), List.set_comm r p (Ne.symm hil), List.set_comm _ _ (Ne.symm hjl)]
        rw [perm, perm] at g4
        refine eo.nx _ q7 _ _ F1 _ (Nat.le_refl _) (by simpa using l1) ?_ g4
        exact nb_mk (noBor_set (noBor_set (noBor_set (nb_left nb) q1) q2) q3) (nb_right nb)⟩
end
end DL
namespace DL
open PySem PySem.Spec L2
section
variable {u : Nat} {X : Cx} {W : WC} {a : Expr} {pos p p2 pos2 : Pos} {me : ME}
def mRev (me : ME) : MI := fun ex δ R => me ex δ fun x => match x with
  | .d (.int j) => -(2 ^ 62) ≤ j ∧ j < 2 ^ 62 ∧ R ⟨[], downD ((j.toNat : Nat) - 1) j.toNat⟩
  | _ => False
theorem di_rev {tg : Expr} (hg : Gl X "reversed") (hm : X.mg "reversed" = none) (hgr : Gl X "range") (hmr : X.mg "range" = none) (h : DE X W a me u) (na : starEach [a] X.env = (false, eval a X.env) :: starEach [] X.env := by rfl)
    (hs : starEach [.Call (.Name "range" p2) [a] [] pos2] X.env = (false, eval (.Call (.Name "range" p2) [a] [] pos2) X.env) :: starEach [] X.env := by rfl) : DI X W tg (.Call (.Name "reversed" p) [.Call (.Name "range" p2) [a] [] pos2] [] pos) (mRev me) u :=
  ⟨PI.imp (pi_revR hg hm (prg_1 hgr hmr h.pe na) hs) fun σ H Q q => by
    obtain ⟨ex, G, F, δ, τ, ts, τ1, ts1, R, n, m, k⟩ := q
    refine ⟨ex, G, F, δ, τ, ts, τ1, ts1, _, n, m, fun x hx v F1 H1 g1 => ?_⟩
    match x, hx, g1 with
    | .d (.int j), hx, g1 =>
      obtain ⟨h1, h2, hR⟩ := hx
      cases int_of g1.top
      refine ⟨j, rfl, by decide, by decide, h1, h2, ?_⟩
      have e1 : (0 : Int) + (((j - 0).toNat : Nat) : Int) - 1 = ((j.toNat : Nat) : Int) - 1 := by rw [Int.sub_zero, Int.zero_add]
      rw [e1, Int.sub_zero]
      exact k _ hR [] F1 H1 _ rfl (by simpa using g1.pop) (itc_ok _ _ _)⟩
end
end DL
namespace DL
open PySem PySem.Spec L2
theorem ge0 {α : Type} {a : α} {l : List α} : (a :: l)[0]? = some a := rfl
theorem ges {α : Type} {a : α} {l : List α} {n : Nat} : (a :: l)[n + 1]? = l[n]? := List.getElem?_cons_succ
theorem all_nil' {α : Type} {p : α → Prop} : (∀ x ∈ ([] : List α), p x) = True := by simp
theorem tf_t {A B : Prop} : ((true = true → A) ∧ (true = false → B)) = A := by simp
theorem tf_f {A B : Prop} : ((false = true → A) ∧ (false = false → B)) = B := by simp
theorem tf1 {A : Prop} : (true = true → A) = A := by simp
theorem tf2 {A : Prop} : (false = true → A) = True := by simp
theorem tf3 {A : Prop} : (true = false → A) = True := by simp
theorem tf4 {A : Prop} : (false = false → A) = A := by simp
section
variable {x y : PyData} {xs ys : List PyData} {i j : Int} {s t : Str} {b : Bool} {ns : List Int} {R : DV → Prop}
theorem val_d : (DV.val (.d x)) = (some x) := rfl
theorem val_o : (DV.val (.own xs)) = (some (.list xs)) := rfl
theorem seen_d : (DV.seen (.d x)) = (.d x) := rfl
theorem seen_o : (DV.seen (.own xs)) = (.bor xs) := rfl
theorem seen_b : (DV.seen (.bor xs)) = (.bor xs) := rfl
theorem seen_c : (DV.seen .cask) = (.cask) := rfl
theorem seen_s : (DV.seen (.scr ns)) = (.scr ns) := rfl
theorem fix_d : (DV.fix (.d x)) = (.d x) := rfl
theorem fix_o : (DV.fix (.own xs)) = (.d (.list xs)) := rfl
theorem fix_b : (DV.fix (.bor xs)) = (.d (.list xs)) := rfl
theorem fix_c : (DV.fix .cask) = (.cask) := rfl
theorem isBor_d : (DV.isBor (.d x)) = (false) := rfl
theorem isBor_o : (DV.isBor (.own xs)) = (false) := rfl
theorem isBor_b : (DV.isBor (.bor xs)) = (true) := rfl
theorem isBor_c : (DV.isBor .cask) = (false) := rfl
theorem isBor_s : (DV.isBor (.scr ns)) = (false) := rfl
variable {Rb : Bool → Prop}
theorem tru_b : (DV.tru (.d (.bool b)) Rb) = (Rb b) := rfl
theorem lst_dl : (DV.lst (.d (.list xs))) = (some xs) := rfl
theorem rd_dl : (DV.rd (.d (.list xs))) = (some xs) := rfl
theorem lst_o : (DV.lst (.own xs)) = (some xs) := rfl
theorem rd_o : (DV.rd (.own xs)) = (some xs) := rfl
theorem lst_b : (DV.lst (.bor xs)) = (some xs) := rfl
theorem rd_b : (DV.rd (.bor xs)) = (some xs) := rfl
theorem seq_dl : (DV.seq (.d (.list xs))) = (some xs) := rfl
theorem seq_dt : (DV.seq (.d (.tuple xs))) = (some xs) := rfl
theorem seq_o : (DV.seq (.own xs)) = (some xs) := rfl
theorem seq_b : (DV.seq (.bor xs)) = (some xs) := rfl
theorem rd_s : (DV.rd (.scr ns)) = (some (ns.map .int)) := rfl
theorem pd_d : (DV.pd (.d x)) = (some x) := rfl
theorem pd_o : (DV.pd (.own xs)) = (some (.list xs)) := rfl
theorem pd_b : (DV.pd (.bor xs)) = (some (.list xs)) := rfl
variable {C : Int → Int → Prop} {f : Int → Int → Int} {g : Int → Int → Bool}
theorem oI_i : (oI C f (.d (.int i)) (.d (.int j)) R) = (C i j ∧ R (.d (.int (f i j)))) := rfl
theorem oC_i : (oC g (.d (.int i)) (.d (.int j)) R) = (R (.d (.bool (g i j)))) := rfl
theorem oAdd_i : (oAdd (.d (.int i)) (.d (.int j)) R) = (R (.d (.int (i + j)))) := rfl
theorem oAdd_s : (oAdd (.d (.str s)) (.d (.str t)) R) = (s.length + t.length ≤ sizeLine ∧ R (.d (.str (s ++ t)))) := rfl
theorem oAdd_t : (oAdd (.d (.tuple xs)) (.d (.tuple ys)) R) = (xs.length + ys.length ≤ sizeLine ∧ R (.d (.tuple (xs ++ ys)))) := rfl
theorem oAdd_ll : (oAdd (.d (.list xs)) (.d (.list ys)) R) = (xs.length + ys.length ≤ sizeLine ∧ R (.own (xs ++ ys))) := rfl
theorem oAdd_lo : (oAdd (.d (.list xs)) (.own ys) R) = (xs.length + ys.length ≤ sizeLine ∧ R (.own (xs ++ ys))) := rfl
theorem oAdd_lb : (oAdd (.d (.list xs)) (.bor ys) R) = (xs.length + ys.length ≤ sizeLine ∧ R (.own (xs ++ ys))) := rfl
theorem oAdd_ol : (oAdd (.own xs) (.d (.list ys)) R) = (xs.length + ys.length ≤ sizeLine ∧ R (.own (xs ++ ys))) := rfl
theorem oAdd_oo : (oAdd (.own xs) (.own ys) R) = (xs.length + ys.length ≤ sizeLine ∧ R (.own (xs ++ ys))) := rfl
theorem oAdd_ob : (oAdd (.own xs) (.bor ys) R) = (xs.length + ys.length ≤ sizeLine ∧ R (.own (xs ++ ys))) := rfl
theorem oAdd_bl : (oAdd (.bor xs) (.d (.list ys)) R) = (xs.length + ys.length ≤ sizeLine ∧ R (.own (xs ++ ys))) := rfl
theorem oAdd_bo : (oAdd (.bor xs) (.own ys) R) = (xs.length + ys.length ≤ sizeLine ∧ R (.own (xs ++ ys))) := rfl
theorem oAdd_bb : (oAdd (.bor xs) (.bor ys) R) = (xs.length + ys.length ≤ sizeLine ∧ R (.own (xs ++ ys))) := rfl
theorem oMul_i : (oMul (.d (.int i)) (.d (.int j)) R) = (CMul i j ∧ R (.d (.int (i * j)))) := rfl
theorem oMul_l : (oMul (.d (.list xs)) (.d (.int j)) R) = (-(2 ^ 63) ≤ j ∧ j < 2 ^ 63 ∧ xs.length * j.toNat ≤ sizeLine ∧ R (.own (List.replicate j.toNat xs).flatten)) := rfl
theorem oMul_o : (oMul (.own xs) (.d (.int j)) R) = (-(2 ^ 63) ≤ j ∧ j < 2 ^ 63 ∧ xs.length * j.toNat ≤ sizeLine ∧ R (.own (List.replicate j.toNat xs).flatten)) := rfl
theorem oMul_b : (oMul (.bor xs) (.d (.int j)) R) = (-(2 ^ 63) ≤ j ∧ j < 2 ^ 63 ∧ xs.length * j.toNat ≤ sizeLine ∧ R (.own (List.replicate j.toNat xs).flatten)) := rfl
theorem oNeg_i : (oNeg (.d (.int i)) R) = (R (.d (.int (-i)))) := rfl
theorem oIn_dtf : (oIn false (.d x) (.d (.tuple ys)) R) = (SeqAt.shaped (x) = true ∧ SeqAt.shaped (.list ys) = true ∧ R (.d (.bool ((ys.any fun z => PyData.eqv z (x)))))) := rfl
theorem oIn_dtt : (oIn true (.d x) (.d (.tuple ys)) R) = (SeqAt.shaped (x) = true ∧ SeqAt.shaped (.list ys) = true ∧ R (.d (.bool (!(ys.any fun z => PyData.eqv z (x)))))) := rfl
theorem oIn_dlf : (oIn false (.d x) (.d (.list ys)) R) = (SeqAt.shaped (x) = true ∧ SeqAt.shaped (.list ys) = true ∧ R (.d (.bool ((ys.any fun z => PyData.eqv z (x)))))) := rfl
theorem oIn_dlt : (oIn true (.d x) (.d (.list ys)) R) = (SeqAt.shaped (x) = true ∧ SeqAt.shaped (.list ys) = true ∧ R (.d (.bool (!(ys.any fun z => PyData.eqv z (x)))))) := rfl
theorem oIn_dof : (oIn false (.d x) (.own ys) R) = (SeqAt.shaped (x) = true ∧ SeqAt.shaped (.list ys) = true ∧ R (.d (.bool ((ys.any fun z => PyData.eqv z (x)))))) := rfl
theorem oIn_dot : (oIn true (.d x) (.own ys) R) = (SeqAt.shaped (x) = true ∧ SeqAt.shaped (.list ys) = true ∧ R (.d (.bool (!(ys.any fun z => PyData.eqv z (x)))))) := rfl
theorem oIn_dbf : (oIn false (.d x) (.bor ys) R) = (SeqAt.shaped (x) = true ∧ SeqAt.shaped (.list ys) = true ∧ R (.d (.bool ((ys.any fun z => PyData.eqv z (x)))))) := rfl
theorem oIn_dbt : (oIn true (.d x) (.bor ys) R) = (SeqAt.shaped (x) = true ∧ SeqAt.shaped (.list ys) = true ∧ R (.d (.bool (!(ys.any fun z => PyData.eqv z (x)))))) := rfl
theorem oIn_otf : (oIn false (.own xs) (.d (.tuple ys)) R) = (SeqAt.shaped (.list xs) = true ∧ SeqAt.shaped (.list ys) = true ∧ R (.d (.bool ((ys.any fun z => PyData.eqv z (.list xs)))))) := rfl
theorem oIn_ott : (oIn true (.own xs) (.d (.tuple ys)) R) = (SeqAt.shaped (.list xs) = true ∧ SeqAt.shaped (.list ys) = true ∧ R (.d (.bool (!(ys.any fun z => PyData.eqv z (.list xs)))))) := rfl
theorem oIn_olf : (oIn false (.own xs) (.d (.list ys)) R) = (SeqAt.shaped (.list xs) = true ∧ SeqAt.shaped (.list ys) = true ∧ R (.d (.bool ((ys.any fun z => PyData.eqv z (.list xs)))))) := rfl
theorem oIn_olt : (oIn true (.own xs) (.d (.list ys)) R) = (SeqAt.shaped (.list xs) = true ∧ SeqAt.shaped (.list ys) = true ∧ R (.d (.bool (!(ys.any fun z => PyData.eqv z (.list xs)))))) := rfl
theorem oIn_oof : (oIn false (.own xs) (.own ys) R) = (SeqAt.shaped (.list xs) = true ∧ SeqAt.shaped (.list ys) = true ∧ R (.d (.bool ((ys.any fun z => PyData.eqv z (.list xs)))))) := rfl
theorem oIn_oot : (oIn true (.own xs) (.own ys) R) = (SeqAt.shaped (.list xs) = true ∧ SeqAt.shaped (.list ys) = true ∧ R (.d (.bool (!(ys.any fun z => PyData.eqv z (.list xs)))))) := rfl
theorem oIn_obf : (oIn false (.own xs) (.bor ys) R) = (SeqAt.shaped (.list xs) = true ∧ SeqAt.shaped (.list ys) = true ∧ R (.d (.bool ((ys.any fun z => PyData.eqv z (.list xs)))))) := rfl
theorem oIn_obt : (oIn true (.own xs) (.bor ys) R) = (SeqAt.shaped (.list xs) = true ∧ SeqAt.shaped (.list ys) = true ∧ R (.d (.bool (!(ys.any fun z => PyData.eqv z (.list xs)))))) := rfl
theorem oIn_btf : (oIn false (.bor xs) (.d (.tuple ys)) R) = (SeqAt.shaped (.list xs) = true ∧ SeqAt.shaped (.list ys) = true ∧ R (.d (.bool ((ys.any fun z => PyData.eqv z (.list xs)))))) := rfl
theorem oIn_btt : (oIn true (.bor xs) (.d (.tuple ys)) R) = (SeqAt.shaped (.list xs) = true ∧ SeqAt.shaped (.list ys) = true ∧ R (.d (.bool (!(ys.any fun z => PyData.eqv z (.list xs)))))) := rfl
theorem oIn_blf : (oIn false (.bor xs) (.d (.list ys)) R) = (SeqAt.shaped (.list xs) = true ∧ SeqAt.shaped (.list ys) = true ∧ R (.d (.bool ((ys.any fun z => PyData.eqv z (.list xs)))))) := rfl
theorem oIn_blt : (oIn true (.bor xs) (.d (.list ys)) R) = (SeqAt.shaped (.list xs) = true ∧ SeqAt.shaped (.list ys) = true ∧ R (.d (.bool (!(ys.any fun z => PyData.eqv z (.list xs)))))) := rfl
theorem oIn_bof : (oIn false (.bor xs) (.own ys) R) = (SeqAt.shaped (.list xs) = true ∧ SeqAt.shaped (.list ys) = true ∧ R (.d (.bool ((ys.any fun z => PyData.eqv z (.list xs)))))) := rfl
theorem oIn_bot : (oIn true (.bor xs) (.own ys) R) = (SeqAt.shaped (.list xs) = true ∧ SeqAt.shaped (.list ys) = true ∧ R (.d (.bool (!(ys.any fun z => PyData.eqv z (.list xs)))))) := rfl
theorem oIn_bbf : (oIn false (.bor xs) (.bor ys) R) = (SeqAt.shaped (.list xs) = true ∧ SeqAt.shaped (.list ys) = true ∧ R (.d (.bool ((ys.any fun z => PyData.eqv z (.list xs)))))) := rfl
theorem oIn_bbt : (oIn true (.bor xs) (.bor ys) R) = (SeqAt.shaped (.list xs) = true ∧ SeqAt.shaped (.list ys) = true ∧ R (.d (.bool (!(ys.any fun z => PyData.eqv z (.list xs)))))) := rfl
theorem oIx_t : (oIx (.d (.tuple xs)) (.d (.int i)) R) = (match atI xs i with | some d => R (.d d) | none => False) := rfl
theorem oLen_t : (oLen (.d (.tuple xs)) R) = (R (.d (.int xs.length))) := rfl
theorem oList_t : (oList (.d (.tuple xs)) R) = (R (.own xs)) := rfl
theorem oIx_l : (oIx (.d (.list xs)) (.d (.int i)) R) = (match atI xs i with | some d => R (.d d) | none => False) := rfl
theorem oLen_l : (oLen (.d (.list xs)) R) = (R (.d (.int xs.length))) := rfl
theorem oList_l : (oList (.d (.list xs)) R) = (R (.own xs)) := rfl
theorem oIx_o : (oIx (.own xs) (.d (.int i)) R) = (match atI xs i with | some d => R (.d d) | none => False) := rfl
theorem oLen_o : (oLen (.own xs) R) = (R (.d (.int xs.length))) := rfl
theorem oList_o : (oList (.own xs) R) = (R (.own xs)) := rfl
theorem oIx_b : (oIx (.bor xs) (.d (.int i)) R) = (match atI xs i with | some d => R (.d d) | none => False) := rfl
theorem oLen_b : (oLen (.bor xs) R) = (R (.d (.int xs.length))) := rfl
theorem oList_b : (oList (.bor xs) R) = (R (.own xs)) := rfl
theorem oLen_s : (oLen (.scr ns) R) = (R (.d (.int ns.length))) := rfl
theorem oLen_x : (oLen (.d (.str s)) R) = (s.length ≤ sizeLine ∧ R (.d (.int s.length))) := rfl
theorem oMax2_i : (oMax2 (.d (.int i)) (.d (.int j)) R) = (R (.d (.int (if j > i then j else i)))) := rfl
theorem oMin2_i : (oMin2 (.d (.int i)) (.d (.int j)) R) = (R (.d (.int (if j < i then j else i)))) := rfl
theorem oTuple_t : (oTuple (.d (.tuple xs)) R) = (R (.d (.tuple xs))) := rfl
theorem oTuple_l : (oTuple (.d (.list xs)) R) = (R (.d (.tuple xs))) := rfl
theorem oTuple_o : (oTuple (.own xs) R) = (R (.d (.tuple xs))) := rfl
theorem oTuple_b : (oTuple (.bor xs) R) = (R (.d (.tuple xs))) := rfl
variable {o : List Int → (DV → Prop) → Prop}
theorem oIsi_d {T : String} : (oIsi (.d x) (.raw (.ty T)) R) = (T ∈ tys ∧ R (.d (.bool (isTy (x) T)))) := rfl
theorem oIsi_o {T : String} : (oIsi (.own xs) (.raw (.ty T)) R) = (T ∈ tys ∧ R (.d (.bool (isTy (.list xs) T)))) := rfl
theorem oIsi_b {T : String} : (oIsi (.bor xs) (.raw (.ty T)) R) = (T ∈ tys ∧ R (.d (.bool (isTy (.list xs) T)))) := rfl
variable {lo hi : Option Int}
theorem oSl_t : (oSl (.d (.tuple xs)) lo hi R) = (R (.d (.tuple (cutD xs lo hi)))) := rfl
theorem oSl_l : (oSl (.d (.list xs)) lo hi R) = (R (.own (cutD xs lo hi))) := rfl
theorem oSl_o : (oSl (.own xs) lo hi R) = (R (.own (cutD xs lo hi))) := rfl
theorem oSl_b : (oSl (.bor xs) lo hi R) = (R (.own (cutD xs lo hi))) := rfl
theorem oSl_s : (oSl (.scr ns) lo hi R) = (R (.own (cutD (ns.map .int) lo hi))) := rfl
theorem oBack_t : (oBack (.d (.tuple xs)) R) = (R (.d (.tuple xs.reverse))) := rfl
theorem oBack_l : (oBack (.d (.list xs)) R) = (R (.own xs.reverse)) := rfl
theorem oBack_o : (oBack (.own xs) R) = (R (.own xs.reverse)) := rfl
theorem oBack_b : (oBack (.bor xs) R) = (R (.own xs.reverse)) := rfl
end
theorem at0 {a : PyData} {l : List PyData} : atI (a :: l) 0 = some a := atI_nat (j := 0) rfl
theorem at1 {a b : PyData} {l : List PyData} : atI (a :: b :: l) 1 = some b := atI_nat (j := 1) rfl
theorem at2 {a b c : PyData} {l : List PyData} : atI (a :: b :: c :: l) 2 = some c := atI_nat (j := 2) rfl
theorem ixN_nat {n s : Nat} (h : s < n) : ixN n (s : Nat) = some s := by
  unfold ixN
  rw [if_pos (by omega), if_pos (by omega)]
  simp
theorem oI_T {f : Int → Int → Int} {i j : Int} {R : DV → Prop} : (oI (fun _ _ => True) f (.d (.int i)) (.d (.int j)) R) = (R (.d (.int (f i j)))) := by simp [oI]
section
variable {x y : PyData} {xs ys : List PyData} {i : Int} {b : Bool} {s t : Str} {kv : List (PyData × PyData)} {R : DV → Prop}
theorem oEq_ssf : (oEq false (.d (.str s)) (.d (.str t)) R) = (R (.d (.bool (PyData.eqv (.str s) (.str t))))) := rfl
theorem oEq_ndf : (oEq false (.d (.none)) (.d y) R) = (SeqAt.shaped (.none) = true ∧ SeqAt.shaped (y) = true ∧ R (.d (.bool (PyData.eqv (.none) (y))))) := rfl
theorem oEq_nof : (oEq false (.d (.none)) (.own ys) R) = (SeqAt.shaped (.none) = true ∧ SeqAt.shaped (.list ys) = true ∧ R (.d (.bool (PyData.eqv (.none) (.list ys))))) := rfl
theorem oEq_nrf : (oEq false (.d (.none)) (.bor ys) R) = (SeqAt.shaped (.none) = true ∧ SeqAt.shaped (.list ys) = true ∧ R (.d (.bool (PyData.eqv (.none) (.list ys))))) := rfl
theorem oEq_dnf : (oEq false (.d x) (.d (.none)) R) = (SeqAt.shaped (x) = true ∧ SeqAt.shaped (.none) = true ∧ R (.d (.bool (PyData.eqv (x) (.none))))) := by cases x <;> rfl
theorem oEq_bdf : (oEq false (.d (.bool b)) (.d y) R) = (SeqAt.shaped (.bool b) = true ∧ SeqAt.shaped (y) = true ∧ R (.d (.bool (PyData.eqv (.bool b) (y))))) := rfl
theorem oEq_bof : (oEq false (.d (.bool b)) (.own ys) R) = (SeqAt.shaped (.bool b) = true ∧ SeqAt.shaped (.list ys) = true ∧ R (.d (.bool (PyData.eqv (.bool b) (.list ys))))) := rfl
theorem oEq_brf : (oEq false (.d (.bool b)) (.bor ys) R) = (SeqAt.shaped (.bool b) = true ∧ SeqAt.shaped (.list ys) = true ∧ R (.d (.bool (PyData.eqv (.bool b) (.list ys))))) := rfl
theorem oEq_dbf : (oEq false (.d x) (.d (.bool b)) R) = (SeqAt.shaped (x) = true ∧ SeqAt.shaped (.bool b) = true ∧ R (.d (.bool (PyData.eqv (x) (.bool b))))) := by cases x <;> rfl
theorem oEq_idf : (oEq false (.d (.int i)) (.d y) R) = (SeqAt.shaped (.int i) = true ∧ SeqAt.shaped (y) = true ∧ R (.d (.bool (PyData.eqv (.int i) (y))))) := rfl
theorem oEq_iof : (oEq false (.d (.int i)) (.own ys) R) = (SeqAt.shaped (.int i) = true ∧ SeqAt.shaped (.list ys) = true ∧ R (.d (.bool (PyData.eqv (.int i) (.list ys))))) := rfl
theorem oEq_irf : (oEq false (.d (.int i)) (.bor ys) R) = (SeqAt.shaped (.int i) = true ∧ SeqAt.shaped (.list ys) = true ∧ R (.d (.bool (PyData.eqv (.int i) (.list ys))))) := rfl
theorem oEq_dif : (oEq false (.d x) (.d (.int i)) R) = (SeqAt.shaped (x) = true ∧ SeqAt.shaped (.int i) = true ∧ R (.d (.bool (PyData.eqv (x) (.int i))))) := by cases x <;> rfl
theorem oEq_ldf : (oEq false (.d (.list xs)) (.d y) R) = (SeqAt.shaped (.list xs) = true ∧ SeqAt.shaped (y) = true ∧ R (.d (.bool (PyData.eqv (.list xs) (y))))) := rfl
theorem oEq_lof : (oEq false (.d (.list xs)) (.own ys) R) = (SeqAt.shaped (.list xs) = true ∧ SeqAt.shaped (.list ys) = true ∧ R (.d (.bool (PyData.eqv (.list xs) (.list ys))))) := rfl
theorem oEq_lrf : (oEq false (.d (.list xs)) (.bor ys) R) = (SeqAt.shaped (.list xs) = true ∧ SeqAt.shaped (.list ys) = true ∧ R (.d (.bool (PyData.eqv (.list xs) (.list ys))))) := rfl
theorem oEq_dlf : (oEq false (.d x) (.d (.list xs)) R) = (SeqAt.shaped (x) = true ∧ SeqAt.shaped (.list xs) = true ∧ R (.d (.bool (PyData.eqv (x) (.list xs))))) := by cases x <;> rfl
theorem oEq_tdf : (oEq false (.d (.tuple xs)) (.d y) R) = (SeqAt.shaped (.tuple xs) = true ∧ SeqAt.shaped (y) = true ∧ R (.d (.bool (PyData.eqv (.tuple xs) (y))))) := rfl
theorem oEq_tof : (oEq false (.d (.tuple xs)) (.own ys) R) = (SeqAt.shaped (.tuple xs) = true ∧ SeqAt.shaped (.list ys) = true ∧ R (.d (.bool (PyData.eqv (.tuple xs) (.list ys))))) := rfl
theorem oEq_trf : (oEq false (.d (.tuple xs)) (.bor ys) R) = (SeqAt.shaped (.tuple xs) = true ∧ SeqAt.shaped (.list ys) = true ∧ R (.d (.bool (PyData.eqv (.tuple xs) (.list ys))))) := rfl
theorem oEq_dtf : (oEq false (.d x) (.d (.tuple xs)) R) = (SeqAt.shaped (x) = true ∧ SeqAt.shaped (.tuple xs) = true ∧ R (.d (.bool (PyData.eqv (x) (.tuple xs))))) := by cases x <;> rfl
theorem oEq_kdf : (oEq false (.d (.dict kv)) (.d y) R) = (SeqAt.shaped (.dict kv) = true ∧ SeqAt.shaped (y) = true ∧ R (.d (.bool (PyData.eqv (.dict kv) (y))))) := rfl
theorem oEq_kof : (oEq false (.d (.dict kv)) (.own ys) R) = (SeqAt.shaped (.dict kv) = true ∧ SeqAt.shaped (.list ys) = true ∧ R (.d (.bool (PyData.eqv (.dict kv) (.list ys))))) := rfl
theorem oEq_krf : (oEq false (.d (.dict kv)) (.bor ys) R) = (SeqAt.shaped (.dict kv) = true ∧ SeqAt.shaped (.list ys) = true ∧ R (.d (.bool (PyData.eqv (.dict kv) (.list ys))))) := rfl
theorem oEq_dkf : (oEq false (.d x) (.d (.dict kv)) R) = (SeqAt.shaped (x) = true ∧ SeqAt.shaped (.dict kv) = true ∧ R (.d (.bool (PyData.eqv (x) (.dict kv))))) := by cases x <;> rfl
theorem oEq_odf : (oEq false (.own xs) (.d y) R) = (SeqAt.shaped (.list xs) = true ∧ SeqAt.shaped (y) = true ∧ R (.d (.bool (PyData.eqv (.list xs) (y))))) := rfl
theorem oEq_oof : (oEq false (.own xs) (.own ys) R) = (SeqAt.shaped (.list xs) = true ∧ SeqAt.shaped (.list ys) = true ∧ R (.d (.bool (PyData.eqv (.list xs) (.list ys))))) := rfl
theorem oEq_orf : (oEq false (.own xs) (.bor ys) R) = (SeqAt.shaped (.list xs) = true ∧ SeqAt.shaped (.list ys) = true ∧ R (.d (.bool (PyData.eqv (.list xs) (.list ys))))) := rfl
theorem oEq_dof : (oEq false (.d x) (.own xs) R) = (SeqAt.shaped (x) = true ∧ SeqAt.shaped (.list xs) = true ∧ R (.d (.bool (PyData.eqv (x) (.list xs))))) := by cases x <;> rfl
theorem oEq_rdf : (oEq false (.bor xs) (.d y) R) = (SeqAt.shaped (.list xs) = true ∧ SeqAt.shaped (y) = true ∧ R (.d (.bool (PyData.eqv (.list xs) (y))))) := rfl
theorem oEq_rof : (oEq false (.bor xs) (.own ys) R) = (SeqAt.shaped (.list xs) = true ∧ SeqAt.shaped (.list ys) = true ∧ R (.d (.bool (PyData.eqv (.list xs) (.list ys))))) := rfl
theorem oEq_rrf : (oEq false (.bor xs) (.bor ys) R) = (SeqAt.shaped (.list xs) = true ∧ SeqAt.shaped (.list ys) = true ∧ R (.d (.bool (PyData.eqv (.list xs) (.list ys))))) := rfl
theorem oEq_drf : (oEq false (.d x) (.bor xs) R) = (SeqAt.shaped (x) = true ∧ SeqAt.shaped (.list xs) = true ∧ R (.d (.bool (PyData.eqv (x) (.list xs))))) := by cases x <;> rfl
theorem oEq_sst : (oEq true (.d (.str s)) (.d (.str t)) R) = (R (.d (.bool (!PyData.eqv (.str s) (.str t))))) := rfl
theorem oEq_ndt : (oEq true (.d (.none)) (.d y) R) = (SeqAt.shaped (.none) = true ∧ SeqAt.shaped (y) = true ∧ R (.d (.bool (!PyData.eqv (.none) (y))))) := rfl
theorem oEq_not : (oEq true (.d (.none)) (.own ys) R) = (SeqAt.shaped (.none) = true ∧ SeqAt.shaped (.list ys) = true ∧ R (.d (.bool (!PyData.eqv (.none) (.list ys))))) := rfl
theorem oEq_nrt : (oEq true (.d (.none)) (.bor ys) R) = (SeqAt.shaped (.none) = true ∧ SeqAt.shaped (.list ys) = true ∧ R (.d (.bool (!PyData.eqv (.none) (.list ys))))) := rfl
theorem oEq_dnt : (oEq true (.d x) (.d (.none)) R) = (SeqAt.shaped (x) = true ∧ SeqAt.shaped (.none) = true ∧ R (.d (.bool (!PyData.eqv (x) (.none))))) := by cases x <;> rfl
theorem oEq_bdt : (oEq true (.d (.bool b)) (.d y) R) = (SeqAt.shaped (.bool b) = true ∧ SeqAt.shaped (y) = true ∧ R (.d (.bool (!PyData.eqv (.bool b) (y))))) := rfl
theorem oEq_bot : (oEq true (.d (.bool b)) (.own ys) R) = (SeqAt.shaped (.bool b) = true ∧ SeqAt.shaped (.list ys) = true ∧ R (.d (.bool (!PyData.eqv (.bool b) (.list ys))))) := rfl
theorem oEq_brt : (oEq true (.d (.bool b)) (.bor ys) R) = (SeqAt.shaped (.bool b) = true ∧ SeqAt.shaped (.list ys) = true ∧ R (.d (.bool (!PyData.eqv (.bool b) (.list ys))))) := rfl
theorem oEq_dbt : (oEq true (.d x) (.d (.bool b)) R) = (SeqAt.shaped (x) = true ∧ SeqAt.shaped (.bool b) = true ∧ R (.d (.bool (!PyData.eqv (x) (.bool b))))) := by cases x <;> rfl
theorem oEq_idt : (oEq true (.d (.int i)) (.d y) R) = (SeqAt.shaped (.int i) = true ∧ SeqAt.shaped (y) = true ∧ R (.d (.bool (!PyData.eqv (.int i) (y))))) := rfl
theorem oEq_iot : (oEq true (.d (.int i)) (.own ys) R) = (SeqAt.shaped (.int i) = true ∧ SeqAt.shaped (.list ys) = true ∧ R (.d (.bool (!PyData.eqv (.int i) (.list ys))))) := rfl
theorem oEq_irt : (oEq true (.d (.int i)) (.bor ys) R) = (SeqAt.shaped (.int i) = true ∧ SeqAt.shaped (.list ys) = true ∧ R (.d (.bool (!PyData.eqv (.int i) (.list ys))))) := rfl
theorem oEq_dit : (oEq true (.d x) (.d (.int i)) R) = (SeqAt.shaped (x) = true ∧ SeqAt.shaped (.int i) = true ∧ R (.d (.bool (!PyData.eqv (x) (.int i))))) := by cases x <;> rfl
theorem oEq_ldt : (oEq true (.d (.list xs)) (.d y) R) = (SeqAt.shaped (.list xs) = true ∧ SeqAt.shaped (y) = true ∧ R (.d (.bool (!PyData.eqv (.list xs) (y))))) := rfl
theorem oEq_lot : (oEq true (.d (.list xs)) (.own ys) R) = (SeqAt.shaped (.list xs) = true ∧ SeqAt.shaped (.list ys) = true ∧ R (.d (.bool (!PyData.eqv (.list xs) (.list ys))))) := rfl
theorem oEq_lrt : (oEq true (.d (.list xs)) (.bor ys) R) = (SeqAt.shaped (.list xs) = true ∧ SeqAt.shaped (.list ys) = true ∧ R (.d (.bool (!PyData.eqv (.list xs) (.list ys))))) := rfl
theorem oEq_dlt : (oEq true (.d x) (.d (.list xs)) R) = (SeqAt.shaped (x) = true ∧ SeqAt.shaped (.list xs) = true ∧ R (.d (.bool (!PyData.eqv (x) (.list xs))))) := by cases x <;> rfl
theorem oEq_tdt : (oEq true (.d (.tuple xs)) (.d y) R) = (SeqAt.shaped (.tuple xs) = true ∧ SeqAt.shaped (y) = true ∧ R (.d (.bool (!PyData.eqv (.tuple xs) (y))))) := rfl
theorem oEq_tot : (oEq true (.d (.tuple xs)) (.own ys) R) = (SeqAt.shaped (.tuple xs) = true ∧ SeqAt.shaped (.list ys) = true ∧ R (.d (.bool (!PyData.eqv (.tuple xs) (.list ys))))) := rfl
theorem oEq_trt : (oEq true (.d (.tuple xs)) (.bor ys) R) = (SeqAt.shaped (.tuple xs) = true ∧ SeqAt.shaped (.list ys) = true ∧ R (.d (.bool (!PyData.eqv (.tuple xs) (.list ys))))) := rfl
theorem oEq_dtt : (oEq true (.d x) (.d (.tuple xs)) R) = (SeqAt.shaped (x) = true ∧ SeqAt.shaped (.tuple xs) = true ∧ R (.d (.bool (!PyData.eqv (x) (.tuple xs))))) := by cases x <;> rfl
theorem oEq_kdt : (oEq true (.d (.dict kv)) (.d y) R) = (SeqAt.shaped (.dict kv) = true ∧ SeqAt.shaped (y) = true ∧ R (.d (.bool (!PyData.eqv (.dict kv) (y))))) := rfl
theorem oEq_kot : (oEq true (.d (.dict kv)) (.own ys) R) = (SeqAt.shaped (.dict kv) = true ∧ SeqAt.shaped (.list ys) = true ∧ R (.d (.bool (!PyData.eqv (.dict kv) (.list ys))))) := rfl
theorem oEq_krt : (oEq true (.d (.dict kv)) (.bor ys) R) = (SeqAt.shaped (.dict kv) = true ∧ SeqAt.shaped (.list ys) = true ∧ R (.d (.bool (!PyData.eqv (.dict kv) (.list ys))))) := rfl
theorem oEq_dkt : (oEq true (.d x) (.d (.dict kv)) R) = (SeqAt.shaped (x) = true ∧ SeqAt.shaped (.dict kv) = true ∧ R (.d (.bool (!PyData.eqv (x) (.dict kv))))) := by cases x <;> rfl
theorem oEq_odt : (oEq true (.own xs) (.d y) R) = (SeqAt.shaped (.list xs) = true ∧ SeqAt.shaped (y) = true ∧ R (.d (.bool (!PyData.eqv (.list xs) (y))))) := rfl
theorem oEq_oot : (oEq true (.own xs) (.own ys) R) = (SeqAt.shaped (.list xs) = true ∧ SeqAt.shaped (.list ys) = true ∧ R (.d (.bool (!PyData.eqv (.list xs) (.list ys))))) := rfl
theorem oEq_ort : (oEq true (.own xs) (.bor ys) R) = (SeqAt.shaped (.list xs) = true ∧ SeqAt.shaped (.list ys) = true ∧ R (.d (.bool (!PyData.eqv (.list xs) (.list ys))))) := rfl
theorem oEq_dot : (oEq true (.d x) (.own xs) R) = (SeqAt.shaped (x) = true ∧ SeqAt.shaped (.list xs) = true ∧ R (.d (.bool (!PyData.eqv (x) (.list xs))))) := by cases x <;> rfl
theorem oEq_rdt : (oEq true (.bor xs) (.d y) R) = (SeqAt.shaped (.list xs) = true ∧ SeqAt.shaped (y) = true ∧ R (.d (.bool (!PyData.eqv (.list xs) (y))))) := rfl
theorem oEq_rot : (oEq true (.bor xs) (.own ys) R) = (SeqAt.shaped (.list xs) = true ∧ SeqAt.shaped (.list ys) = true ∧ R (.d (.bool (!PyData.eqv (.list xs) (.list ys))))) := rfl
theorem oEq_rrt : (oEq true (.bor xs) (.bor ys) R) = (SeqAt.shaped (.list xs) = true ∧ SeqAt.shaped (.list ys) = true ∧ R (.d (.bool (!PyData.eqv (.list xs) (.list ys))))) := rfl
theorem oEq_drt : (oEq true (.d x) (.bor xs) R) = (SeqAt.shaped (x) = true ∧ SeqAt.shaped (.list xs) = true ∧ R (.d (.bool (!PyData.eqv (x) (.list xs))))) := by cases x <;> rfl
end
end DL
namespace DL
open PySem PySem.Spec L2
mutual
def wid : PyData → Nat
  | .none => 4
  | .bool _ => 5
  | .int _ => 1922
  | .str x => (reprText x).length
  | .list xs => 4 + widAll xs
  | .tuple xs => 4 + widAll xs
  | .dict _ => 0
def widAll : List PyData → Nat
  | [] => 0
  | x :: xs => wid x + 2 + widAll xs
end
theorem listText_le : ∀ ts : List Str, (listText ts).length ≤ 4 + piled ts
  | [] => by
    have : (listText []).length = 2 := rfl
    omega
  | t :: r => by
    have h := textFrom_length_pos r 1 (("[" : Str) ++ (if (0 : Nat) > 0 then ", " else "" : String) ++ t) (Nat.succ_pos 0)
    have e : ((("[" : Str) ++ (if (0 : Nat) > 0 then ", " else "" : String) ++ t)).length = 1 + t.length := by
      rw [strLen_append, strLen_append]; rfl
    have hX : (listText (t :: r)).length = (textFrom 0 "[" (t :: r)).length + 1 := by
      show (textFrom 0 "[" (t :: r) ++ "]").length = _
      rw [strLen_append]; rfl
    have hY : (textFrom 0 "[" (t :: r)).length = (textFrom 1 (("[" : Str) ++ (if (0 : Nat) > 0 then ", " else "" : String) ++ t) r).length := rfl
    rw [hX, hY, h, e, piled_cons]
    omega
theorem tupleText_le (ts : List Str) : (tupleText ts).length ≤ 4 + piled ts := by
  unfold tupleText
  rw [strLen_append, strLen_append]
  have h1 : (Str.ofString "(").length = 1 := rfl
  have h2 : (Str.ofString (if ts.length == 1 then ",)" else ")")).length ≤ 2 := by split <;> decide
  by_cases h : ts = []
  · subst h
    have h3 : (Str.join ", " ([] : List Str)).length = 0 := rfl
    have := piled_nil
    omega
  · have := join_length_add ts h
    omega
mutual
theorem shown_le : ∀ d : PyData, d.hasDict = false → d.showable = true → d.shown.length ≤ wid d
  | .none, _, _ => by
    have : (PyData.shown .none).length = 4 := by simp only [PyData.shown]; rfl
    simp only [wid]; omega
  | .bool b, _, _ => by
    have : (PyData.shown (.bool b)).length ≤ 5 := by simp only [PyData.shown]; cases b <;> decide
    simp only [wid]; omega
  | .int i, _, h => by
    have h' : i.natAbs.log2 < 1920 := by simpa [PyData.showable] using h
    have e := int_text_length_le (k := 1920) (by decide) h'
    have : (PyData.shown (.int i)).length = (toString i).length := by simp only [PyData.shown]; exact ofString_length _
    simp only [wid]; omega
  | .str x, _, _ => by simp only [PyData.shown, wid]; exact Nat.le_refl _
  | .list xs, h1, h2 => by
    have := shownAll_le xs (by simpa [PyData.hasDict] using h1) (by simpa [PyData.showable] using h2)
    have := listText_le (PyData.shownAll xs)
    simp only [PyData.shown, wid]; omega
  | .tuple xs, h1, h2 => by
    have := shownAll_le xs (by simpa [PyData.hasDict] using h1) (by simpa [PyData.showable] using h2)
    have := tupleText_le (PyData.shownAll xs)
    simp only [PyData.shown, wid]; omega
  | .dict _, h, _ => by simp [PyData.hasDict] at h
theorem shownAll_le : ∀ xs : List PyData, PyData.hasDictAll xs = false → PyData.showableAll xs = true → piled (PyData.shownAll xs) ≤ widAll xs
  | [], _, _ => Nat.le_refl _
  | x :: xs, h1, h2 => by
    simp only [PyData.hasDictAll, Bool.or_eq_false_iff] at h1
    simp only [PyData.showableAll, Bool.and_eq_true] at h2
    have a := shown_le x h1.1 h2.1
    have b := shownAll_le xs h1.2 h2.2
    simp only [PyData.shownAll, piled_cons, widAll]
    omega
end
structure Sz (d : PyData) (dp wd : Nat) : Prop where
  nd : d.hasDict = false
  sh : d.showable = true
  de : d.depth ≤ dp
  wi : wid d ≤ wd
  ly : d.canLay0 = true
structure SzA (xs : List PyData) (dp wd : Nat) : Prop where
  nd : PyData.hasDictAll xs = false
  sh : PyData.showableAll xs = true
  de : PyData.depthAll xs ≤ dp
  wi : widAll xs ≤ xs.length * (wd + 2)
  ly : PyData.canLayAll0 xs = true
theorem szA {dp wd : Nat} : ∀ {xs : List PyData}, (∀ x ∈ xs, Sz x dp wd) → SzA xs dp wd
  | [], _ => ⟨rfl, rfl, Nat.zero_le _, by simp [widAll], rfl⟩
  | x :: xs, h => by
    have a := h x (by simp)
    have b := szA (xs := xs) fun y hy => h y (by simp [hy])
    refine ⟨by simp [PyData.hasDictAll, a.nd, b.nd], by simp [PyData.showableAll, a.sh, b.sh], ?_, ?_, by simp [PyData.canLayAll0, a.ly, b.ly]⟩
    · simp only [PyData.depthAll]
      have := a.de; have := b.de
      omega
    · have := a.wi; have := b.wi
      simp only [widAll, List.length_cons, Nat.succ_mul]
      omega
theorem Sz.int {i : Int} (h : i.natAbs.log2 < 1920) : Sz (.int i) 0 1922 := ⟨rfl, by simp [PyData.showable, h], Nat.le_refl _, Nat.le_refl _, rfl⟩
theorem log_lt {i : Int} (h : -(2 ^ 1900) ≤ i ∧ i ≤ 2 ^ 1900) : i.natAbs.log2 < 1920 := by
  have h1 : i.natAbs ≤ 2 ^ 1900 := by
    have e : ((2 ^ 1900 : Nat) : Int) = 2 ^ 1900 := by norm_cast
    omega
  by_cases h0 : i.natAbs = 0
  · rw [h0]; decide
  · have := (Nat.log2_lt h0 (k := 1901)).mpr (Nat.lt_of_le_of_lt h1 (Nat.pow_lt_pow_right (by decide) (by decide)))
    omega
theorem Sz.int' {i : Int} (h : -(2 ^ 100) ≤ i ∧ i ≤ 2 ^ 100) : Sz (.int i) 0 1922 := Sz.int (log_lt ⟨by
    have : (2 : Int) ^ 100 ≤ 2 ^ 1900 := by decide +kernel
    omega, by
    have : (2 : Int) ^ 100 ≤ 2 ^ 1900 := by decide +kernel
    omega⟩)
theorem Sz.mono {d : PyData} {a b a' b' : Nat} (h : Sz d a b) (ha : a ≤ a') (hb : b ≤ b') : Sz d a' b' := ⟨h.nd, h.sh, Nat.le_trans h.de ha, Nat.le_trans h.wi hb, h.ly⟩
theorem Sz.tup {xs : List PyData} {dp wd n : Nat} (h : ∀ x ∈ xs, Sz x dp wd) (hn : xs.length ≤ n) : Sz (.tuple xs) (dp + 1) (4 + n * (wd + 2)) := by
  have b := szA h
  have hm : xs.length * (wd + 2) ≤ n * (wd + 2) := Nat.mul_le_mul_right _ hn
  exact ⟨by simp [PyData.hasDict, b.nd], by simp [PyData.showable, b.sh], by simp only [PyData.depth]; have := b.de; omega, by simp only [wid]; have := b.wi; omega, by simp [PyData.canLay0, b.ly]⟩
theorem Sz.lst {xs : List PyData} {dp wd n : Nat} (h : ∀ x ∈ xs, Sz x dp wd) (hn : xs.length ≤ n) : Sz (.list xs) (dp + 1) (4 + n * (wd + 2)) := by
  have b := szA h
  have hm : xs.length * (wd + 2) ≤ n * (wd + 2) := Nat.mul_le_mul_right _ hn
  exact ⟨by simp [PyData.hasDict, b.nd], by simp [PyData.showable, b.sh], by simp only [PyData.depth]; have := b.de; omega, by simp only [wid]; have := b.wi; omega, by simp [PyData.canLay0, b.ly]⟩
theorem Sz.pair {x y : PyData} {dp wd : Nat} (hx : Sz x dp wd) (hy : Sz y dp wd) : Sz (.tuple [x, y]) (dp + 1) (4 + 2 * (wd + 2)) := Sz.tup (fun z hz => by
  rcases List.mem_cons.mp hz with rfl | hz
  · exact hx
  · rcases List.mem_cons.mp hz with rfl | hz
    · exact hy
    · cases hz) (by simp)
theorem Sz.shaped {d : PyData} {dp wd : Nat} (h : Sz d dp wd) (h1 : dp ≤ 64 := by decide) : SeqAt.shaped d = true := by
  unfold SeqAt.shaped
  rw [h.ly, Bool.true_and]
  exact decide_eq_true (Nat.le_trans h.de h1)
theorem shaped_ints (ns : List Int) : SeqAt.shaped (.list (ns.map PyData.int)) = true := by
  have h1 : ∀ ns : List Int, PyData.canLayAll0 (ns.map PyData.int) = true := fun ns => by
    induction ns with
    | nil => rfl
    | cons n ns ih => simp [PyData.canLayAll0, PyData.canLay0, ih]
  have h2 : ∀ ns : List Int, PyData.depthAll (ns.map PyData.int) = 0 := fun ns => by
    induction ns with
    | nil => rfl
    | cons n ns ih => simp [PyData.depthAll, PyData.depth, ih]
  unfold SeqAt.shaped
  simp [PyData.canLay0, PyData.depth, h1, h2]
theorem shaped_int (i : Int) : SeqAt.shaped (.int i) = true := by simp [SeqAt.shaped, PyData.canLay0, PyData.depth]
theorem any_ints (ns : List Int) (i : Int) : ((ns.map PyData.int).any fun z => PyData.eqv z (.int i)) = decide (i ∈ ns) := by
  induction ns with
  | nil => simp
  | cons n ns ih =>
    simp only [List.map_cons, List.any_cons, ih, PyData.eqv, List.mem_cons]
    by_cases h : n = i
    · subst h; simp
    · have h' : ¬ i = n := fun z => h z.symm
      simp [h, h']
theorem intsOf_map' (ns : List Int) : intsOf (ns.map PyData.int) = some ns := intsOf_map ns
end DL
local macro_rules | `(tactic| walk_at "lim") => `(tactic| first | omega | (simp only [PySem.sizeLine_eq, List.length_reverse, List.length_append, List.length_map, List.length_cons, List.length_nil]; omega) | decide | decide +kernel)
namespace DL
open PySem PySem.Spec L2
theorem if_dec {p : Prop} [Decidable p] {A B : Prop} (h1 : p → A) (h2 : ¬ p → B) : (decide p = true → A) ∧ (decide p = false → B) := ⟨fun h => h1 (of_decide_eq_true h), fun h => h2 (of_decide_eq_false h)⟩
theorem for_ind {g : MG} {b : MS} {ex : XD} {E : DEnds} (I : List PyData → Env → Prop) (h0 : ∀ δ, I [] δ → E.nx δ)
    (hs : ∀ d ds δ (K : Env → Prop), I (d :: ds) δ → (∀ δ', I ds δ' → K δ') → g (.d d) δ fun δ' => b ex { nx := K, ct := K, bk := E.nx, rt := E.rt, ro := E.ro } δ') : ∀ ds δ, I ds δ → forRun g b ex E ds δ
  | [], δ, h => h0 δ h
  | d :: ds, δ, h => hs d ds δ _ h fun δ' h' => for_ind I h0 hs ds δ' h'
theorem for_at {g : MG} {b : MS} {ex : XD} {E : DEnds} {ds : List PyData} {δ : Env} (I : Nat → Env → Prop) (hi : I 0 δ) (h0 : ∀ δ, I ds.length δ → E.nx δ)
    (hs : ∀ k d δ (K : Env → Prop), ds[k]? = some d → I k δ → (∀ δ', I (k + 1) δ' → K δ') → g (.d d) δ fun δ' => b ex { nx := K, ct := K, bk := E.nx, rt := E.rt, ro := E.ro } δ') : forRun g b ex E ds δ := by
  refine for_ind (fun l δ => ∃ k, k ≤ ds.length ∧ l = ds.drop k ∧ I k δ) (fun δ ⟨k, hk, e, h⟩ => ?_) (fun d l δ K ⟨k, hk, e, h⟩ hK => ?_) ds δ ⟨0, Nat.zero_le _, rfl, hi⟩
  · have : ds.length ≤ k := by
      have := congrArg List.length e
      simp at this
      omega
    have hk' : k = ds.length := by omega
    subst hk'
    exact h0 δ h
  · have hlt : k < ds.length := by
      have := congrArg List.length e
      simp at this
      omega
    have hd : ds[k]? = some d := by
      have : (ds.drop k)[0]? = some d := by rw [← e]; rfl
      simpa using this
    refine hs k d δ K hd h fun δ' h' => hK δ' ⟨k + 1, hlt, ?_, h'⟩
    have := drop_cons hd
    rw [this] at e
    exact (List.cons.inj e).2
theorem for_range {g : MG} {b : MS} {ex : XD} {E : DEnds} {lo : Int} {n : Nat} {δ : Env} (I : Nat → Env → Prop) (hi : I 0 δ) (h0 : ∀ δ, I n δ → E.nx δ)
    (hs : ∀ k δ (K : Env → Prop), k < n → I k δ → (∀ δ', I (k + 1) δ' → K δ') → g (.d (.int (lo + (k : Nat)))) δ fun δ' => b ex { nx := K, ct := K, bk := E.nx, rt := E.rt, ro := E.ro } δ') : forRun g b ex E (rangeD lo n) δ := by
  refine for_at I hi (fun δ h => h0 δ (by rwa [rangeD_len] at h)) fun k d δ K hd h hK => ?_
  rw [rangeD_get] at hd
  split at hd
  · rename_i hk
    cases hd
    exact hs k δ K hk h hK
  · cases hd
theorem for_down {g : MG} {b : MS} {ex : XD} {E : DEnds} {lo : Int} {n : Nat} {δ : Env} (I : Nat → Env → Prop) (hi : I 0 δ) (h0 : ∀ δ, I n δ → E.nx δ)
    (hs : ∀ k δ (K : Env → Prop), k < n → I k δ → (∀ δ', I (k + 1) δ' → K δ') → g (.d (.int (lo - (k : Nat)))) δ fun δ' => b ex { nx := K, ct := K, bk := E.nx, rt := E.rt, ro := E.ro } δ') : forRun g b ex E (downD lo n) δ := by
  refine for_at I hi (fun δ h => h0 δ (by rwa [downD_len] at h)) fun k d δ K hd h hK => ?_
  rw [downD_get] at hd
  split at hd
  · rename_i hk
    cases hd
    exact hs k δ K hk h hK
  · cases hd
theorem lc_ind {g : MG} {tt : MT} {te : ME} {δ : Env} {R : DV → Prop} (out : PyData → Option PyData) : ∀ (ds acc : List PyData),
    (∀ d ∈ ds, ∀ (K1 : PyData → Prop) (K0 : Prop), (∀ z, out d = some z → K1 z) → (out d = none → K0) → g (.d d) δ fun δ' => tt ex0 δ' fun c => (c = true → te ex0 δ' fun y => match y.val with
      | some z => K1 z
      | none => False) ∧ (c = false → K0)) → acc.length + ds.length ≤ sizeLine → R (.own (acc ++ ds.filterMap out)) → lcRun g tt te δ R ds acc
  | [], acc, _, _, h => by
    unfold lcRun
    simpa using h
  | d :: ds, acc, hs, hz, h => by
    unfold lcRun
    rw [List.length_cons] at hz
    refine hs d (by simp) (fun z => acc.length < sizeLine ∧ lcRun g tt te δ R ds (acc ++ [z])) (lcRun g tt te δ R ds acc) (fun z e => ⟨by omega, ?_⟩) fun e => ?_
    · refine lc_ind out ds (acc ++ [z]) (fun d' hd' => hs d' (by simp [hd'])) (by simp; omega) ?_
      simpa [List.filterMap_cons, e] using h
    · refine lc_ind out ds acc (fun d' hd' => hs d' (by simp [hd'])) (by omega) ?_
      simpa [List.filterMap_cons, e] using h
end DL
namespace DL
open PySem PySem.Spec L2
abbrev SRow := List (Int × Int)
def stD (p : Int × Int) : PyData := .tuple [.int p.1, .int p.2]
def rowD (l : SRow) : PyData := .tuple (l.map stD)
def pl (l : SRow) (i : Nat) : Int := (l.getD i (0, 0)).1
def ht (l : SRow) (i : Nat) : Int := (l.getD i (0, 0)).2
theorem atI_row {l : SRow} {i : Int} (k : Nat) (h : i = (k : Nat)) (hk : k < l.length) : atI (l.map stD) i = some (.tuple [.int (pl l k), .int (ht l k)]) := by
  subst h
  refine atI_nat ?_
  rw [List.getElem?_map, List.getElem?_eq_getElem hk]
  unfold pl ht
  rw [List.getD_eq_getElem?_getD, List.getElem?_eq_getElem hk]
  rfl
theorem atI_map {α : Type} {f : α → PyData} {l : List α} {i : Int} (k : Nat) {x : α} (h : i = (k : Nat)) (hx : l[k]? = some x) : atI (l.map f) i = some (f x) := by
  subst h
  refine atI_nat ?_
  rw [List.getElem?_map, hx]
  rfl
theorem atI_end {α : Type} {f : α → PyData} {l : List α} {x : α} (hx : l[l.length - 1]? = some x) : atI (l.map f) (-1) = some (f x) := by
  have h0 : l.length - 1 < l.length := (List.getElem?_eq_some_iff.mp hx).1
  unfold atI ixN
  rw [if_neg (by decide), if_pos (by rw [List.length_map]; omega)]
  show (l.map f)[((-1 : Int) + ((l.map f).length : Nat)).toNat]? = _
  have e : ((-1 : Int) + ((l.map f).length : Nat)).toNat = l.length - 1 := by rw [List.length_map]; omega
  rw [e, List.getElem?_map, hx]
  rfl
structure Inc (l : SRow) : Prop where
  n0 : 0 < l.length
  n1 : l.length ≤ 2000
  inc : ∀ i j, i < j → j < l.length → pl l i < pl l j
  hp : ∀ i, i < l.length → 0 ≤ ht l i
structure IsEnd (l : SRow) (s m : Nat) : Prop where
  le : s ≤ m
  lt : m < l.length
  ch : ∀ j, s < j → j ≤ m → ∃ k, s ≤ k ∧ k < j ∧ pl l j ≤ pl l k + ht l k
  st : m + 1 < l.length → ∀ k, s ≤ k → k ≤ m → pl l k + ht l k < pl l (m + 1)
theorem IsEnd.uniq {l : SRow} {s m k : Nat} (h1 : IsEnd l s m) (h2 : IsEnd l s k) : m = k := by
  rcases Nat.lt_trichotomy m k with h | h | h
  · obtain ⟨j, a, b, c⟩ := h2.ch (m + 1) (by have := h1.le; omega) (by omega)
    have := h1.st (by have := h2.lt; omega) j a (by omega)
    omega
  · exact h
  · obtain ⟨j, a, b, c⟩ := h1.ch (k + 1) (by have := h2.le; omega) (by omega)
    have := h2.st (by have := h1.lt; omega) j a (by omega)
    omega
structure Seek (l : SRow) (s m : Nat) : Prop where
  le : s ≤ m
  lt : m < l.length
  ch : ∀ j, s < j → j ≤ m → ∃ k, s ≤ k ∧ k < j ∧ pl l j ≤ pl l k + ht l k
  st : m + 1 < l.length → ∀ k, s < k → k ≤ m → pl l k + ht l k < pl l (m + 1)
theorem Seek.start {l : SRow} {s : Nat} (h : s < l.length) : Seek l s s := ⟨Nat.le_refl _, h, fun j a b => by omega, fun _ k a b => by omega⟩
theorem Seek.step {l : SRow} (I : Inc l) {s m e : Nat} (h : Seek l s m) (hr : pl l (m + 1) ≤ pl l s + ht l s) (he : IsEnd l (m + 1) e) : Seek l s e := by
  refine ⟨by have := h.le; have := he.le; omega, he.lt, fun j a b => ?_, fun hn k a b => ?_⟩
  · rcases Nat.lt_trichotomy j (m + 1) with q | q | q
    · exact h.ch j a (by omega)
    · exact ⟨s, Nat.le_refl _, a, by rw [q]; exact hr⟩
    · obtain ⟨k, x, y, z⟩ := he.ch j q b
      exact ⟨k, by have := h.le; omega, y, z⟩
  · rcases Nat.lt_or_ge m k with q | q
    · exact he.st hn k (by omega) b
    · have h1 := h.st (by have := he.le; omega) k a q
      have h2 : pl l (m + 1) < pl l (e + 1) := I.inc _ _ (by have := he.le; omega) hn
      omega
theorem Seek.done {l : SRow} {s m : Nat} (h : Seek l s m) (hs : m + 1 < l.length → pl l s + ht l s < pl l (m + 1)) : IsEnd l s m :=
  ⟨h.le, h.lt, h.ch, fun hn k a b => by
    rcases Nat.lt_or_ge s k with q | q
    · exact h.st hn k q b
    · have : k = s := by omega
      rw [this]; exact hs hn⟩
structure AllEnds (l : SRow) (fs : List Nat) : Prop where
  len : fs.length = l.length
  at_ : ∀ s m, fs[s]? = some m → IsEnd l s m
def natD (n : Nat) : PyData := .int (n : Nat)
theorem seek_end {l : SRow} (I : Inc l) {s : Nat} (ih : ∀ t, s < t → t < l.length → ∃ e, IsEnd l t e) : ∀ (d m : Nat), l.length - m ≤ d → Seek l s m → ∃ e, IsEnd l s e
  | 0, m, hd, h => by have := h.lt; omega
  | d + 1, m, hd, h => by
    have hm := h.lt
    have hle := h.le
    by_cases c : m + 1 < l.length ∧ pl l (m + 1) ≤ pl l s + ht l s
    · obtain ⟨e, he⟩ := ih (m + 1) (by omega) c.1
      exact seek_end I ih d e (by have := he.le; omega) (h.step I c.2 he)
    · exact ⟨m, h.done fun hn => by
        rcases Int.lt_or_le (pl l s + ht l s) (pl l (m + 1)) with q | q
        · exact q
        · exact absurd ⟨hn, q⟩ c⟩
theorem end_ex {l : SRow} (I : Inc l) : ∀ (d s : Nat), l.length - s ≤ d → s < l.length → ∃ e, IsEnd l s e
  | 0, s, hd, h => by omega
  | d + 1, s, hd, h => seek_end I (fun t h1 h2 => end_ex I d t (by omega) h2) _ s (Nat.le_refl _) (Seek.start h)
open Classical in
noncomputable def endOf (l : SRow) (s : Nat) : Nat := if h : ∃ e, IsEnd l s e then h.choose else 0
theorem endOf_ok {l : SRow} (I : Inc l) {s : Nat} (h : s < l.length) : IsEnd l s (endOf l s) := by
  have hx := end_ex I _ s (Nat.le_refl _) h
  unfold endOf
  rw [dif_pos hx]
  exact hx.choose_spec
noncomputable def ends (l : SRow) : List Nat := (List.range l.length).map (endOf l)
theorem ends_len {l : SRow} : (ends l).length = l.length := by unfold ends; simp
theorem ends_get {l : SRow} {s : Nat} (h : s < l.length) : (ends l)[s]? = some (endOf l s) := by
  unfold ends
  rw [List.getElem?_map, List.getElem?_range h]
  rfl
theorem AllEnds.eq {l : SRow} {fs : List Nat} (I : Inc l) (h : AllEnds l fs) : fs = ends l := by
  apply List.ext_getElem?
  intro s
  rcases Nat.lt_or_ge s l.length with q | q
  · have e := List.getElem?_eq_getElem (l := fs) (i := s) (by rw [h.len]; exact q)
    rw [ends_get q, e, (h.at_ s _ e).uniq (endOf_ok I q)]
  · rw [List.getElem?_eq_none (by rw [h.len]; exact q), List.getElem?_eq_none (by rw [ends_len]; exact q)]
def mirror (l : SRow) : SRow := l.reverse.map fun p => (pl l 0 + pl l (l.length - 1) - p.1, p.2)
theorem mirror_len (l : SRow) : (mirror l).length = l.length := by unfold mirror; simp
theorem mirror_get {l : SRow} {i : Nat} (h : i < l.length) : (mirror l)[i]? = some (pl l 0 + pl l (l.length - 1) - pl l (l.length - 1 - i), ht l (l.length - 1 - i)) := by
  unfold mirror
  have h2 : l.length - 1 - i < l.length := by omega
  rw [List.getElem?_map, List.getElem?_reverse h, List.getElem?_eq_getElem h2]
  unfold pl ht
  rw [List.getD_eq_getElem?_getD (i := l.length - 1 - i), List.getElem?_eq_getElem h2]
  rfl
theorem mirror_pl {l : SRow} {i : Nat} (h : i < l.length) : pl (mirror l) i = pl l 0 + pl l (l.length - 1) - pl l (l.length - 1 - i) := by
  show ((mirror l).getD i (0, 0)).1 = _
  rw [List.getD_eq_getElem?_getD, mirror_get h]
  rfl
theorem mirror_ht {l : SRow} {i : Nat} (h : i < l.length) : ht (mirror l) i = ht l (l.length - 1 - i) := by
  show ((mirror l).getD i (0, 0)).2 = _
  rw [List.getD_eq_getElem?_getD, mirror_get h]
  rfl
theorem Inc.mirror {l : SRow} (I : Inc l) : Inc (mirror l) := by
  have hn0 := I.n0
  refine ⟨by rw [mirror_len]; exact I.n0, by rw [mirror_len]; exact I.n1, fun i j hij hj => ?_, fun i hi => ?_⟩
  · rw [mirror_len] at hj
    rw [mirror_pl (by omega), mirror_pl hj]
    have := I.inc (l.length - 1 - j) (l.length - 1 - i) (by omega) (by omega)
    omega
  · rw [mirror_len] at hi
    rw [mirror_ht hi]
    exact I.hp _ (by omega)
structure IsStart (l : SRow) (s m : Nat) : Prop where
  le : m ≤ s
  lt : s < l.length
  ch : ∀ j, m ≤ j → j < s → ∃ k, j < k ∧ k ≤ s ∧ pl l k - ht l k ≤ pl l j
  st : 0 < m → ∀ k, m ≤ k → k ≤ s → pl l (m - 1) < pl l k - ht l k
theorem IsStart.of {l : SRow} {s e : Nat} (hs : s < l.length) (h : IsEnd (mirror l) (l.length - 1 - s) e) : IsStart l s (l.length - 1 - e) := by
  have h1 := h.le
  have h2 := h.lt
  rw [mirror_len] at h2
  refine ⟨by omega, hs, fun j a b => ?_, fun hm k a b => ?_⟩
  · obtain ⟨k, x, y, z⟩ := h.ch (l.length - 1 - j) (by omega) (by omega)
    rw [mirror_pl (by omega), mirror_pl (by omega), mirror_ht (by omega)] at z
    refine ⟨l.length - 1 - k, by omega, by omega, ?_⟩
    have e1 : l.length - 1 - (l.length - 1 - j) = j := by omega
    rw [e1] at z
    omega
  · have := h.st (by rw [mirror_len]; omega) (l.length - 1 - k) (by omega) (by omega)
    rw [mirror_pl (by omega), mirror_pl (by omega), mirror_ht (by omega)] at this
    have e1 : l.length - 1 - (l.length - 1 - k) = k := by omega
    have e2 : l.length - 1 - (e + 1) = l.length - 1 - e - 1 := by omega
    rw [e1, e2] at this
    omega
noncomputable def startOf (l : SRow) (s : Nat) : Nat := l.length - 1 - endOf (mirror l) (l.length - 1 - s)
theorem startOf_ok {l : SRow} (I : Inc l) {s : Nat} (h : s < l.length) : IsStart l s (startOf l s) := by
  have hn := I.n0
  exact IsStart.of h (endOf_ok I.mirror (by rw [mirror_len]; omega))
def Hit (l : SRow) (rt : Bool) (k j : Nat) : Prop := if rt then pl l k < pl l j ∧ pl l j ≤ pl l k + ht l k else pl l k - ht l k ≤ pl l j ∧ pl l j < pl l k
def Falls (l : SRow) (rt : Bool) (s lo hi : Nat) : Prop := if rt then lo = s ∧ IsEnd l s hi else hi = s ∧ IsStart l s lo
theorem Inc.lt_of {l : SRow} (I : Inc l) {i j : Nat} (hi : i < l.length) (hj : j < l.length) (h : pl l i < pl l j) : i < j := by
  rcases Nat.lt_trichotomy i j with q | q | q
  · exact q
  · subst q; omega
  · have := I.inc _ _ q hi; omega
theorem Falls.bd {l : SRow} {rt : Bool} {s lo hi : Nat} (h : Falls l rt s lo hi) : lo ≤ s ∧ s ≤ hi ∧ hi < l.length := by
  unfold Falls at h
  cases rt with
  | true => rw [if_pos rfl] at h; obtain ⟨rfl, h⟩ := h; exact ⟨Nat.le_refl _, h.le, h.lt⟩
  | false => rw [if_neg (by decide)] at h; obtain ⟨rfl, h⟩ := h; exact ⟨h.le, Nat.le_refl _, h.lt⟩
theorem Falls.hit {l : SRow} (I : Inc l) {rt : Bool} {s lo hi k j : Nat} (h : Falls l rt s lo hi) (h1 : lo ≤ k) (h2 : k ≤ hi) (hj : j < l.length) (hh : Hit l rt k j) : lo ≤ j ∧ j ≤ hi := by
  have hb := h.bd
  unfold Falls at h
  unfold Hit at hh
  cases rt with
  | true =>
    rw [if_pos rfl] at h hh
    obtain ⟨rfl, h⟩ := h
    have hkj := I.lt_of (by omega) hj hh.1
    refine ⟨by omega, ?_⟩
    rcases Nat.lt_or_ge hi j with q | q
    · have h3 := h.st (by omega) k h1 h2
      rcases Nat.lt_or_ge (hi + 1) j with q' | q'
      · have := I.inc _ _ q' hj; omega
      · have : j = hi + 1 := by omega
        subst this; omega
    · exact q
  | false =>
    rw [if_neg (by decide)] at h hh
    obtain ⟨rfl, h⟩ := h
    have hkj := I.lt_of hj (by omega) hh.2
    refine ⟨?_, by omega⟩
    rcases Nat.lt_or_ge j lo with q | q
    · have h3 := h.st (by omega) k h1 h2
      rcases Nat.lt_or_ge j (lo - 1) with q' | q'
      · have := I.inc _ _ q' (by omega); omega
      · have : j = lo - 1 := by omega
        subst this; omega
    · exact q
theorem Falls.all {l : SRow} (I : Inc l) {rt : Bool} {s lo hi : Nat} (h : Falls l rt s lo hi) (P : Nat → Prop) (hs : P s) (hc : ∀ k, lo ≤ k → k ≤ hi → P k → ∀ j, j < l.length → Hit l rt k j → P j) : ∀ j, lo ≤ j → j ≤ hi → P j := by
  have hb := h.bd
  unfold Falls at h
  cases rt with
  | true =>
    rw [if_pos rfl] at h
    obtain ⟨rfl, h⟩ := h
    intro j
    induction j using Nat.strongRecOn with
    | _ j ih =>
      intro h1 h2
      rcases Nat.lt_or_ge lo j with q | q
      · obtain ⟨k, a, b, c⟩ := h.ch j q h2
        refine hc k a (by omega) (ih k b a (by omega)) j (by omega) ?_
        unfold Hit
        rw [if_pos rfl]
        exact ⟨I.inc _ _ b (by omega), c⟩
      · have : j = lo := by omega
        subst this; exact hs
  | false =>
    rw [if_neg (by decide)] at h
    obtain ⟨rfl, h⟩ := h
    have key : ∀ d j, hi - j ≤ d → lo ≤ j → j ≤ hi → P j := by
      intro d
      induction d with
      | zero => intro j h0 h1 h2; have : j = hi := by omega
                subst this; exact hs
      | succ d ih =>
        intro j h0 h1 h2
        rcases Nat.lt_or_ge j hi with q | q
        · obtain ⟨k, a, b, c⟩ := h.ch j h1 q
          refine hc k (by omega) b (ih k (by omega) (by omega) b) j (by omega) ?_
          unfold Hit
          rw [if_neg (by decide)]
          exact ⟨c, I.inc _ _ a (by omega)⟩
        · have : j = hi := by omega
          subst this; exact hs
    exact fun j h1 h2 => key _ j (Nat.le_refl _) h1 h2
end DL
namespace PySem.W
open PySem PySem.Spec PySem.Calls PyProof.Rows
structure EClass (K : Frag) (D : Addr) : Prop where
  e1 : findIn K (.ref D) "__getattribute__" = some (some (.builtin "BaseException.__getattribute__"))
  e2 : findIn K (.ref D) "__getattr__" = some none
  e3 : subIn K (.ref D) (.type "BaseException") = some true
  e4 : hasDictIn K D = true
  e5 : findIn K (.ref D) "__class__" = some (some (.builtin "object.__class__"))
  e6 : specialIn K (.builtin "object.__class__") "__get__" = some (some (.builtin "getset_descriptor.__get__"))
  e7 : takesIn K (.builtin "object.__class__") = some true
  e8 : mroIn K D (.type "object") = some true
theorem EClass.isc {K : Frag} {D : Addr} (T : EClass K D) : (clsIn K D).isSome = true := by
  obtain ⟨cd, hc, _⟩ := any_some T.e4
  rw [hc]; rfl
theorem EClass.found {K : Frag} {D : Addr} (T : EClass K D) (od : Option Obj) : findObj K D od "__class__" = some (.bind (.builtin "getset_descriptor.__get__") (.builtin "object.__class__")) := by
  obtain ⟨cd, q⟩ := Option.isSome_iff_exists.mp T.isc
  unfold findObj
  rw [q, Option.bind_some, T.e5, Option.bind_some]
  simp [T.e6, T.e7]
theorem EClass.ask {K : Frag} {D x : Addr} {o : Obj} {od : Option Obj} {prog : Program} {w : World} {A : Around} {E : Value → Shared → Prop} {s : Shared} {Q : Option Value → Shared → Prop} (T : EClass K D) (X : K.In s.heap) (I : InstAt s.heap x o D od)
    (h : Q (some (.ref D)) { s with toks := s.toks + 1 }) : wpAny (model prog w) A (getAttr? (.ref x) "__class__") Q E s := by
  have fnd := T.found od
  obtain ⟨hp, gg, dr, tk, os⟩ := s
  have k0 := I.type (M := model prog w)
  have k1 := looks_findIn (M := model prog w) X T.e1
  have k2 := looks_findIn (M := model prog w) X T.e2
  have k3 := looks_find (M := model prog w) X I fnd
  have sb : Looks (model prog w) hp (isInstance (.ref x) (.type "BaseException")) true := k0.andThen (looks_subIn X T.e3)
  have n1 : (Value.builtin "BaseException.__getattribute__" == Value.builtin "object.__getattribute__") = false := by decide +kernel
  have n2 : (onTheHeap (Value.ref D) && Value.builtin "BaseException.__getattribute__" == Value.builtin "object.__getattribute__") = false := by rw [n1]; rfl
  have n3 : (false && onTheHeap (Value.builtin "BaseException.__getattribute__")) = false := rfl
  unfold getAttr? getAttrBy? getAttrBy
  refine wpAny_bind (wpAny_mkText (wpAny_bind (wpAny_attempt (wpAny_holding (wpAny_bind (k0.at (wpAny_bind (k1.at ?_))))))))
  show wpAny _ _ (if (onTheHeap (Value.ref D) && Value.builtin "BaseException.__getattribute__" == Value.builtin "object.__getattribute__") = true then _ else _) _ _ _
  rw [n2]; rw [if_neg Bool.false_ne_true]
  unfold getAttrByItsOwn hookBefore
  apply wpAny_bind
  rw [if_pos (show (onTheHeap (Value.ref D) = true) from rfl)]
  refine k2.at (wpAny_bind (wpAny_attempt (wpAny_holding ?_)))
  unfold callGetattribute
  rw [n3]; rw [if_neg Bool.false_ne_true]
  unfold boundAndCalled
  rw [PySem.F.excAttr_ValueError.ga.bind (.ref x)]
  apply wpAny_bind; apply wpAny_pure
  show wpAny _ _ (call (.builtin "BaseException.__getattribute__") [.ref x, .str "__class__" tk]) _ _ _
  refine wpAny_call (codeAny_call_builtin PySem.F.excAttr_ValueError.ga.plain PySem.F.entry_bexc_ga ?_)
  refine @check_slot (model prog w) _ _ ⟨hp, gg, dr, tk + 1, os⟩ "BaseException.__getattribute__" "BaseException" "__getattribute__" (.ref x) [.str "__class__" tk] [] _ (by decide +kernel) (by decide +kernel) sb (PySem.F.args_bexc_ga (.ref x) (.str "__class__" tk)) ?_
  unfold Builtin.«object.__getattribute__»
  refine wpAny_bind (wpAny_of_eq (a := ((Value.ref x : Value), [Value.str "__class__" tk])) (by first | rfl | (simp only [slotArgs]; rfl)) ?_)
  refine wpAny_bind (wpAny_pure (wpAny_bind (k0.at (wpAny_bind (k3.at ?_)))))
  show wpAny _ _ (holding [Value.builtin "object.__class__"] (call (.builtin "getset_descriptor.__get__") [.builtin "object.__class__", .ref x, .ref D]) >>= ret) _ _ _
  refine wpAny_bind (wpAny_holding (wpAny_call (class_get (s := ⟨hp, gg, dr, tk + 1, os⟩) (ox := o) (od := od) X I T.e8 ?_)))
  apply wpAny_pure
  show wpAny _ _ (handedOut (.ref D)) _ _ _
  rw [handedOut_of (v := Value.ref D) rfl]
  first
    | exact wpAny_pure (wpAny_pure h)
    | exact wpAny_pure h
    | exact wpAny_pure (wpAny_bind (wpAny_pure (wpAny_pure h)))
end PySem.W
namespace DL
open PySem PySem.Spec L2 PySem.W
def clsA (mg : Str → Option Value) (x : Str) : Addr := match mg x with
  | some (.ref C) => C
  | _ => 0
theorem clsA_of {mg : Str → Option Value} {x : Str} {C : Addr} (h : mg x = some (.ref C)) : clsA mg x = C := by
  unfold clsA
  rw [h]
def AllS (p : Str → Prop) : List Str → Prop
  | [] => True
  | x :: xs => p x ∧ AllS p xs
theorem AllS.get {p : Str → Prop} : ∀ {l : List Str} {x : Str}, AllS p l → x ∈ l → p x
  | [], _, _, h => by cases h
  | y :: ys, x, h, hm => by
    rcases List.mem_cons.mp hm with rfl | q
    · exact h.1
    · exact AllS.get h.2 q
structure XTab (K : Frag) (mg : Str → Option Value) (L M fs : List Str) (sub : Str → Str → Bool) : Prop where
  ml : AllS (fun x => mg x = some (.ref (clsA mg x))) L
  mm : AllS (fun y => mg y = some (.ref (clsA mg y))) M
  ec : AllS (fun x => EClass K (clsA mg x)) L
  no : AllS (fun x => AllS (fun f => findIn K (.ref (clsA mg x)) f = some none) fs) L
  kt : AllS (fun x => AllS (fun y => kitOne K (.ref (clsA mg x)) (.ref (clsA mg y)) = some (sub x y)) M) L
  kv : AllS (fun x => kitOne K (.ref (clsA mg x)) (.type "ValueError") = some true) L
section
variable {u u1 u2 : Nat} {X : Cx} {W : WC} {a C : Addr} {oe : Obj} {d : Option Addr} {pn : List (Addr × Obj)} {e : Expr} {es : List Expr} {me : ME} {mas : MA} {pos p p2 tpos : Pos} {k : Nat}
  {K' : Frag} {mg' : Str → Option Value} {L M fs Y : List Str} {sub : Str → Str → Bool}
structure DCl (X : Cx) (es : List Expr) (ys : List Str) : Prop where
  pa : PA X es fun _ H Q => Q (ys.map fun y => V.ref (clsA X.mg y)) H
def spInit (K : Frag) (C : Addr) (f : Str) : Sp := fun vs H Q _ => ∃ a y, vs = [.ref a, y] ∧ H a = some (exo a C none) ∧ ∀ dx, H dx = none → dx ≠ a → Q .non (upd (upd H dx (exd dx [(f, y)])) a (exo a C (some dx)))
theorem init_read {K : Frag} {C : Addr} {N : List Str} {f : Str} {vs : List V} {H : Hp} {Q : VK} {E : XK} (hO : OexC K C) (hno : findIn K (.ref C) f = some none) (hN : N.length = 2) (h : spInit K C f vs H Q E) : tOst K f (tVar 0) (tVar 1) { nx := fun _ H' => Q .non H', rt := Q } (L2.start N vs) H := by
  obtain ⟨a, y, rfl, ha, hQ⟩ := h
  exact ⟨y, rfl, .ref a, rfl, a, C, rfl, hO, hno, .inl ⟨ha, fun dx n ne => hQ dx n ne⟩⟩
structure XMk (P : Program) (w : World) (K : Frag) (mg : Str → Option Value) (base : Heap) (x f : Str) : Prop where
  ex : ∃ C fI fd ps, mg x = some (.ref C) ∧ OexC K C ∧ findIn K (.ref C) "__init__" = some (some (.ref fI)) ∧ typeIn K (.ref fI) = some (.type "function") ∧ FnOk P w K mg base L2.CX0 1 fI fd ps (spInit K C f) ∧ Binds K fd ps []
def mRaise1 (x f : Str) (t : MA) : MS := fun ex E δ => t ex δ fun xs => match argsD xs with
  | some [.d y] => ex ⟨x, some (f, y)⟩ δ
  | _ => False
theorem ds_raise1 {x f : Str} (c : Ctx X W k) (M : XMk X.prog X.w X.K X.mg X.base x f) (hk : 2 ≤ k) (hc : X.calm = true) (hg : Gl X x) (ha : DA X W [e] mas u) (hdb : (x == ("__debug__" : Str)) = false := by decide)
    (he : starEach [e] X.env = (false, eval e X.env) :: starEach [] X.env := by rfl) (hpl : (backTo pos (starEach [] X.env)).any (·.1) = false := by rfl) : DS X W (.Raise (some (.Call (.Name x p) [e] [] pos)) none p2) (mRaise1 x f mas) u := by
  obtain ⟨C, fI, fd, ps, hm, hO, iC, tI, F1, hb⟩ := M.ex
  refine ⟨PS.imp (ps_raise hc c.tk (pmk_oex hO iC tI F1 (c.hr.mono hk) hb .nil L2.pass0 hg hm ha.pa hdb he hpl)) ?_⟩
  rintro D σ H ⟨ex, G, F, δ, τ, ts, E, n, nb, eo, m⟩
  refine ⟨ex, G, F, δ, τ, ts, [], [], _, n, m, fun xs hxs vs F1 H1 hl g1 => ?_⟩
  split at hxs
  · rename_i y ea
    obtain ⟨F2, s2, g2⟩ := fix_args xs g1 ea
    have hlen := (argsD_arg ea).1
    have hl1 : [DV.d y].length = vs.length := hlen.trans hl
    obtain ⟨v, rfl, hv, g3⟩ := one_of hl1 g2
    have hat : At G.K F2 v y := hv
    refine ⟨by show 1 ≤ 1000; decide, fun a na => ⟨a, v, rfl, upd_same, fun dx ndx ne => ⟨rfl, dx, [(f, v)], upd_same, by rw [upd_ne ne]; exact upd_same, by rw [upd_ne ne] at ndx; exact ndx, ?_⟩⟩⟩
    rw [upd_ne ne] at ndx
    have eH : upd (del (upd (upd (upd H1 a (exo a C none)) dx (exd dx [(f, v)])) a (exo a C (some dx))) a) dx (.xd [(f, v)]) = upd H1 dx (.xd [(f, v)]) := by
      funext b
      by_cases hbd : b = dx
      · rw [hbd, upd_same, upd_same]
      · rw [upd_ne hbd, upd_ne hbd]
        by_cases hba : b = a
        · rw [hba, del_same, na]
        · rw [del_ne hba, upd_ne hba, upd_ne hbd, upd_ne hba]
    rw [eH]
    have fdx : F2 dx = none := by
      cases q : F2 dx with
      | none => rfl
      | some o => rw [g3.fh _ _ q] at ndx; cases ndx
    have g4 := g3.grow (o := .xd [(f, v)]) ndx
    have hs : Same F2 (upd F2 dx (.xd [(f, v)])) := fun b o q => by rw [upd_ne (ne_of_none q fdx)]; exact q
    refine n.link u _ δ σ _ [] [] ⟨x, some (f, y)⟩ (.ref C) (some dx) (Nat.le_refl _) n.l1 (by simpa using g4) ⟨C, hm, rfl, dx, v, rfl, upd_same, ?_⟩ hxs
    rw [← n.k]
    exact At.mono hs _ _ hat
  · exact hxs.elim
structure XEx (K : Frag) (mg : Str → Option Value) (L : List Str) (sub : Str → Str → Bool) (x : Str) : Prop where
  m : mg x = some (.ref (clsA mg x))
  e : AllS (fun y => exmOne K (.ref (clsA mg y)) (.ref (clsA mg x)) = some (sub y x)) L
end
end DL
namespace DL
open PySem PySem.Spec L2 PySem.W
theorem foldl_max {n : Int} : ∀ {ns : List Int}, (ns.foldl max n = n ∨ ns.foldl max n ∈ ns) ∧ n ≤ ns.foldl max n ∧ ∀ y ∈ ns, y ≤ ns.foldl max n := by
  intro ns
  induction ns generalizing n with
  | nil => exact ⟨.inl rfl, Int.le_refl _, fun y h => by cases h⟩
  | cons a r ih =>
    rw [List.foldl_cons]
    obtain ⟨h1, h2, h3⟩ := ih (n := max n a)
    refine ⟨?_, by omega, fun y hy => ?_⟩
    · rcases h1 with h1 | h1
      · rcases Int.le_total a n with q | q
        · left; rw [h1]; omega
        · right; rw [h1]; have : max n a = a := by omega
          rw [this]; exact List.mem_cons_self
      · right; exact List.mem_cons_of_mem _ h1
    · rcases List.mem_cons.mp hy with rfl | hy
      · omega
      · exact h3 y hy
theorem foldl_min {n : Int} : ∀ {ns : List Int}, (ns.foldl min n = n ∨ ns.foldl min n ∈ ns) ∧ ns.foldl min n ≤ n ∧ ∀ y ∈ ns, ns.foldl min n ≤ y := by
  intro ns
  induction ns generalizing n with
  | nil => exact ⟨.inl rfl, Int.le_refl _, fun y h => by cases h⟩
  | cons a r ih =>
    rw [List.foldl_cons]
    obtain ⟨h1, h2, h3⟩ := ih (n := min n a)
    refine ⟨?_, by omega, fun y hy => ?_⟩
    · rcases h1 with h1 | h1
      · rcases Int.le_total n a with q | q
        · left; rw [h1]; omega
        · right; rw [h1]; have : min n a = a := by omega
          rw [this]; exact List.mem_cons_self
      · right; exact List.mem_cons_of_mem _ h1
    · rcases List.mem_cons.mp hy with rfl | hy
      · omega
      · exact h3 y hy
theorem alike_ints (ns : List Int) : AlikeAll (ns.map PyData.int) := by
  refine ⟨fun x hx y hy => ?_, fun x hx => ?_⟩
  · obtain ⟨a, _, rfl⟩ := List.mem_map.mp hx
    obtain ⟨b, _, rfl⟩ := List.mem_map.mp hy
    rfl
  · obtain ⟨a, _, rfl⟩ := List.mem_map.mp hx
    intro z; cases z
theorem depth_ints : ∀ ns : List Int, PyData.depthAll (ns.map PyData.int) = 0
  | [] => rfl
  | n :: ns => by simp [PyData.depthAll, PyData.depth, depth_ints ns]
theorem reads_ints {h : Heap} : ∀ {us : List Value} {ns : List Int}, Vals (ns.map V.int) us → ∃ as, ReadsAll h us (ns.map PyData.int) as
  | _, [], .nil => ⟨_, .nil⟩
  | _, n :: ns, .cons r rs => by
    obtain ⟨t, rfl⟩ := r
    obtain ⟨as, q⟩ := reads_ints rs
    exact ⟨_, .cons (.int n t) q⟩
def rMaxT (K : PySem.W.Frag) : List V → Hp → VK → Prop := fun vs H Q => ∃ (a : Addr) (n : Int) (ns : List Int), vs = [V.ref a] ∧ SqT K H a ((n :: ns).map V.int) ∧ Q (.int (ns.foldl max n)) H
def rMinT (K : PySem.W.Frag) : List V → Hp → VK → Prop := fun vs H Q => ∃ (a : Addr) (n : Int) (ns : List Int), vs = [V.ref a] ∧ SqT K H a ((n :: ns).map V.int) ∧ Q (.int (ns.foldl min n)) H
section
variable {X : Cx}
theorem cr_maxT (hc : X.calm = true) (hu : X.A.units + 64 < cLine) : CallR X (.builtin "max") (rMaxT X.K) := by
  intro pins s σ H vs us Q I r h
  obtain ⟨a, n, ns, rfl, hs, q⟩ := h
  obtain ⟨its, rv, ht, _⟩ := I.tuple hs
  rw [Vals.ref1 r]
  obtain ⟨as, hr⟩ := reads_ints (h := s.heap) rv
  refine max_tuple_data (I.ok.hd hc) ht hr (alike_ints (n :: ns)) (by
    have := depth_ints (n :: ns)
    simp only [List.map_cons] at this
    omega) fun i v h' tk bs _ rd hk => ?_
  rw [maxD_ints] at rd
  cases rd
  exact ⟨.int _, H, I.kept hk, ⟨_, rfl⟩, q⟩
theorem cr_minT (hc : X.calm = true) (hu : X.A.units + 64 < cLine) : CallR X (.builtin "min") (rMinT X.K) := by
  intro pins s σ H vs us Q I r h
  obtain ⟨a, n, ns, rfl, hs, q⟩ := h
  obtain ⟨its, rv, ht, _⟩ := I.tuple hs
  rw [Vals.ref1 r]
  obtain ⟨as, hr⟩ := reads_ints (h := s.heap) rv
  refine min_tuple_data (I.ok.hd hc) ht hr (alike_ints (n :: ns)) (by
    have := depth_ints (n :: ns)
    simp only [List.map_cons] at this
    omega) fun i v h' tk bs _ rd hk => ?_
  rw [minD_ints] at rd
  cases rd
  exact ⟨.int _, H, I.kept hk, ⟨_, rfl⟩, q⟩
def rMaxA (K : PySem.W.Frag) : List V → Hp → VK → Prop := fun vs H Q => rMax K vs H Q ∨ rMaxT K vs H Q
def rMinA (K : PySem.W.Frag) : List V → Hp → VK → Prop := fun vs H Q => rMin K vs H Q ∨ rMinT K vs H Q
theorem cr_maxA (hc : X.calm = true) (hu : X.A.units + 64 < cLine) : CallR X (.builtin "max") (rMaxA X.K) := by
  intro pins s σ H vs us Q I r h
  rcases h with h | h
  · exact cr_max hc pins s σ H vs us Q I r h
  · exact cr_maxT hc hu pins s σ H vs us Q I r h
theorem cr_minA (hc : X.calm = true) (hu : X.A.units + 64 < cLine) : CallR X (.builtin "min") (rMinA X.K) := by
  intro pins s σ H vs us Q I r h
  rcases h with h | h
  · exact cr_min hc pins s σ H vs us Q I r h
  · exact cr_minT hc hu pins s σ H vs us Q I r h
def DV.seqI (x : DV) : Option (List Int) := match x.seq with
  | some ds => intsOf ds
  | none => none
def oMaxA : D1 := fun x R => match x.seqI with
  | some ns => 0 < ns.length ∧ ∀ m, m ∈ ns → (∀ y, y ∈ ns → y ≤ m) → R (.d (.int m))
  | none => False
def oMinA : D1 := fun x R => match x.seqI with
  | some ns => 0 < ns.length ∧ ∀ m, m ∈ ns → (∀ y, y ∈ ns → m ≤ y) → R (.d (.int m))
  | none => False
theorem seqI_of {G : Gm} {F H : Hp} {v : V} {x : DV} {ns : List Int} (hx : VOk G F H v x) (hf : Same F H) (h : x.seqI = some ns) : ∃ l, v = .ref l ∧ (SqL G.K H l (ns.map V.int) ∨ SqT G.K H l (ns.map V.int)) := by
  unfold DV.seqI at h
  cases x with
  | d y =>
    cases y with
    | list xs =>
      have e : DV.seq (.d (.list xs)) = some xs := rfl
      rw [e] at h
      obtain ⟨l, vs, rfl, h1, h2⟩ := lst_of (xs := xs) hx hf rfl
      rw [intsOf_eq h] at h2
      rw [h2.ints] at h1
      exact ⟨l, rfl, .inl (SqL.of h1)⟩
    | tuple xs =>
      have e : DV.seq (.d (.tuple xs)) = some xs := rfl
      rw [e] at h
      obtain ⟨l, vs, rfl, h1, h2⟩ := tup_of hx hf
      rw [intsOf_eq h] at h2
      rw [h2.ints] at h1
      exact ⟨l, rfl, .inr h1⟩
    | _ => cases h
  | own xs =>
    have e : DV.seq (.own xs) = some xs := rfl
    rw [e] at h
    obtain ⟨l, vs, rfl, h1, h2⟩ := lst_of (xs := xs) hx hf rfl
    rw [intsOf_eq h] at h2
    rw [h2.ints] at h1
    exact ⟨l, rfl, .inl (SqL.of h1)⟩
  | bor xs =>
    have e : DV.seq (.bor xs) = some xs := rfl
    rw [e] at h
    obtain ⟨l, vs, rfl, h1, h2⟩ := lst_of (xs := xs) hx hf rfl
    rw [intsOf_eq h] at h2
    rw [h2.ints] at h1
    exact ⟨l, rfl, .inl (SqL.of h1)⟩
  | _ => cases h
theorem on_maxA : OpN X (rMaxA X.K) (o1 oMaxA) := on_1 fun G F δ σ H v x R Q hK g hx h k => by
  unfold oMaxA at h
  split at h
  · rename_i ns e
    obtain ⟨l, rfl, hs⟩ := seqI_of hx g.fh e
    rw [hK] at hs
    rcases hs with hs | hs
    · exact .inl ⟨l, ns, rfl, hs, h.1, fun m hm hy => k _ (h.2 m hm hy) _ F H (g.pushD (.int _))⟩
    · cases ns with
      | nil => exact absurd h.1 (Nat.lt_irrefl 0)
      | cons n ns =>
        obtain ⟨f1, f2, f3⟩ := foldl_max (n := n) (ns := ns)
        refine .inr ⟨l, n, ns, rfl, hs, k _ (h.2 _ ?_ fun y hy => ?_) _ F H (g.pushD (.int _))⟩
        · rcases f1 with f1 | f1
          · rw [f1]; exact List.mem_cons_self
          · exact List.mem_cons_of_mem _ f1
        · rcases List.mem_cons.mp hy with rfl | hy
          · exact f2
          · exact f3 y hy
  · exact h.elim
theorem on_minA : OpN X (rMinA X.K) (o1 oMinA) := on_1 fun G F δ σ H v x R Q hK g hx h k => by
  unfold oMinA at h
  split at h
  · rename_i ns e
    obtain ⟨l, rfl, hs⟩ := seqI_of hx g.fh e
    rw [hK] at hs
    rcases hs with hs | hs
    · exact .inl ⟨l, ns, rfl, hs, h.1, fun m hm hy => k _ (h.2 m hm hy) _ F H (g.pushD (.int _))⟩
    · cases ns with
      | nil => exact absurd h.1 (Nat.lt_irrefl 0)
      | cons n ns =>
        obtain ⟨f1, f2, f3⟩ := foldl_min (n := n) (ns := ns)
        refine .inr ⟨l, n, ns, rfl, hs, k _ (h.2 _ ?_ fun y hy => ?_) _ F H (g.pushD (.int _))⟩
        · rcases f1 with f1 | f1
          · rw [f1]; exact List.mem_cons_self
          · exact List.mem_cons_of_mem _ f1
        · rcases List.mem_cons.mp hy with rfl | hy
          · exact f2
          · exact f3 y hy
  · exact h.elim
variable {W : WC} {e : Expr} {mas : MA} {u : Nat} {p pos : Pos}
theorem de_maxA (cx : CtxU X) (hc : X.calm = true) (hg : Gl X "max") (hm : X.mg "max" = none) (ha : DA X W [e] mas u) (he : starEach [e] X.env = (false, eval e X.env) :: starEach [] X.env := by rfl) (hpl : (backTo pos (starEach [] X.env)).any (·.1) = false := by rfl) :
    DE X W (.Call (.Name "max" p) [e] [] pos) (mCB (o1 oMaxA) mas) u := de_callB (cr_maxA hc cx.u64) on_maxA hg hm (by decide +kernel) ha (by decide) (by decide) he hpl
theorem de_minA (cx : CtxU X) (hc : X.calm = true) (hg : Gl X "min") (hm : X.mg "min" = none) (ha : DA X W [e] mas u) (he : starEach [e] X.env = (false, eval e X.env) :: starEach [] X.env := by rfl) (hpl : (backTo pos (starEach [] X.env)).any (·.1) = false := by rfl) :
    DE X W (.Call (.Name "min" p) [e] [] pos) (mCB (o1 oMinA) mas) u := de_callB (cr_minA hc cx.u64) on_minA hg hm (by decide +kernel) ha (by decide) (by decide) he hpl
end
section
variable {xs : List PyData} {R : DV → Prop}
theorem oMaxA_t : oMaxA (.d (.tuple xs)) R = (match intsOf xs with | some ns => 0 < ns.length ∧ ∀ m, m ∈ ns → (∀ y, y ∈ ns → y ≤ m) → R (.d (.int m)) | none => False) := rfl
theorem oMaxA_l : oMaxA (.d (.list xs)) R = (match intsOf xs with | some ns => 0 < ns.length ∧ ∀ m, m ∈ ns → (∀ y, y ∈ ns → y ≤ m) → R (.d (.int m)) | none => False) := rfl
theorem oMaxA_o : oMaxA (.own xs) R = (match intsOf xs with | some ns => 0 < ns.length ∧ ∀ m, m ∈ ns → (∀ y, y ∈ ns → y ≤ m) → R (.d (.int m)) | none => False) := rfl
theorem oMaxA_b : oMaxA (.bor xs) R = (match intsOf xs with | some ns => 0 < ns.length ∧ ∀ m, m ∈ ns → (∀ y, y ∈ ns → y ≤ m) → R (.d (.int m)) | none => False) := rfl
theorem oMinA_t : oMinA (.d (.tuple xs)) R = (match intsOf xs with | some ns => 0 < ns.length ∧ ∀ m, m ∈ ns → (∀ y, y ∈ ns → m ≤ y) → R (.d (.int m)) | none => False) := rfl
theorem oMinA_l : oMinA (.d (.list xs)) R = (match intsOf xs with | some ns => 0 < ns.length ∧ ∀ m, m ∈ ns → (∀ y, y ∈ ns → m ≤ y) → R (.d (.int m)) | none => False) := rfl
theorem oMinA_o : oMinA (.own xs) R = (match intsOf xs with | some ns => 0 < ns.length ∧ ∀ m, m ∈ ns → (∀ y, y ∈ ns → m ≤ y) → R (.d (.int m)) | none => False) := rfl
theorem oMinA_b : oMinA (.bor xs) R = (match intsOf xs with | some ns => 0 < ns.length ∧ ∀ m, m ∈ ns → (∀ y, y ∈ ns → m ≤ y) → R (.d (.int m)) | none => False) := rfl
theorem isBor_e {a C : Addr} {d : Option Addr} {er : DExc} : DV.isBor (.exc a C d er) = false := rfl
theorem seen_e {a C : Addr} {d : Option Addr} {er : DExc} : DV.seen (.exc a C d er) = .exc a C d er := rfl
end
theorem eqv_ii {a b : Int} : PyData.eqv (.int a) (.int b) = decide (a = b) := by
  simp only [PyData.eqv]
  by_cases h : a = b <;> simp [h]
theorem eqv_bb {a b : Bool} : PyData.eqv (.bool a) (.bool b) = decide (a = b) := by
  simp only [PyData.eqv]
  cases a <;> cases b <;> rfl
theorem shaped_i {i : Int} : (SeqAt.shaped (.int i) = true) = True := by simp [shaped_int]
theorem shaped_b {b : Bool} : (SeqAt.shaped (.bool b) = true) = True := by simp [SeqAt.shaped, PyData.canLay0, PyData.depth]
theorem shaped_n : (SeqAt.shaped .none = true) = True := by simp [SeqAt.shaped, PyData.canLay0, PyData.depth]
theorem shaped_nil : (SeqAt.shaped (.list []) = true) = True := by simp [SeqAt.shaped, PyData.canLay0, PyData.depth, PyData.canLayAll0, PyData.depthAll]
theorem shaped_nilt : (SeqAt.shaped (.tuple []) = true) = True := by simp [SeqAt.shaped, PyData.canLay0, PyData.depth, PyData.canLayAll0, PyData.depthAll]
theorem if_tt {α : Type} {a b : α} : (if true = true then a else b) = a := rfl
theorem if_ff {α : Type} {a b : α} : (if false = true then a else b) = b := rfl
theorem cp2 : CPow 10 2 = True := eq_true ⟨by decide, by decide, by decide⟩
theorem pw2 : (10 : Int) ^ Int.toNat 2 = 100 := by decide
theorem cp3 : CPow 10 3 = True := eq_true ⟨by decide, by decide, by decide⟩
theorem pw3 : (10 : Int) ^ Int.toNat 3 = 1000 := by decide
theorem cp4 : CPow 10 4 = True := eq_true ⟨by decide, by decide, by decide⟩
theorem pw4 : (10 : Int) ^ Int.toNat 4 = 10000 := by decide
theorem cp5 : CPow 10 5 = True := eq_true ⟨by decide, by decide, by decide⟩
theorem pw5 : (10 : Int) ^ Int.toNat 5 = 100000 := by decide
theorem cp6 : CPow 10 6 = True := eq_true ⟨by decide, by decide, by decide⟩
theorem pw6 : (10 : Int) ^ Int.toNat 6 = 1000000 := by decide
theorem cp7 : CPow 10 7 = True := eq_true ⟨by decide, by decide, by decide⟩
theorem pw7 : (10 : Int) ^ Int.toNat 7 = 10000000 := by decide
theorem cp8 : CPow 10 8 = True := eq_true ⟨by decide, by decide, by decide⟩
theorem pw8 : (10 : Int) ^ Int.toNat 8 = 100000000 := by decide
theorem cp9 : CPow 10 9 = True := eq_true ⟨by decide, by decide, by decide⟩
theorem pw9 : (10 : Int) ^ Int.toNat 9 = 1000000000 := by decide
theorem cp10 : CPow 10 10 = True := eq_true ⟨by decide, by decide, by decide⟩
theorem pw10 : (10 : Int) ^ Int.toNat 10 = 10000000000 := by decide
theorem cp11 : CPow 10 11 = True := eq_true ⟨by decide, by decide, by decide⟩
theorem pw11 : (10 : Int) ^ Int.toNat 11 = 100000000000 := by decide
theorem cp12 : CPow 10 12 = True := eq_true ⟨by decide, by decide, by decide⟩
theorem pw12 : (10 : Int) ^ Int.toNat 12 = 1000000000000 := by decide
theorem cp13 : CPow 10 13 = True := eq_true ⟨by decide, by decide, by decide⟩
theorem pw13 : (10 : Int) ^ Int.toNat 13 = 10000000000000 := by decide
theorem cp14 : CPow 10 14 = True := eq_true ⟨by decide, by decide, by decide⟩
theorem pw14 : (10 : Int) ^ Int.toNat 14 = 100000000000000 := by decide
theorem cp15 : CPow 10 15 = True := eq_true ⟨by decide, by decide, by decide⟩
theorem pw15 : (10 : Int) ^ Int.toNat 15 = 1000000000000000 := by decide
theorem cp16 : CPow 10 16 = True := eq_true ⟨by decide, by decide, by decide⟩
theorem pw16 : (10 : Int) ^ Int.toNat 16 = 10000000000000000 := by decide
theorem cp17 : CPow 10 17 = True := eq_true ⟨by decide, by decide, by decide⟩
theorem pw17 : (10 : Int) ^ Int.toNat 17 = 100000000000000000 := by decide
theorem cp18 : CPow 10 18 = True := eq_true ⟨by decide, by decide, by decide⟩
theorem pw18 : (10 : Int) ^ Int.toNat 18 = 1000000000000000000 := by decide
theorem cp19 : CPow 10 19 = True := eq_true ⟨by decide, by decide, by decide⟩
theorem pw19 : (10 : Int) ^ Int.toNat 19 = 10000000000000000000 := by decide
theorem cp20 : CPow 10 20 = True := eq_true ⟨by decide, by decide, by decide⟩
theorem pw20 : (10 : Int) ^ Int.toNat 20 = 100000000000000000000 := by decide
theorem cp21 : CPow 10 21 = True := eq_true ⟨by decide, by decide, by decide⟩
theorem pw21 : (10 : Int) ^ Int.toNat 21 = 1000000000000000000000 := by decide
theorem cp22 : CPow 10 22 = True := eq_true ⟨by decide, by decide, by decide⟩
theorem pw22 : (10 : Int) ^ Int.toNat 22 = 10000000000000000000000 := by decide
theorem cp23 : CPow 10 23 = True := eq_true ⟨by decide, by decide, by decide⟩
theorem pw23 : (10 : Int) ^ Int.toNat 23 = 100000000000000000000000 := by decide
theorem cp24 : CPow 10 24 = True := eq_true ⟨by decide, by decide, by decide⟩
theorem pw24 : (10 : Int) ^ Int.toNat 24 = 1000000000000000000000000 := by decide
theorem cp25 : CPow 10 25 = True := eq_true ⟨by decide, by decide, by decide⟩
theorem pw25 : (10 : Int) ^ Int.toNat 25 = 10000000000000000000000000 := by decide
theorem cp26 : CPow 10 26 = True := eq_true ⟨by decide, by decide, by decide⟩
theorem pw26 : (10 : Int) ^ Int.toNat 26 = 100000000000000000000000000 := by decide
theorem cp27 : CPow 10 27 = True := eq_true ⟨by decide, by decide, by decide⟩
theorem pw27 : (10 : Int) ^ Int.toNat 27 = 1000000000000000000000000000 := by decide
theorem cp28 : CPow 10 28 = True := eq_true ⟨by decide, by decide, by decide⟩
theorem pw28 : (10 : Int) ^ Int.toNat 28 = 10000000000000000000000000000 := by decide
theorem cp29 : CPow 10 29 = True := eq_true ⟨by decide, by decide, by decide⟩
theorem pw29 : (10 : Int) ^ Int.toNat 29 = 100000000000000000000000000000 := by decide
theorem cp30 : CPow 10 30 = True := eq_true ⟨by decide, by decide, by decide⟩
theorem pw30 : (10 : Int) ^ Int.toNat 30 = 1000000000000000000000000000000 := by decide
theorem cp31 : CPow 10 31 = True := eq_true ⟨by decide, by decide, by decide⟩
theorem pw31 : (10 : Int) ^ Int.toNat 31 = 10000000000000000000000000000000 := by decide
theorem cp32 : CPow 10 32 = True := eq_true ⟨by decide, by decide, by decide⟩
theorem pw32 : (10 : Int) ^ Int.toNat 32 = 100000000000000000000000000000000 := by decide
theorem cp33 : CPow 10 33 = True := eq_true ⟨by decide, by decide, by decide⟩
theorem pw33 : (10 : Int) ^ Int.toNat 33 = 1000000000000000000000000000000000 := by decide
theorem cp34 : CPow 10 34 = True := eq_true ⟨by decide, by decide, by decide⟩
theorem pw34 : (10 : Int) ^ Int.toNat 34 = 10000000000000000000000000000000000 := by decide
theorem cp35 : CPow 10 35 = True := eq_true ⟨by decide, by decide, by decide⟩
theorem pw35 : (10 : Int) ^ Int.toNat 35 = 100000000000000000000000000000000000 := by decide
theorem cp36 : CPow 10 36 = True := eq_true ⟨by decide, by decide, by decide⟩
theorem pw36 : (10 : Int) ^ Int.toNat 36 = 1000000000000000000000000000000000000 := by decide
theorem cp37 : CPow 10 37 = True := eq_true ⟨by decide, by decide, by decide⟩
theorem pw37 : (10 : Int) ^ Int.toNat 37 = 10000000000000000000000000000000000000 := by decide
theorem cp38 : CPow 10 38 = True := eq_true ⟨by decide, by decide, by decide⟩
theorem pw38 : (10 : Int) ^ Int.toNat 38 = 100000000000000000000000000000000000000 := by decide
theorem cp39 : CPow 10 39 = True := eq_true ⟨by decide, by decide, by decide⟩
theorem pw39 : (10 : Int) ^ Int.toNat 39 = 1000000000000000000000000000000000000000 := by decide
theorem cp40 : CPow 10 40 = True := eq_true ⟨by decide, by decide, by decide⟩
theorem pw40 : (10 : Int) ^ Int.toNat 40 = 10000000000000000000000000000000000000000 := by decide
theorem cdiv {i m : Int} (h0 : 0 < m) (h1 : m ≤ 2 ^ 100) : CDivW i m := ⟨h0, by
  have h2 : m.natAbs < 2 ^ 101 := by
    have e : ((2 ^ 101 : Nat) : Int) = 2 ^ 101 := by norm_cast
    have e2 : (2 : Int) ^ 100 < 2 ^ 101 := by decide
    omega
  have := (Nat.log2_lt (by omega) (k := 101)).mpr h2
  omega⟩
end DL
namespace DL
open PySem PySem.Spec L2 StX
structure FnS (P : Program) (w : World) (K : PySem.W.Frag) (mg : Str → Option Value) (base : Heap) (k : Nat) (f : Addr) (sp : Sp) : Prop where
  run : ∀ (A : Around) (outer : List PySem.Env) (s : Shared) (H : Hp) (us : List Value) (vs : List V) (Q : VK) (E : XK), A.guards = some [] → Room k A → Env0 P w K mg base A outer s H → Vals vs us → sp vs H Q E →
    codeAny (model P w) A (.call (.ref f) ⟨us, []⟩) (CR (L2.CX P w) outer P w H s Q E) s
section
variable {P : Program} {w : World} {K : PySem.W.Frag} {mg : Str → Option Value} {base : Heap}
theorem FnS.mono {j k : Nat} {f : Addr} {sp : Sp} (h : FnS P w K mg base j f sp) (q : j ≤ k) : FnS P w K mg base k f sp :=
  ⟨fun A outer s H us vs Q E hg hr => h.run A outer s H us vs Q E hg (hr.mono q)⟩
def spS (K : PySem.W.Frag) (mg : Str → Option Value) (CK : CKT) (u : Nat) (mf : MF) : Sp := fun vs H Q E => ∃ (G : Gm) (F : Hp) (as : List DV) (R : DV → Prop) (ex : DExc → Prop), G.K = K ∧ (CK G.C G.cv G.J G.lim ∧ G.n + u ≤ G.lim) ∧ as.length = vs.length ∧ (∀ x ∈ as, x.arg = true) ∧ Good G F (as.map some) (vs.map some) H ∧ mf as R ex ∧
  (∀ r, R r → r.arg = true → ∀ v F' H', Good (G.up u) F' [some r] [some v] H' → Q v H') ∧
  (∀ e, ex e → ∀ b cls d F' H', b ≤ u → Good (G.up b) F' [] [] H' → ExcAt K mg F' H' e cls d → E cls d H')
structure DFnS (P : Program) (w : World) (K : PySem.W.Frag) (mg : Str → Option Value) (base : Heap) (CK : CKT) (x : Str) (k u : Nat) (mf : MF) : Prop where
  ex : ∃ f, mg x = some (.ref f) ∧ PySem.W.keepIn K (.ref f) = true ∧ FnS P w K mg base k f (spS K mg CK u mf)
end
section
variable {X : Cx} {W : WC} {e : Expr} {es : List Expr} {pos p : Pos} {mas : MA} {x : Str} {k j u1 u2 : Nat} {mf : MF}
end
theorem DFnS.le {P : Program} {w : World} {K : PySem.W.Frag} {mg : Str → Option Value} {base : Heap} {CK : CKT} {x : Str} {k u u' : Nat} {mf : MF} (h : DFnS P w K mg base CK x k u mf) (hu : u ≤ u') : DFnS P w K mg base CK x k u' mf := by
  obtain ⟨f, h1, h2, h5⟩ := h
  refine ⟨f, h1, h2, ⟨fun A outer s H us vs Q E hg hr e0 r q => h5.run A outer s H us vs Q E hg hr e0 r ?_⟩⟩
  obtain ⟨G, F, as, R, ex, q2, q3, q4, q5, q6, q7, q8, q9⟩ := q
  exact ⟨G, F, as, R, ex, q2, ⟨q3.1, Nat.le_trans (Nat.add_le_add_left hu _) q3.2⟩, q4, q5, q6, q7, fun r hr ha v F' H' g => q8 r hr ha v F' H' (g.mono hu), fun e he b cls d F' H' hb g => q9 e he b cls d F' H' (Nat.le_trans hb hu) g⟩
end DL
namespace PySem
open Sem (wp)
end PySem
namespace DL
open PySem PySem.Spec L2 StX
end DL
namespace DL
open PySem PySem.Spec L2 StX
def enumD : Nat → List PyData → List PyData
  | _, [] => []
  | k, d :: ds => .tuple [.int (k : Nat), d] :: enumD (k + 1) ds
theorem enumD_get : ∀ {k : Nat} {ds : List PyData} {i : Nat}, (enumD k ds)[i]? = ds[i]?.map fun d => .tuple [.int ((k + i : Nat) : Int), d]
  | _, [], _ => by simp [enumD]
  | k, d :: ds, 0 => by simp [enumD]
  | k, d :: ds, i + 1 => by
    simp only [enumD, List.getElem?_cons_succ]
    rw [enumD_get]
    have : k + 1 + i = k + (i + 1) := by omega
    rw [this]
theorem enumD_len : ∀ {k : Nat} {ds : List PyData}, (enumD k ds).length = ds.length
  | _, [] => rfl
  | k, d :: ds => by simp [enumD, enumD_len]
section
variable {X : Cx} {W : WC} {u : Nat} {e e2 : Expr} {mas : MA} {elts : List Expr} {kk : Nat} {tpos p pos : Pos}
theorem pair_new {G : Gm} {F H : Hp} {A : Env} {A' : L2.St} {T : Addr} {v w : V} {d c : PyData} (g : Good G F A A' H) (hT : H T = none) (h1 : At G.K F v d) (h2 : At G.K F w c) : ∃ F', Good G F' (A ++ [some (.d (.tuple [d, c]))]) (A' ++ [some (.ref T)]) (upd H T (.tup [v, w])) :=
  ⟨_, g.newT hT (.cons h1 (.cons h2 .nil))⟩
def mIEnumL (mas : MA) : MI := fun ex δ R => mas ex δ fun xs => match xs with
  | [x] => match x.rd with
    | some ds => R ⟨[x], enumD 0 ds⟩
    | none => False
  | _ => False
theorem di_enumL (hg : Gl X "enumerate") (hm : X.mg "enumerate" = none) (ha : DA X W [e] mas u) (hs : starEach [e] X.env = [(false, eval e X.env)] := by rfl) : DI X W (.Tuple elts kk tpos) (.Call (.Name "enumerate" p) [e] [] pos) (mIEnumL mas) u :=
  ⟨PI.imp (pi_enum hg hm ha.pa hs) fun σ H Q q => by
    obtain ⟨ex, G, F, δ, τ, ts, τ1, ts1, R, n, m, k⟩ := q
    refine ⟨ex, G, F, δ, τ, ts, τ1, ts1, _, n, m, fun xs hxs vs F1 H1 hl g1 => ?_⟩
    match xs, hxs, hl, g1 with
    | [x], hxs, hl, g1 =>
      obtain ⟨v, rfl, hv, g⟩ := one_of hl g1
      have hxs : (match x.rd with | some ds => R ⟨[x], enumD 0 ds⟩ | none => False) := hxs
      split at hxs
      · rename_i ds ex
        obtain ⟨l, vs, rfl, hs, ha⟩ := rd_of hv g1.fh ex
        rw [show (G.up u).K = X.K from n.k] at hs
        refine ⟨l, vs, rfl, hs, k _ hxs [.ref l] F1 H1 _ rfl g1 fun b i F2 A B A' B' H2 hA hB g2 => ?_⟩
        have ht := sub1 (g2.cut hB)
        obtain ⟨l', vs', e1, hs0, ha'⟩ := rd_of ht g2.fh ex
        cases e1
        have hs' : SqL X.K H2 l vs' := by rw [← n.k]; exact hs0
        refine ⟨fun hi => ⟨vs', hs', by rw [ha'.length]; rw [enumD_len] at hi; exact hi⟩, fun d hd => ?_⟩
        rw [enumD_get] at hd
        cases hd0 : ds[i]? with
        | none => rw [hd0] at hd; cases hd
        | some d0 =>
          rw [hd0] at hd
          cases hd
          obtain ⟨w, ew, hw⟩ := ha'.get hd0
          refine ⟨⟨vs', w, hs', ew⟩, fun y H3 hy => ?_⟩
          obtain ⟨T, w', rfl, hT, rfl, hy⟩ := hy
          have := hy vs' hs'
          rw [ew] at this
          cases this
          have hi0 : ((0 + i : Nat) : Int) = (i : Nat) := by omega
          rw [hi0]
          exact pair_new g2 hT (.int _) hw
      · exact hxs.elim⟩
end
end DL
namespace DL
open PySem PySem.Spec L2 PyProof.Rows
section
variable {u u1 u2 u3 u4 : Nat} {X : Cx} {W : WC} {a b c d : Expr} {pos : Pos} {ma mb mc md : ME}
end
end DL
namespace DL
open PySem PySem.Spec L2
theorem Falls.by {l : SRow} (I : Inc l) {rt : Bool} {s lo hi j : Nat} (h : Falls l rt s lo hi) (h1 : lo ≤ j) (h2 : j ≤ hi) : j = s ∨ ∃ k, lo ≤ k ∧ k ≤ hi ∧ Hit l rt k j := by
  have hb := h.bd
  unfold Falls at h
  cases rt with
  | true =>
    obtain ⟨rfl, h⟩ := h
    rcases Nat.eq_or_lt_of_le h1 with q | q
    · exact .inl q.symm
    · obtain ⟨k, a, b, c⟩ := h.ch j q h2
      exact .inr ⟨k, a, by omega, I.inc _ _ b (by omega), c⟩
  | false =>
    obtain ⟨rfl, h⟩ := h
    rcases Nat.eq_or_lt_of_le h2 with q | q
    · exact .inl q
    · obtain ⟨k, a, b, c⟩ := h.ch j h1 q
      exact .inr ⟨k, by omega, b, c, I.inc _ _ a (by omega)⟩
theorem eqv_lr : PyData.eqv (.str "left") (.str "right") = false := by decide +kernel
theorem eqv_rl : PyData.eqv (.str "right") (.str "left") = false := by decide +kernel
theorem eqv_ll : PyData.eqv (.str "left") (.str "left") = true := by decide +kernel
theorem eqv_rr : PyData.eqv (.str "right") (.str "right") = true := by decide +kernel
mutual
theorem eqv_rfl : ∀ d : PyData, d.canLay0 = true → PyData.eqv d d = true
  | .none, _ => by simp [PyData.eqv]
  | .bool b, _ => by cases b <;> simp [PyData.eqv]
  | .int i, _ => by simp [PyData.eqv]
  | .str x, _ => by simp [PyData.eqv]
  | .list xs, h => by
    simp only [PyData.eqv]
    exact eqvAll_rfl xs (by simpa [PyData.canLay0] using h)
  | .tuple xs, h => by
    simp only [PyData.eqv]
    exact eqvAll_rfl xs (by simpa [PyData.canLay0] using h)
  | .dict _, h => by simp [PyData.canLay0] at h
theorem eqvAll_rfl : ∀ xs : List PyData, PyData.canLayAll0 xs = true → PyData.eqvAll xs xs = true
  | [], _ => by simp [PyData.eqvAll]
  | x :: xs, h => by
    simp only [PyData.canLayAll0, Bool.and_eq_true] at h
    simp only [PyData.eqvAll, eqv_rfl x h.1, eqvAll_rfl xs h.2, Bool.and_self]
end
theorem row_mem {l : SRow} {p : Int × Int} (hp : p ∈ l) : ∃ i, i < l.length ∧ pl l i = p.1 ∧ ht l i = p.2 := by
  obtain ⟨i, hi, e⟩ := List.mem_iff_getElem.mp hp
  refine ⟨i, hi, ?_, ?_⟩
  · unfold pl
    rw [List.getD_eq_getElem?_getD, List.getElem?_eq_getElem hi, e]
    rfl
  · unfold ht
    rw [List.getD_eq_getElem?_getD, List.getElem?_eq_getElem hi, e]
    rfl
theorem row_get {l : SRow} {i : Nat} (hi : i < l.length) : l[i]? = some (pl l i, ht l i) := by
  unfold pl ht
  rw [List.getD_eq_getElem?_getD, List.getElem?_eq_getElem hi]
  rfl
end DL
namespace PySem
open PySem.AutoSeq1 (wpAny_loadPart')
end PySem
namespace DL
open PySem PySem.Spec L2
end DL
namespace DL
open PySem PySem.Spec L2
section
variable {X : Cx} {W : WC} {u1 u2 : Nat} {c e : Expr} {es : List Expr} {pos : Pos} {mt : MT} {m : MS} {mas : MA}
variable {x : Str} {p1 ap cp : Pos}
end
end DL
namespace DL
open PySem PySem.Spec L2
theorem key_reads {h : Heap} {k : Key} {u : Value} (e : keyIs k u = true) : Reads h u (keyD k) [] := by
  rcases keyIs_shape e with ⟨i, t, rfl, rfl⟩ | ⟨x, t, rfl, rfl⟩
  · exact Reads.int i t
  · exact Reads.str x t
section
open PySem.P3
variable {P : Program} {w : World} {h : Heap}
def Sh (P : Program) (w : World) (h : Heap) (u : Value) (d : PyData) : Prop := ∃ as bs, Reads h u d as ∧ ReadAtMost h d.depth bs ∧ ReprK P w bs h d.depth u d.shown
def ShA (P : Program) (w : World) (h : Heap) (us : List Value) (ds : List PyData) : Prop := ∃ as bs, ReadsAll h us ds as ∧ ReadAtMost h (PyData.depthAll ds) bs ∧ ReprAllK P w bs h (PyData.depthAll ds) us (PyData.shownAll ds)
theorem rk_key {k : Key} {u : Value} (e : keyIs k u = true) (hs : (keyD k).showable = true) (hz : (keyD k).shown.length ≤ sizeLine) : Sh P w h u (keyD k) := by
  refine ⟨[], [], key_reads e, fun _ z => (nomatch z), ?_⟩
  rcases keyIs_shape e with ⟨i, t, rfl, rfl⟩ | ⟨x, t, rfl, rfl⟩
  · have q : ReprK P w [] h 0 (.int i t) (PyData.shown (.int i)) := by
      simp only [PyData.shown]
      exact .of_is (ReprIs.int t (by simpa [keyD, PyData.showable] using hs)) _ _ _
    exact q
  · have q : ReprK P w [] h 0 (.str x t) (PyData.shown (.str x)) := by
      simp only [PyData.shown]
      exact .of_is (ReprIs.str x t (by simpa only [keyD, PyData.shown] using hz)) _ _ _
    exact q
theorem sha_cons {u : Value} {us : List Value} {d : PyData} {ds : List PyData} (h1 : Sh P w h u d) (h2 : ShA P w h us ds) : ShA P w h (u :: us) (d :: ds) := by
  obtain ⟨as, bs, r1, m1, k1⟩ := h1
  obtain ⟨cs, es, r2, m2, k2⟩ := h2
  refine ⟨_, bs ++ es, ReadsAll.cons r1 r2, ?_, ?_⟩
  · rw [PyData.depthAll]
    exact (m1.mono (Nat.le_max_left _ _)).append (m2.mono (Nat.le_max_right _ _))
  · rw [PyData.depthAll, PyData.shownAll]
    have q1 := (k1.more fun b hb => (List.mem_append_left es hb : b ∈ bs ++ es)).level_le (Nat.le_max_left d.depth (PyData.depthAll ds))
    have q2 := k2.more_le (fun b hb => (List.mem_append_right bs hb : b ∈ bs ++ es)) (Nat.le_max_right d.depth (PyData.depthAll ds))
    exact ReprAllK.cons q1 q2
theorem sha_nil : ShA P w h [] [] := ⟨[], [], ReadsAll.nil, fun _ z => (nomatch z), by rw [PyData.shownAll]; exact ReprAllK.nil⟩
theorem sh_list {a : Addr} {o : Obj} {n : Nat} {us : List Value} {ds : List PyData} (ho : h.get? a = some o) (hc : o.cls = .type "list") (hd : o.data = .seq us.toArray n) (q : ShA P w h us ds) : Sh P w h (.ref a) (.list ds) := by
  obtain ⟨as, bs, r, m, k⟩ := q
  have rr : Reads h (.ref a) (.list ds) _ := Reads.list ho hc hd r
  have dp : (PyData.list ds).depth = PyData.depthAll ds + 1 := by simp only [PyData.depth]
  have na : a ∉ bs := not_mem_of_deeper rr (by omega) m
  refine ⟨_, a :: bs, rr, ReadAtMost.cons rr (Nat.le_refl _) (m.mono (by omega)), ?_⟩
  rw [dp]
  simp only [PyData.shown]
  cases us with
  | nil =>
    cases r
    simp only [PyData.shownAll, listText_nil]
    exact ReprK.listEmpty ho hc hd
  | cons x l => exact ReprK.list ho hc hd na (by simpa using k.length_eq) fun i y e => k.item i y (by simpa using e)
theorem sh_tuple {a : Addr} {o : Obj} {n : Nat} {us : List Value} {ds : List PyData} (ho : h.get? a = some o) (hc : o.cls = .type "tuple") (hd : o.data = .seq us.toArray n) (q : ShA P w h us ds) : Sh P w h (.ref a) (.tuple ds) := by
  obtain ⟨as, bs, r, m, k⟩ := q
  have rr : Reads h (.ref a) (.tuple ds) _ := Reads.tuple ho hc hd r
  have dp : (PyData.tuple ds).depth = PyData.depthAll ds + 1 := by simp only [PyData.depth]
  have na : a ∉ bs := not_mem_of_deeper rr (by omega) m
  refine ⟨_, a :: bs, rr, ReadAtMost.cons rr (Nat.le_refl _) (m.mono (by omega)), ?_⟩
  rw [dp]
  simp only [PyData.shown]
  exact ReprK.tuple ho hc hd na k
theorem sh_dict {a : Addr} {o : Obj} {n : Nat} {es : Array DictEntry} {ds : List (PyData × PyData)} (ho : h.get? a = some o) (hc : o.cls = .type "dict") (hd : o.data = .dict es n) (hsm : (a == sysModules) = false)
    (q1 : ShA P w h (es.toList.map (·.key)) (ds.map (·.1))) (q2 : ShA P w h (es.toList.map (·.val)) (ds.map (·.2))) : Sh P w h (.ref a) (.dict ds) := by
  obtain ⟨as, b1, r1, m1, k1⟩ := q1
  obtain ⟨cs, b2, r2, m2, k2⟩ := q2
  have rr : Reads h (.ref a) (.dict ds) _ := Reads.dict ho hc hd r1 r2
  have dp : (PyData.dict ds).depth = PyData.depthKv ds + 1 := by simp only [PyData.depth]
  have m : ReadAtMost h (PyData.depthKv ds) (b1 ++ b2) := (m1.mono (PyData.depthAll_keys_le ds)).append (m2.mono (PyData.depthAll_vals_le ds))
  have na : a ∉ b1 ++ b2 := not_mem_of_deeper rr (by omega) m
  refine ⟨_, a :: (b1 ++ b2), rr, ReadAtMost.cons rr (Nat.le_refl _) (m.mono (by omega)), ?_⟩
  rw [dp]
  simp only [PyData.shown, PyData.shownKv_eq]
  have z1 := k1.more_le (fun b hb => (List.mem_append_left b2 hb : b ∈ b1 ++ b2)) (PyData.depthAll_keys_le ds)
  have z2 := k2.more_le (fun b hb => (List.mem_append_right b1 hb : b ∈ b1 ++ b2)) (PyData.depthAll_vals_le ds)
  exact ReprK.dict ho hc hd hsm na (ReprEntriesK.of_two es.toList _ _ z1 z2)
variable {A : Around} {E : Value → Shared → Prop} {s : Shared} {Q : Value → Shared → Prop}
end
theorem obj_hid {x : PyData} {ks : List (PyData × PyData)} : PyData.showable (.dict ((objK, x) :: ks)) = false := by
  have h : decide (bigI.natAbs.log2 < 1920) = false := by decide +kernel
  simp only [PyData.showable, PyData.showableKv, PyData.showableAll, h, Bool.false_and]
mutual
theorem At.sh {X : Cx} {pins : List (Addr × Obj)} {σ : L2.St} {H F : Hp} {s : Shared} (I : Inv X pins σ H s) (hf : Same F H) : ∀ (d : PyData) (v : V) (u : Value), At X.K F v d → RelV v u → d.showable = true → d.shown.length ≤ sizeLine → Sh X.prog X.w s.heap u d
  | .none, _, _, h, r, _, _ => by
    cases h; cases r
    exact ⟨[], [], Reads.none, fun _ z => (nomatch z), by simp only [PyData.shown]; exact .of_is ReprIs.none _ _ _⟩
  | .bool b, _, _, h, r, _, _ => by
    cases h; cases r
    exact ⟨[], [], Reads.bool b, fun _ z => (nomatch z), by simp only [PyData.shown]; exact .of_is (ReprIs.bool b) _ _ _⟩
  | .int i, _, _, h, r, hs, hz => by
    cases h
    obtain ⟨t, rfl⟩ := r
    exact rk_key (k := .inl i) (show keyIs (.inl i) (.int i t) = true by simp [keyIs, Value.isInt]) hs hz
  | .str x, _, _, h, r, hs, hz => by
    cases h
    obtain ⟨t, rfl⟩ := r
    exact rk_key (k := .inr x) (show keyIs (.inr x) (.str x t) = true by simp [keyIs, Value.isStr, Value.isStrOf]) hs hz
  | .list ds, _, _, h, r, hs, hz => by
    cases h with
    | lst hl ha =>
      cases r
      obtain ⟨its, rv, ⟨o, n, ho, hc, _, hdat⟩, _⟩ := I.list (SqL.of (hf _ _ hl))
      simp only [PyData.showable] at hs
      simp only [PyData.shown] at hz
      exact sh_list ho hc hdat (AtL.sh I hf ds _ its ha rv hs fun t ht => Nat.le_trans (listText_mem_le ht) hz)
  | .tuple ds, _, _, h, r, hs, hz => by
    cases h with
    | tup hl ha =>
      cases r
      obtain ⟨its, rv, ⟨o, ho, hc, n, hdat⟩, _⟩ := I.tuple (SqT.of (hf _ _ hl))
      simp only [PyData.showable] at hs
      simp only [PyData.shown] at hz
      exact sh_tuple ho hc hdat (AtL.sh I hf ds _ its ha rv hs fun t ht => Nat.le_trans (tupleText_mem_le ht) hz)
  | .dict ds, _, _, h, r, hs, hz => by
    cases h with
    | obj _ _ _ _ => exact absurd hs (by rw [obj_hid]; decide)
    | dct hl ha =>
      cases r
      obtain ⟨_, hd, vs, rel, o, es, ep, eo, exd, hdat, _, hp, _⟩ := dk_rd I.hok (rd_mono hf hl)
      simp only [PyData.showable] at hs
      simp only [PyData.shown] at hz
      obtain ⟨s1, s2⟩ := PyData.showableKv_split ds hs
      obtain ⟨q1, q2⟩ := AtKv.sh I hf ds _ vs es.toList ha rel hp s1 s2 (fun t ht => by
        obtain ⟨p, hp, hl⟩ := PyData.shownKv_key_le ds t ht
        exact Nat.le_trans hl (Nat.le_trans (dictText_mem_le hp) hz)) fun t ht => by
        obtain ⟨p, hp, hl⟩ := PyData.shownKv_val_le ds t ht
        exact Nat.le_trans hl (Nat.le_trans (dictText_mem_le hp) hz)
      exact sh_dict eo exd.1 hdat hd q1 q2
theorem AtL.sh {X : Cx} {pins : List (Addr × Obj)} {σ : L2.St} {H F : Hp} {s : Shared} (I : Inv X pins σ H s) (hf : Same F H) : ∀ (ds : List PyData) (vs : List V) (us : List Value), AtL X.K F vs ds → Vals vs us → PyData.showableAll ds = true → (∀ t ∈ PyData.shownAll ds, t.length ≤ sizeLine) → ShA X.prog X.w s.heap us ds
  | [], _, _, h, r, _, _ => by cases h; cases r; exact sha_nil
  | d :: ds, _, _, h, r, hs, hz => by
    cases h with
    | cons h1 h2 =>
      cases r with
      | cons r1 r2 =>
        simp only [PyData.showableAll, Bool.and_eq_true] at hs
        rw [PyData.shownAll] at hz
        exact sha_cons (At.sh I hf d _ _ h1 r1 hs.1 (hz _ (List.mem_cons_self ..))) (AtL.sh I hf ds _ _ h2 r2 hs.2 fun t ht => hz t (List.mem_cons_of_mem _ ht))
theorem AtKv.sh {X : Cx} {pins : List (Addr × Obj)} {σ : L2.St} {H F : Hp} {s : Shared} (I : Inv X pins σ H s) (hf : Same F H) : ∀ (ds : List (PyData × PyData)) (kvs : List (Key × V)) (vs : List (Key × Value)) (es : List DictEntry), AtKv X.K F kvs ds → KV kvs vs → Pairs (mixKind X.prog X.w) es vs →
    PyData.showableAll (ds.map (·.1)) = true → PyData.showableAll (ds.map (·.2)) = true → (∀ t ∈ PyData.shownAll (ds.map (·.1)), t.length ≤ sizeLine) → (∀ t ∈ PyData.shownAll (ds.map (·.2)), t.length ≤ sizeLine) →
    ShA X.prog X.w s.heap (es.map (·.key)) (ds.map (·.1)) ∧ ShA X.prog X.w s.heap (es.map (·.val)) (ds.map (·.2))
  | [], _, _, _, h, r, p, _, _, _, _ => by cases h; cases r; cases p; exact ⟨sha_nil, sha_nil⟩
  | (_, d) :: ds, _, _, _, h, r, p, s1, s2, z1, z2 => by
    cases h with
    | cons h1 h2 =>
      cases r with
      | cons r1 r2 =>
        cases p with
        | cons p1 p2 p3 =>
          obtain ⟨e1, e2⟩ := r1
          dsimp only at e1 e2
          rw [← e1] at p1
          rw [← p2] at e2
          simp only [List.map_cons, PyData.showableAll, Bool.and_eq_true] at s1 s2
          rw [List.map_cons, PyData.shownAll] at z1 z2
          obtain ⟨q1, q2⟩ := AtKv.sh I hf ds _ _ _ h2 r2 p3 s1.2 s2.2 (fun t ht => z1 t (List.mem_cons_of_mem _ ht)) fun t ht => z2 t (List.mem_cons_of_mem _ ht)
          exact ⟨sha_cons (rk_key p1 s1.1 (z1 _ (List.mem_cons_self ..))) q1, sha_cons (At.sh I hf d _ _ h1 e2 s2.1 (z2 _ (List.mem_cons_self ..))) q2⟩
end
def ShowsD (d : PyData) : Prop := d.showable = true ∧ d.shown.length ≤ sizeLine ∧ d.depth ≤ 30
theorem Shows.d {d : PyData} (h : Shows d) : ShowsD d := h.2
section
variable {X : Cx} {W : WC} {u : Nat} {e : Expr} {mas : MA} {pos p : Pos}
def mDict0 : ME := fun _ _ R => R (.odk [])
theorem de_dict0 : DE X W (.Dict [] [] pos) mDict0 0 := ⟨PE.imp pe_dnewK fun σ H Q q => by
  obtain ⟨ex, G, F, δ, τ, ts, τ1, ts1, R, n, m, k⟩ := q
  exact fun p hp => k _ m _ F _ ((n.good.later 0).newK hp .nil)⟩
end
section
variable {X : Cx} {W : WC} {u1 u2 : Nat} {e : Expr} {es : List Expr} {mas : MA} {me : ME} {pos p ap cp : Pos}
end
structure SzD (d : PyData) (dp wd : Nat) : Prop where
  sh : d.showable = true
  de : d.depth ≤ dp
  ln : d.shown.length ≤ wd
theorem Sz.d {d : PyData} {dp wd : Nat} (h : Sz d dp wd) : SzD d dp wd := ⟨h.sh, h.de, Nat.le_trans (shown_le d h.nd h.sh) h.wi⟩
theorem SzD.mono {d : PyData} {a b a' b' : Nat} (h : SzD d a b) (ha : a ≤ a') (hb : b ≤ b') : SzD d a' b' := ⟨h.sh, Nat.le_trans h.de ha, Nat.le_trans h.ln hb⟩
theorem szDA {dp wd : Nat} : ∀ {xs : List PyData}, (∀ x ∈ xs, SzD x dp wd) → PyData.showableAll xs = true ∧ PyData.depthAll xs ≤ dp ∧ piled (PyData.shownAll xs) ≤ xs.length * (wd + 2)
  | [], _ => ⟨rfl, Nat.zero_le _, by simp [PyData.shownAll, piled_nil]⟩
  | x :: xs, h => by
    have a := h x (by simp)
    obtain ⟨b1, b2, b3⟩ := szDA (xs := xs) fun y hy => h y (by simp [hy])
    refine ⟨by simp [PyData.showableAll, a.sh, b1], ?_, ?_⟩
    · simp only [PyData.depthAll]
      have := a.de
      omega
    · have := a.ln
      simp only [PyData.shownAll, piled_cons, List.length_cons, Nat.succ_mul]
      omega
theorem SzD.lst {xs : List PyData} {dp wd n : Nat} (h : ∀ x ∈ xs, SzD x dp wd) (hn : xs.length ≤ n) : SzD (.list xs) (dp + 1) (4 + n * (wd + 2)) := by
  obtain ⟨b1, b2, b3⟩ := szDA h
  have hm : xs.length * (wd + 2) ≤ n * (wd + 2) := Nat.mul_le_mul_right _ hn
  refine ⟨by simp [PyData.showable, b1], by simp only [PyData.depth]; omega, ?_⟩
  have := listText_le (PyData.shownAll xs)
  simp only [PyData.shown]
  omega
theorem SzD.tup {xs : List PyData} {dp wd n : Nat} (h : ∀ x ∈ xs, SzD x dp wd) (hn : xs.length ≤ n) : SzD (.tuple xs) (dp + 1) (4 + n * (wd + 2)) := by
  obtain ⟨b1, b2, b3⟩ := szDA h
  have hm : xs.length * (wd + 2) ≤ n * (wd + 2) := Nat.mul_le_mul_right _ hn
  refine ⟨by simp [PyData.showable, b1], by simp only [PyData.depth]; omega, ?_⟩
  have := tupleText_le (PyData.shownAll xs)
  simp only [PyData.shown]
  omega
theorem SzD.two {x y : PyData} {dp wd : Nat} (hx : SzD x dp wd) (hy : SzD y dp wd) : SzD (.list [x, y]) (dp + 1) (4 + 2 * (wd + 2)) := SzD.lst (fun z hz => by
  rcases List.mem_cons.mp hz with rfl | hz
  · exact hx
  · cases List.mem_singleton.mp hz
    exact hy) (by simp)
theorem val_odk (xs : List (PyData × PyData)) : (DV.odk xs).val = some (.dict xs) := rfl
end DL
namespace DL
open PySem PySem.Spec L2
section
variable {X : Cx} {W : WC} {u : Nat} {e : Expr} {es : List Expr} {m m' : ME} {pos : Pos}
theorem DE.weak (h : DE X W e m u) (i : ∀ ex δ R, m' ex δ R → m ex δ R) : DE X W e m' u := ⟨PE.imp h.pe fun σ H Q q => by
  obtain ⟨ex, G, F, δ, τ, ts, τ1, ts1, R, n, mm, k⟩ := q
  exact ⟨ex, G, F, δ, τ, ts, τ1, ts1, R, n, i _ _ _ mm, k⟩⟩
theorem DA.weak {t t' : MA} (h : DA X W es t u) (i : ∀ ex δ R, t' ex δ R → t ex δ R) : DA X W es t' u := ⟨PA.imp h.pa fun σ H Q q => by
  obtain ⟨ex, G, F, δ, τ, ts, τ1, ts1, R, n, mm, k⟩ := q
  exact ⟨ex, G, F, δ, τ, ts, τ1, ts1, R, n, i _ _ _ mm, k⟩⟩
def mK (d : PyData) : ME := fun _ _ R => ∀ y : DV, y.val = some d → R y
def mKA (ds : List PyData) : MA := fun _ _ R => ∀ xs : List DV, vals xs = some ds → R xs
theorem k_int {i : Int} {j : Nat} : DE X W (.Constant (.int i) j pos) (mK (.int i)) 0 := de_int.weak fun _ _ R q => q (.d (.int i)) rfl
theorem ka_nil : DA X W [] (mKA []) 0 := da_nil.weak fun _ _ R q => q [] rfl
theorem ka_cons {d : PyData} {ds : List PyData} (h : DE X W e (mK d) 0) (t : DA X W es (mKA ds) 0) (hs : starEach (e :: es) X.env = (false, eval e X.env) :: starEach es X.env := by rfl) : DA X W (e :: es) (mKA (d :: ds)) 0 :=
  (da_cons h t hs).weak fun _ _ R q => fun y hy xs hxs => q (y :: xs) (by unfold vals; rw [hy, hxs])
def mKL (ds : List PyData) : ME := fun _ _ R => R (.own ds)
theorem de_kl {ds : List PyData} (h : DA X W es (mKA ds) 0) (hl : ds.length ≤ 1000 := by decide) : DE X W (.List es pos) (mKL ds) 0 := (de_lst h).weak fun _ _ R q => fun xs hxs => by
  have e := vals_len hxs
  dsimp only
  rw [hxs]
  exact ⟨by rw [← e, sizeLine_eq]; omega, q⟩
end
end DL
namespace L2
open PySem PySem.Spec PyProof.Rows
section
variable {P : Program} {w : World} {A : Around} {E : Value → Shared → Prop} {s : Shared}
end
end L2
namespace DL
open PySem PySem.Spec L2
section
variable {X : Cx} {W : WC} {u1 : Nat} {e : Expr} {pos : Pos} {mas : MA}
end
end DL
namespace DL
open PySem PySem.Spec L2
theorem six_pos {n d : Nat} {j : Int} (h : 0 ≤ j) : HT.sIx n d (some j) = min j.toNat n := by
  show (if j < 0 then _ else _) = _
  rw [if_neg (by omega)]
theorem six_none {n d : Nat} : HT.sIx n d none = d := rfl
theorem cut_pre {xs : List PyData} {j : Int} (h : 0 ≤ j) : cutD xs none (some j) = xs.take j.toNat := by
  unfold cutD
  rw [six_none, six_pos h, List.drop_zero, Nat.sub_zero]
  rcases Nat.le_total j.toNat xs.length with q | q
  · rw [Nat.min_eq_left q]
  · rw [Nat.min_eq_right q, List.take_of_length_le (Nat.le_refl _), List.take_of_length_le q]
theorem cut_from {xs : List PyData} {j : Int} (h : 0 ≤ j) : cutD xs (some j) none = xs.drop j.toNat := by
  unfold cutD
  rw [six_none, six_pos h]
  rcases Nat.le_total j.toNat xs.length with q | q
  · rw [Nat.min_eq_left q, List.take_of_length_le (by rw [List.length_drop]; exact Nat.le_refl _)]
  · rw [Nat.min_eq_right q, List.drop_eq_nil_of_le (Nat.le_refl _), List.drop_eq_nil_of_le q, List.take_nil]
end DL
namespace DL
open PySem PySem.Spec L2
section
variable {X : Cx} {W : WC} {u1 u2 : Nat} {a b : Expr} {pos : Pos} {ma mb : ME}
end
section
variable {xs : List PyData} {neg : Bool} {R : DV → Prop}
end
end DL
namespace DL
open PySem PySem.Spec L2
theorem at3 {a b c d : PyData} {l : List PyData} : atI (a :: b :: c :: d :: l) 3 = some d := atI_nat (j := 3) rfl
theorem at4 {a b c d e : PyData} {l : List PyData} : atI (a :: b :: c :: d :: e :: l) 4 = some e := atI_nat (j := 4) rfl
theorem at5 {a b c d e f : PyData} {l : List PyData} : atI (a :: b :: c :: d :: e :: f :: l) 5 = some f := atI_nat (j := 5) rfl
theorem natD_ints (ks : List Nat) : ks.map natD = (ks.map fun k : Nat => (k : Int)).map PyData.int := by rw [List.map_map]; rfl
theorem inD {ks : List Nat} {k : Nat} : ((ks.map natD).any fun z => PyData.eqv z (.int (k : Nat))) = decide (k ∈ ks) := by
  rw [natD_ints, any_ints]
  have e2 : ((k : Nat) : Int) ∈ (ks.map fun k : Nat => (k : Int)) ↔ k ∈ ks := by
    rw [List.mem_map]
    constructor
    · rintro ⟨a, ha, hk⟩
      have : a = k := by omega
      exact this ▸ ha
    · exact fun h => ⟨k, h, rfl⟩
  exact decide_eq_decide.mpr e2
theorem seq_gen {m1 m2 : MS} {ex : XD} {E : DEnds} {δ : Env} (I : Env → Prop) (h2 : ∀ δ', I δ' → m2 ex E δ') (h1 : ∀ K : Env → Prop, (∀ δ', I δ' → K δ') → m1 ex { E with nx := K } δ) : mSeq m1 m2 ex E δ := h1 _ h2
def AllP (P : PyData → Prop) (xs : List PyData) : Prop := ∀ x ∈ xs, P x
section
variable {P : PyData → Prop} {xs ys : List PyData} {x : PyData}
theorem AllP.nil : AllP P [] := fun x h => by cases h
theorem AllP.one (h : P x) : AllP P [x] := fun y hy => by cases List.mem_singleton.mp hy; exact h
theorem AllP.cons (h : P x) (t : AllP P xs) : AllP P (x :: xs) := fun y hy => by
  rcases List.mem_cons.mp hy with rfl | q
  · exact h
  · exact t y q
theorem AllP.take (h : AllP P xs) (n : Nat) : AllP P (xs.take n) := fun y hy => h y (List.mem_of_mem_take hy)
theorem AllP.drop (h : AllP P xs) (n : Nat) : AllP P (xs.drop n) := fun y hy => h y (List.mem_of_mem_drop hy)
theorem AllP.imp {Q : PyData → Prop} (h : AllP P xs) (f : ∀ x, P x → Q x) : AllP Q xs := fun y hy => f y (h y hy)
end
end DL
namespace DL
open PySem PySem.Spec L2 StX
structure BindSK (K : PySem.W.Frag) (fd : FuncData) (pk pv : Str) (D : Addr) : Prop where
  without : ∀ (du : Value) (rest : List Value), PySem.W.nsIn K D pk = some (some du) → ∃ (β γ : Type) (k1 : Option Value → Sem β) (k2 : β → Sem γ) (k3 : γ → Sem (List (Str × Value))) (a : β), bindArgs fd ⟨rest, []⟩ = ((nsGet D pk >>= k1) >>= k2) >>= k3 ∧ k1 (some du) = pure a ∧ (k2 a >>= k3) = (newTuple rest >>= fun t => pure [(pk, du), (pv, t)])
  with_ : ∀ (u : Value) (rest : List Value), bindArgs fd ⟨rest, [(pk, u)]⟩ = (newTuple rest >>= fun t => pure [(pk, u), (pv, t)])
structure FunSK (K : PySem.W.Frag) (x qual : Str) (st : Stmt) (f : Addr) (pk pv : Str) (dv : V) : Prop where
  ex : ∃ (oc : Value) (od : Option Addr) (D : Addr) (doc pm : Value) (an : Option Addr) (cdv ct du : Value) (osl : Array (Option Value)),
    K.lookup f = some ⟨oc, od, .func (PySem.W.fnOf x qual (L2.defArgs st) (L2.defBody st) (L2.defScope st) .none (.ref D) doc pm an cdv ct), osl⟩ ∧ PySem.W.codeIn K cdv qual = true ∧ PySem.W.nsIn K D pk = some (some du) ∧ RelV dv du ∧
    BindSK K (PySem.W.fnOf x qual (L2.defArgs st) (L2.defBody st) (L2.defScope st) .none (.ref D) doc pm an cdv ct) pk pv D
  kp : PySem.W.keepIn K (.ref f) = true
structure FnSK (P : Program) (w : World) (K : PySem.W.Frag) (mg : Str → Option Value) (base : Heap) (k : Nat) (f : Addr) (pk : Str) (dv : V) (sp : Sp) : Prop where
  run : ∀ (A : Around) (outer : List PySem.Env) (s : Shared) (H : Hp) (us : List Value) (vs : List V) (kw : List (Str × Value)) (gv : V) (Q : VK) (E : XK), A.guards = some [] → Room k A → Env0 P w K mg base A outer s H → Vals vs us → ((kw = [] ∧ gv = dv) ∨ ∃ u, kw = [(pk, u)] ∧ RelV gv u) → sp (gv :: vs) H Q E →
    codeAny (model P w) A (.call (.ref f) ⟨us, kw⟩) (CR (L2.CX P w) outer P w H s Q E) s
section
variable {P : Program} {w : World} {K : PySem.W.Frag} {mg : Str → Option Value} {base : Heap}
structure DFnSK (P : Program) (w : World) (K : PySem.W.Frag) (mg : Str → Option Value) (base : Heap) (CK : CKT) (x pk : Str) (dd : PyData) (k u : Nat) (mf : MF) : Prop where
  ex : ∃ f dv, mg x = some (.ref f) ∧ PySem.W.keepIn K (.ref f) = true ∧ (∀ F, At K F dv dd) ∧ FnSK P w K mg base k f pk dv (spS K mg CK u mf)
theorem DFnSK.le {x pk : Str} {dd : PyData} {k u u' : Nat} {mf : MF} {CK : CKT} (h : DFnSK P w K mg base CK x pk dd k u mf) (hu : u ≤ u') : DFnSK P w K mg base CK x pk dd k u' mf := by
  obtain ⟨f, dv, h1, h2, h3, h5⟩ := h
  refine ⟨f, dv, h1, h2, h3, ⟨fun A outer s H us vs kw gv Q E hg hr e0 r hk q => h5.run A outer s H us vs kw gv Q E hg hr e0 r hk ?_⟩⟩
  obtain ⟨G, F, as, R, ex, q2, q3, q4, q5, q6, q7, q8, q9⟩ := q
  exact ⟨G, F, as, R, ex, q2, ⟨q3.1, Nat.le_trans (Nat.add_le_add_left hu _) q3.2⟩, q4, q5, q6, q7, fun r hr ha v F' H' g => q8 r hr ha v F' H' (g.mono hu), fun e he b cls d F' H' hb g => q9 e he b cls d F' H' (Nat.le_trans hb hu) g⟩
end
section
variable {X : Cx} {W : WC} {e e0 : Expr} {es : List Expr} {pos p kp : Pos} {mas : MA} {me : ME} {x pk : Str} {dd : PyData} {k j u1 u2 u3 : Nat} {mf : MF}
end
end DL
namespace DL
open PySem PySem.Spec L2 PySem.W
section
variable {X : Cx} {W : WC} {u1 u2 k : Nat} {pos : Pos} {K' : Frag} {mg' : Str → Option Value} {L : List Str} {sub : Str → Str → Bool}
end
end DL
namespace DL
open PySem PySem.Spec L2
theorem end_of {l : SRow} (I : Inc l) {s m : Nat} (h : IsEnd l s m) : endOf l s = m := (endOf_ok I (by have := h.le; have := h.lt; omega)).uniq h
theorem IsStart.uniq {l : SRow} {s m k : Nat} (h1 : IsStart l s m) (h2 : IsStart l s k) : m = k := by
  rcases Nat.lt_trichotomy m k with h | h | h
  · obtain ⟨j, a, b, c⟩ := h1.ch (k - 1) (by omega) (by have := h2.le; omega)
    have := h2.st (by omega) j (by omega) b
    omega
  · exact h
  · obtain ⟨j, a, b, c⟩ := h2.ch (m - 1) (by omega) (by have := h1.le; omega)
    have := h1.st (by omega) j (by omega) b
    omega
theorem end_ge {l : SRow} (I : Inc l) {s m : Nat} (hs : s < l.length) (hm : m < l.length) (ch : ∀ j, s < j → j ≤ m → ∃ k, s ≤ k ∧ k < j ∧ pl l j ≤ pl l k + ht l k) : m ≤ endOf l s := by
  have h := endOf_ok I hs
  rcases Nat.lt_or_ge (endOf l s) m with q | q
  · obtain ⟨k, a, b, c⟩ := ch (endOf l s + 1) (by have := h.le; omega) (by omega)
    have := h.st (by omega) k a (by omega)
    omega
  · exact q
theorem start_le {l : SRow} (I : Inc l) {s m : Nat} (hs : s < l.length) (ch : ∀ j, m ≤ j → j < s → ∃ k, j < k ∧ k ≤ s ∧ pl l k - ht l k ≤ pl l j) : startOf l s ≤ m := by
  have h := startOf_ok I hs
  rcases Nat.lt_or_ge m (startOf l s) with q | q
  · obtain ⟨k, a, b, c⟩ := ch (startOf l s - 1) (by omega) (by have := h.le; omega)
    have := h.st (by omega) k (by omega) b
    omega
  · exact q
def affL (a b : Int) (l : SRow) : SRow := l.map fun p => (p.1 * a + b, p.2 * a)
theorem aff_len {a b : Int} {l : SRow} : (affL a b l).length = l.length := by unfold affL; simp
theorem aff_at {a b : Int} {l : SRow} {i : Nat} (h : i < l.length) : pl (affL a b l) i = pl l i * a + b ∧ ht (affL a b l) i = ht l i * a := by
  unfold pl ht affL
  simp only [List.getD_eq_getElem?_getD, List.getElem?_map, List.getElem?_eq_getElem h]
  exact ⟨rfl, rfl⟩
theorem aff_inc {a b : Int} (ha : 1 ≤ a) {l : SRow} (I : Inc l) : Inc (affL a b l) := by
  refine ⟨by rw [aff_len]; exact I.n0, by rw [aff_len]; exact I.n1, fun i j hij hj => ?_, fun i hi => ?_⟩
  · rw [aff_len] at hj
    rw [(aff_at (show i < l.length by omega)).1, (aff_at hj).1]
    have := Int.mul_lt_mul_of_pos_right (I.inc i j hij hj) (show (0 : Int) < a by omega)
    omega
  · rw [aff_len] at hi
    rw [(aff_at hi).2]
    exact Int.mul_nonneg (I.hp i hi) (by omega)
theorem aff_end {a b : Int} (ha : 1 ≤ a) {l : SRow} (I : Inc l) {s : Nat} (hs : s < l.length) : endOf (affL a b l) s = endOf l s := by
  have h := endOf_ok I hs
  have hlt := h.lt
  have a0 : (0 : Int) < a := by omega
  refine end_of (aff_inc ha I) ⟨h.le, by rw [aff_len]; exact h.lt, fun j h1 h2 => ?_, fun hn k h1 h2 => ?_⟩
  · obtain ⟨k, k1, k2, k3⟩ := h.ch j h1 h2
    refine ⟨k, k1, k2, ?_⟩
    rw [(aff_at (show j < l.length by omega)).1, (aff_at (show k < l.length by omega)).1, (aff_at (show k < l.length by omega)).2]
    have := Int.mul_le_mul_of_nonneg_right k3 (show (0 : Int) ≤ a by omega)
    rw [Int.add_mul] at this
    omega
  · rw [aff_len] at hn
    have := h.st hn k h1 h2
    rw [(aff_at hn).1, (aff_at (show k < l.length by omega)).1, (aff_at (show k < l.length by omega)).2]
    have := Int.mul_lt_mul_of_pos_right this a0
    rw [Int.add_mul] at this
    omega
def behL (b : Int) (l m : SRow) : SRow := l ++ m.map fun p => (p.1 + b, p.2)
structure Beh (b : Int) (l m : SRow) : Prop where
  il : Inc l
  im : Inc m
  n : l.length + m.length ≤ 2000
  lt : pl l (l.length - 1) < pl m 0 + b
section
variable {b : Int} {l m : SRow}
theorem beh_len : (behL b l m).length = l.length + m.length := by unfold behL; simp
theorem beh_l {i : Nat} (h : i < l.length) : pl (behL b l m) i = pl l i ∧ ht (behL b l m) i = ht l i := by
  unfold pl ht behL
  simp only [List.getD_eq_getElem?_getD, List.getElem?_append_left h]
  exact ⟨trivial, trivial⟩
theorem beh_r {i : Nat} (h : i < m.length) : pl (behL b l m) (l.length + i) = pl m i + b ∧ ht (behL b l m) (l.length + i) = ht m i := by
  unfold pl ht behL
  simp only [List.getD_eq_getElem?_getD, List.getElem?_append_right (Nat.le_add_right _ _), Nat.add_sub_cancel_left, List.getElem?_map, List.getElem?_eq_getElem h]
  exact ⟨rfl, rfl⟩
theorem Inc.le_end {l : SRow} (I : Inc l) {i : Nat} (h : i < l.length) : pl l i ≤ pl l (l.length - 1) := by
  rcases Nat.lt_or_ge i (l.length - 1) with q | q
  · have := I.inc i (l.length - 1) q (by omega); omega
  · have : i = l.length - 1 := by omega
    rw [this]; omega
theorem Inc.ge0 {l : SRow} (I : Inc l) {i : Nat} (h : i < l.length) : pl l 0 ≤ pl l i := by
  rcases Nat.eq_zero_or_pos i with rfl | q
  · omega
  · have := I.inc 0 i q h; omega
theorem Beh.inc (B : Beh b l m) : Inc (behL b l m) := by
  have hl := B.il.n0
  have hm := B.im.n0
  refine ⟨by rw [beh_len]; omega, by rw [beh_len]; exact B.n, fun i j hij hj => ?_, fun i hi => ?_⟩
  · rw [beh_len] at hj
    rcases Nat.lt_or_ge j l.length with q | q
    · rw [(beh_l (show i < l.length by omega)).1, (beh_l q).1]
      exact B.il.inc i j hij q
    · obtain ⟨j', rfl⟩ : ∃ j', j = l.length + j' := ⟨j - l.length, by omega⟩
      rw [(beh_r (show j' < m.length by omega)).1]
      have h0 := B.im.ge0 (show j' < m.length by omega)
      rcases Nat.lt_or_ge i l.length with q2 | q2
      · rw [(beh_l q2).1]
        have := B.il.le_end q2
        have := B.lt
        omega
      · obtain ⟨i', rfl⟩ : ∃ i', i = l.length + i' := ⟨i - l.length, by omega⟩
        rw [(beh_r (show i' < m.length by omega)).1]
        have := B.im.inc i' j' (by omega) (by omega)
        omega
  · rw [beh_len] at hi
    rcases Nat.lt_or_ge i l.length with q | q
    · rw [(beh_l q).2]; exact B.il.hp i q
    · obtain ⟨i', rfl⟩ : ∃ i', i = l.length + i' := ⟨i - l.length, by omega⟩
      rw [(beh_r (show i' < m.length by omega)).2]
      exact B.im.hp i' (by omega)
end
structure Shp (d : PyData) (n : Nat) : Prop where
  ly : d.canLay0 = true
  de : d.depth ≤ n
theorem Shp.shaped {d : PyData} {n : Nat} (h : Shp d n) (hn : n ≤ 64 := by decide) : SeqAt.shaped d = true := by
  unfold SeqAt.shaped
  rw [h.ly, Bool.true_and]
  exact decide_eq_true (Nat.le_trans h.de hn)
end DL
namespace DL
open PySem PySem.Spec L2
def uIns : Mut := fun xs ds => match ds with
  | [.int i, d] => if xs.length < sizeLine ∧ i = 0 then some (.none, d :: xs) else none
  | _ => none
def rInsert : V → List V → Hp → VK → Prop := fun x vs H Q => ∃ (l : Addr) (xs : List V) (i : Int) (y : V), x = .ref l ∧ vs = [.int i, y] ∧ H l = some (.lst xs) ∧ xs.length < sizeLine ∧ 0 ≤ i ∧ i < 2 ^ 63 ∧
    Q .non (upd H l (.lst (xs.take i.toNat ++ [y] ++ xs.drop i.toNat)))
theorem mt_insert' {X : Cx} : MtR X "list.insert" rInsert := mt_insert
theorem mut_ins {K : PySem.W.Frag} : MutOk K rInsert uIns := by
  intro F l ws xs vs ds H Q res xs' hF hl ha hv e k
  unfold uIns at e
  split at e
  · cases hv with
    | cons h1 h2 =>
      cases h2 with
      | cons h2 h3 =>
        cases h3
        cases h1
        split at e
        · rename_i hz
          cases e
          obtain ⟨hz, rfl⟩ := hz
          refine ⟨l, ws, 0, _, rfl, rfl, hl, by rw [ha.length]; exact hz, by decide, by decide, ?_⟩
          exact k _ _ .non (.cons h2 ha)
        · cases e
  · cases e
theorem side_shp {x : Str} (h : x = "left" ∨ x = "right") : SeqAt.shaped (.str x) = true := by
  rcases h with rfl | rfl <;> decide +kernel
end DL
namespace DL
open PySem PySem.Spec L2 PySem.W
theorem Inv.xe {X : Cx} {pins : List (Addr × Obj)} {σ : L2.St} {H : Hp} {s : Shared} {e e' : Value → Shared → Prop} (I : Inv { X with xe := e } pins σ H s) : Inv { X with xe := e' } pins σ H s := by
  obtain ⟨k, i2, i3, i4, i5, i6, i7, i8, i9, i10, i11⟩ := I
  obtain ⟨j1, j2, j3, j4, j5, j6, j7, j8, j9, j10, j11, j12, j13, j14, j15, j16, j17, j18⟩ := k
  exact ⟨⟨j1, j2, j3, j4, j5, j6, j7, j8, j9, j10, j11, j12, j13, j14, j15, j16, j17, j18⟩, i2, i3, i4, i5, i6, i7, i8, i9, i10, i11⟩
section
variable {P : Program} {w : World} {K : PySem.W.Frag} {mg : Str → Option Value} {base : Heap}
structure DFnE (P : Program) (w : World) (K : PySem.W.Frag) (mg : Str → Option Value) (base : Heap) (L : List Str) (x : Str) (mf : DExc → (DV → Prop) → Prop) : Prop where
  ex : ∃ f, mg x = some (.ref f) ∧ PySem.W.keepIn K (.ref f) = true ∧ ∀ (A : Around) (outer : List PySem.Env) (s : Shared) (H F : Hp) (Q : VK) (a C : Addr) (d : Option Addr) (oe : Obj) (er : DExc) (G : Gm) (R : DV → Prop), A.guards = some [] → L2H.RoomH 1 A → A.handled = some (.ref a) → L2H.PinOk outer H s (a, oe) → Env0 P w K mg base A outer s H →
    Zc (.ref C) d oe → (∃ vs, oe.data = .fields vs) → C = clsA mg er.cls → er.cls ∈ L → G.K = K → G.n ≤ G.lim → Good G F [some (.exc a C d er)] [some (.ref a)] H → mf er R → (∀ r, R r → r.arg = true → ∀ v F' H', Good G F' [some r] [some v] H' → Q v H') →
    codeAny (model P w) A (.call (.ref f) ⟨[.ref a], []⟩) (CR L2.CX0 outer P w H s Q L2.E0) s
end
section
variable {u : Nat} {X : Cx} {W : WC} {a C : Addr} {oe : Obj} {d : Option Addr} {pn : List (Addr × Obj)} {e : Expr} {me : ME} {pos p : Pos} {k : Nat} {L : List Str} {x : Str} {mf : DExc → (DV → Prop) → Prop} {mg' : Str → Option Value}
end
end DL
namespace DL
open PySem PySem.Spec L2
section
variable {u : Nat} {X : Cx} {W : WC} {e : Expr} {pos p : Pos} {mas : MA}
end
end DL
namespace DL
open PySem PySem.Spec L2 PySem.W
abbrev veB : List Value := [.type "ValueError", .type "Exception", .type "BaseException", .type "object"]
structure XMk0 (K : Frag) (mg : Str → Option Value) (x : Str) : Prop where
  ex : ∃ C, mg x = some (.ref C) ∧ excIn K C veB "ValueError.__new__" = true ∧ keepIn K (.ref C) = true ∧ subIn K (.ref C) (.type "BaseException") = some true ∧ typeIn K (.ref C) = some (.type "type")
section
variable {X : Cx} {W : WC} {x : Str} {p p2 pos : Pos} {k : Nat}
end
end DL
namespace DL
open PySem PySem.Spec L2 PySem.W
section
variable {u : Nat} {X : Cx} {W : WC} {e : Expr} {pos p : Pos} {mas : MA}
end
end DL
namespace DL
open PySem PySem.Spec L2 PySem.W
section
variable {u : Nat} {X : Cx} {W : WC} {e : Expr} {pos p : Pos} {mas : MA}
end
section
variable {ps : List (Int × Int)} {xs : List PyData} {R : DV → Prop}
end
end DL
namespace DL
open PySem PySem.Spec L2 PySem.W
section
variable {G : Gm} {F F' H H' : Hp} {δ : Env} {σ : L2.St} {v : V} {dv : DV} {p : Addr} {o : HO}
theorem Good.outer (g : Good G F δ σ H) (hk : ∀ q, ¬ G.C q → ∀ o, H q = some o → H' q = some o) (hj : G.J G.n H') : Good G F δ σ H' := by
  refine ⟨g.g, g.len, g.f0, fun b u e => hk b (fun c => by rw [g.cf b c] at e; cases e) _ (g.fh _ _ e), g.fr, fun b u c e => hk b c _ (g.bh _ _ c e), g.cf, hj, fun i z e => ?_, g.di⟩
  obtain ⟨w, e1, h⟩ := g.sl i z e
  refine ⟨w, e1, h.keep (Same.refl F) (fun l u ho hv hl => hk l ?_ _ hl) fun _ _ _ q => q⟩
  obtain ⟨l', _, r1, _, r3⟩ := bor_at h ho
  rw [hv] at r1
  cases r1
  exact own_nc g r3
def dropO (δ : Env) : Env := δ.map fun x => match x with
  | some (.d y) => some (.d y)
  | some .cask => some .cask
  | some (.raw v) => some (.raw v)
  | some (.scr xs) => some (.scr xs)
  | some (.fvs t xs) => some (.fvs t xs)
  | _ => none
theorem drop_get {i : Nat} {x : DV} (h : (dropO δ)[i]? = some (some x)) : δ[i]? = some (some x) ∧ x.arg = true := by
  unfold dropO at h
  rw [List.getElem?_map] at h
  cases q : δ[i]? with
  | none => rw [q] at h; cases h
  | some y =>
    rw [q] at h
    cases y with
    | none => cases h
    | some z =>
      cases z with
      | d _ => cases h; exact ⟨rfl, rfl⟩
      | cask => cases h; exact ⟨rfl, rfl⟩
      | raw _ => cases h; exact ⟨rfl, rfl⟩
      | scr _ => cases h; exact ⟨rfl, rfl⟩
      | fvs _ _ => cases h; exact ⟨rfl, rfl⟩
      | _ => cases h
theorem drop_len : (dropO δ).length = δ.length := by unfold dropO; simp
theorem Good.drop (hl : δ.length = σ.length) {A : Env} {A' : L2.St} (g : Good G F (δ ++ A) (σ ++ A') H) : Good (G.into F H) F (dropO δ) σ H := by
  refine ⟨⟨g.g.js, g.g.jm, g.g.jn, fun q c => g.g.jn _ H g.jh q c, g.g.jt⟩, by rw [drop_len]; exact hl, Same.refl F, g.fh, fun q a b => absurd b a, fun q u _ e => e, g.cf, g.jh, fun i z e => ?_, fun i j a b l ha _ e1 _ _ _ => ?_⟩
  · obtain ⟨e1, e2⟩ := drop_get e
    have hi : i < δ.length := (List.getElem?_eq_some_iff.mp e1).1
    obtain ⟨w, e3, h⟩ := g.sl i z (by rw [List.getElem?_append_left hi]; exact e1)
    rw [List.getElem?_append_left (by omega)] at e3
    refine ⟨w, e3, ?_⟩
    cases z with
    | d _ => exact h
    | cask => exact h
    | raw _ => exact h
    | scr _ => exact h
    | fvs _ _ => exact h
    | _ => cases e2
  · obtain ⟨_, e2⟩ := drop_get e1
    cases a with
    | own _ => cases e2
    | odk _ => cases e2
    | olk _ _ => cases e2
    | odt _ _ => cases e2
    | ins _ _ _ => cases e2
    | _ => cases ha
end
open LamX
section
variable {X : Cx} {pinsO : List (Addr × Obj)} {σo : L2.St} {Ho : Hp} {so : Shared}
def GivesD (Pr : Program) (wo : World) (K : Frag) (mg : Str → Option Value) (base : Heap) (A : Around) (stack : List PySem.Env) (Ng : List Str) (x : Str) (sg : Scope) (g : Addr) (cdg : Value) (bg : List Stmt) (a q : Str) (TT : (XK → Hp → VK → Prop) → Hp → VK → Prop) : Prop :=
  ∀ (f c' : Addr) (s : Shared) (H : Hp) (Q : VK) (tl : XK → Hp → VK → Prop),
    (∀ (W : WX) (pn : List (Addr × Obj)) (xe : Value → Shared → Prop) (p1 p2 : Pos), Takes ((cxOf C8.CX0 Pr wo K mg base Ng x sg g cdg A stack s H C8.E0).tr pn xe) W →
      PE ((cxOf C8.CX0 Pr wo K mg base Ng x sg g cdg A stack s H C8.E0).tr pn xe) (.Call (.Name a p1) [] [] p2) (fun σz Hz R => σz[0]? = some (some (.ref f)) ∧ Hz c' = some (CodeO c' q) ∧ tl (WE W σz) Hz R)) →
    H c' = some (CodeO c' q) → TT tl H Q →
    ∃ t, PSs (cxOf C8.CX0 Pr wo K mg base Ng x sg g cdg A stack s H C8.E0).nox bg t ∧ t { nx := fun _ H' => Q .non H', rt := Q } (L2.start Ng [.ref f]) H
end
def E1 (K : Frag) (mg : Str → Option Value) (L : List Str) (tE : DExc → (DV → Prop) → Prop) (p : Addr) (Q : VK) : XK := fun cls d H' => ∃ (G : Gm) (F : Hp) (er : DExc) (R : DV → Prop), ExcAt K mg F H' er cls d ∧ er.cls ∈ L ∧ G.K = K ∧ G.n ≤ G.lim ∧ Good G F [some (.own [])] [some (.ref p)] H' ∧ tE er R ∧
  ∀ r, R r → r.arg = true → ∀ v F' H', Good G F' [some r] [some v] H' → Q v H'
def TTd (K : Frag) (mg : Str → Option Value) (L : List Str) (tE : DExc → (DV → Prop) → Prop) : (XK → Hp → VK → Prop) → Hp → VK → Prop := fun tl H Q => ∀ p, H p = none → ∀ (E' : XK) (Q' : VK), (∀ cls d H', E1 K mg L tE p Q cls d H' → E' cls d H') →
  (∀ v H3, (∀ p2, H3 p2 = none → Q (.ref p2) (upd H3 p2 (.tup [.str "result", v]))) → Q' v H3) → tl E' (upd H p (.lst [])) Q'
section
variable {K : Frag} {mg : Str → Option Value} {L : List Str} {sub : Str → Str → Bool} {xn : Str} {tE : DExc → (DV → Prop) → Prop} {ms : Addr → Addr → Option Addr → MS} {ml : MS}
end
open LamX
structure DTold (P : Program) (w : World) (K : Frag) (mg : Str → Option Value) (base : Heap) (L : List Str) (x : Str) (tE : DExc → (DV → Prop) → Prop) : Prop where
  ex : ∃ (g : Addr) (oc : Value) (od an : Option Addr) (pg : Arguments) (bg : List Stmt) (sg : Scope) (dV kV doc pm cdv ct : Value) (osl : Array (Option Value)) (Ng : List Str) (a : Str),
    mg x = some (.ref g) ∧ keepIn K (.ref g) = true ∧ K.lookup g = some ⟨oc, od, .func (fnOf x x pg bg sg dV kV doc pm an cdv ct), osl⟩ ∧ codeIn K cdv x = true ∧ L2.Binds K (fnOf x x pg bg sg dV kV doc pm an cdv ct) [a] [] ∧
    FnScope Ng [a] sg ∧ Ng[0]? = some a ∧ Vis sg a ∧ (a == ("__debug__" : Str)) = false ∧ (a == ("__classdict__" : Str)) = false ∧
    ∀ (A : Around) (stack : List PySem.Env) (q : Str), A.guards = some [] → Room 2 A → GivesD P w K mg base A stack Ng x sg g cdv bg a q (TTd K mg L tE)
structure CkTab (ck : CKT) (P : Addr) (T : List (Addr × Str)) : Prop where
  tabs : ∀ C cv J lim n H, ck C cv J lim → J n H → Tabs T H
  mv : ∀ C cv J lim n H H1, ck C cv J lim → J n H → (∀ b o, H b = some o → b ≠ P → H1 b = some o) → Tabs T H1 → J n H1
  inC : ∀ C cv J lim, ck C cv J lim → C P
section
variable {X : Cx} {W : WC} {L : List Str} {x : Str} {tE : DExc → (DV → Prop) → Prop} {P c : Addr} {T : List (Addr × Str)} {params : Arguments} {body : Expr} {scope : Scope} {p lpos pos : Pos} {me : ME} {j k u : Nat}
end
section
variable {δ : Env} {x : PyData} {xs : List PyData} {v : V}
theorem dr_nil : dropO [] = [] := rfl
theorem dr_n : dropO (none :: δ) = none :: dropO δ := rfl
theorem dr_d : dropO (some (.d x) :: δ) = some (.d x) :: dropO δ := rfl
theorem dr_c : dropO (some .cask :: δ) = some .cask :: dropO δ := rfl
theorem dr_o : dropO (some (.own xs) :: δ) = none :: dropO δ := rfl
theorem dr_b : dropO (some (.bor xs) :: δ) = none :: dropO δ := rfl
theorem dr_r : dropO (some (.raw v) :: δ) = some (.raw v) :: dropO δ := rfl
end
end DL
namespace DL
open PySem PySem.Spec L2 PySem.W LamX
section
variable {P : Program} {w : World} {K : Frag} {mg : Str → Option Value} {base : Heap}
end
section
variable {P : Program} {w : World} {K : Frag} {mg mb : Str → Option Value} {k : Nat} {fa a c T : Addr} {fd : FuncData} {x : Str} {sp : Sp} {s₁ : Shared} {vs : List Value} {ns : List Int}
end
end DL
namespace DL
open PySem PySem.Spec L2 PySem.W
section
open AutoSeq1 (wpAny_loadPart')
open MeetsSeq SeqAt
variable {A : Around} {s : Shared}
end
section
variable {X : Cx} {W : WC} {u1 u2 : Nat} {a b : Expr} {ma mb : ME} {pos : Pos}
end
theorem dr_s {δ : Env} {x : Option DV} {n : Nat} : (dropO (x :: δ))[n + 1]? = (dropO δ)[n]? := rfl
end DL
namespace DL
open PySem PySem.Spec L2
structure Tr (F F' : Hp) : Prop where
  o : ∀ b u, F b = some u → (∀ kvs, ¬ Rd F b (.dK kvs)) → F' b = some u
  d : ∀ b kvs, Rd F b (.dK kvs) → Rd F' b (.dK kvs)
section
variable {K : PySem.W.Frag} {F F' : Hp}
theorem Tr.lst (e : Tr F F') {a : Addr} {vs : List V} (h : F a = some (.lst vs)) : F' a = some (.lst vs) := e.o _ _ h fun kvs q => by
  rcases q with q | ⟨o, q⟩ <;> (rw [h] at q; cases q)
theorem Tr.ne (e : Tr F F') {a : Addr} {u : HO} (h : F a = some u) (h1 : ∀ kvs, u ≠ .dK kvs) (h2 : ∀ o kvs, u ≠ .frz o (.dK kvs)) : F' a = some u := e.o _ _ h fun kvs q => by
  rcases q with q | ⟨o, q⟩
  · rw [h] at q; cases q; exact h1 _ rfl
  · rw [h] at q; cases q; exact h2 _ _ rfl
mutual
theorem At.tr (e : Tr F F') : ∀ (d : PyData) (v : V), At K F v d → At K F' v d
  | .none, _, h => by cases h; exact .non
  | .bool b, _, h => by cases h; exact .bl b
  | .int i, _, h => by cases h; exact .int i
  | .str x, _, h => by cases h; exact .str x
  | .list ds, _, h => by
    cases h with
    | lst hs ha => exact .lst (e.lst hs) (AtL.tr e ds _ ha)
  | .tuple ds, _, h => by
    cases h with
    | tup hs ha => exact .tup (e.ne hs (fun _ z => by cases z) (fun _ _ z => by cases z)) (AtL.tr e ds _ ha)
  | .dict ds, _, h => by
    cases h with
    | dct hs ha => exact .dct (e.d _ _ hs) (AtKv.tr e ds _ ha)
    | obj hs ho hn ha => exact .obj (e.ne hs (fun _ z => by cases z) (fun _ _ z => by cases z)) ho hn (AtKv.tr e _ _ ha)
theorem AtL.tr (e : Tr F F') : ∀ (ds : List PyData) (vs : List V), AtL K F vs ds → AtL K F' vs ds
  | [], _, h => by cases h; exact .nil
  | d :: ds, _, h => by
    cases h with
    | cons h1 h2 => exact .cons (At.tr e d _ h1) (AtL.tr e ds _ h2)
theorem AtKv.tr (e : Tr F F') : ∀ (ds : List (PyData × PyData)) (kvs : List (Key × V)), AtKv K F kvs ds → AtKv K F' kvs ds
  | [], _, h => by cases h; exact .nil
  | (k, d) :: ds, _, h => by
    cases h with
    | cons h1 h2 => exact .cons (At.tr e d _ h1) (AtKv.tr e ds _ h2)
end
end
theorem AtF.tr {K : PySem.W.Frag} {F F' : Hp} (e : Tr F F') {v : V} {x : FV} (h : AtF K F v x) : AtF K F' v x := by
  cases h with
  | d h => exact .d (At.tr e _ _ h)
  | r a => exact .r a
theorem AtFs.tr {K : PySem.W.Frag} {F F' : Hp} (e : Tr F F') : ∀ {vs : List (Str × V)} {fs : List (Str × FV)}, AtFs K F vs fs → AtFs K F' vs fs
  | _, _, .nil => .nil
  | _, _, .cons h r => .cons (h.tr e) (AtFs.tr e r)
theorem AtFl.tr {K : PySem.W.Frag} {F F' : Hp} (e : Tr F F') : ∀ {vs : List V} {fs : List FV}, AtFl K F vs fs → AtFl K F' vs fs
  | _, _, .nil => .nil
  | _, _, .cons h r => .cons (h.tr e) (AtFl.tr e r)
theorem Tr.sqO {F F' : Hp} (e : Tr F F') {a : Addr} {tup : Bool} {vs : List V} (h : F a = some (DL.sqO tup vs)) : F' a = some (DL.sqO tup vs) := by
  cases tup with
  | true => exact e.ne h (fun _ z => by cases z) (fun _ _ z => by cases z)
  | false => exact e.ne h (fun _ z => by cases z) (fun _ _ z => by cases z)
theorem AtKt.tr {K : PySem.W.Frag} {F F' : Hp} (e : Tr F F') : ∀ (ds : List (List Key × PyData)) (kvs : List (List Key × V)), AtKt K F kvs ds → AtKt K F' kvs ds
  | [], _, h => by cases h; exact .nil
  | (k, d) :: ds, _, h => by
    cases h with
    | cons h1 h2 => exact .cons (At.tr e d _ h1) (AtKt.tr e ds _ h2)
section
variable {G : Gm} {F F2 H H2 : Hp} {δ : Env} {σ : L2.St} {i : Nat} {x y : DV} {v : V} {l : Addr} {kvs : List (Key × V)} {ks : List (PyData × PyData)} {o : Obj}
def lkH (M : Hp) (l : Addr) (x : HO) : Hp := fun p => if p = l then (M l).map fun _ => x else M p
@[reducible] def Gm.lk (G : Gm) (l : Addr) (x : HO) : Gm := { G with F0 := lkH G.F0 l x, B := lkH G.B l x }
end
end DL
namespace DL
open PySem PySem.Spec L2
def keyQ : Key → PyData → Bool
  | .inl i, .int j => decide (j = i)
  | .inr x, .str y => decide (y = x)
  | _, _ => false
def lkD : List (PyData × PyData) → Key → Option PyData
  | [], _ => none
  | (k', d) :: r, k => if keyQ k k' = true then some d else lkD r k
def putD (ks : List (PyData × PyData)) (k : Key) (d : PyData) : List (PyData × PyData) :=
  if (lkD ks k).isSome = true then ks.map (fun p => if keyQ k p.1 = true then (p.1, d) else p) else ks ++ [(keyD k, d)]
theorem keyQ_d (k k' : Key) : keyQ k (keyD k') = decide (k' = k) := by
  cases k <;> cases k' <;> simp [keyQ, keyD]
section
variable {K : PySem.W.Frag} {F : Hp}
theorem AtKv.lk : ∀ {kvs : List (Key × V)} {ks : List (PyData × PyData)} (k : Key), AtKv K F kvs ks → (lkD ks k = none ∧ valV kvs k = none) ∨ ∃ v d, lkD ks k = some d ∧ valV kvs k = some v ∧ At K F v d
  | _, _, k, .nil => .inl ⟨rfl, rfl⟩
  | _, _, k, .cons (k := k') (v := v) (d := d) h t => by
    unfold lkD
    by_cases e : k' = k
    · rw [keyQ_d, if_pos (decide_eq_true e), valV_pos (p := (k', v)) e]
      exact .inr ⟨v, d, rfl, rfl, h⟩
    · rw [keyQ_d, if_neg (by simp [e]), valV_neg (p := (k', v)) e]
      exact AtKv.lk k t
theorem AtKv.length : ∀ {kvs : List (Key × V)} {ks : List (PyData × PyData)}, AtKv K F kvs ks → kvs.length = ks.length
  | _, _, .nil => rfl
  | _, _, .cons _ t => by rw [List.length_cons, List.length_cons, AtKv.length t]
theorem AtKv.repl {v : V} {d : PyData} (h : At K F v d) (k : Key) : ∀ {kvs : List (Key × V)} {ks : List (PyData × PyData)}, AtKv K F kvs ks → AtKv K F (kvs.map fun kv => if kv.1 = k then (kv.1, v) else kv) (ks.map fun p => if keyQ k p.1 = true then (p.1, d) else p)
  | _, _, .nil => .nil
  | _, _, .cons (k := k') (v := v') (d := d') h' t => by
    rw [List.map_cons, List.map_cons]
    by_cases e : k' = k
    · rw [if_pos e, if_pos (by rw [keyQ_d]; exact decide_eq_true e)]
      exact .cons h (AtKv.repl h k t)
    · rw [if_neg e, if_neg (by rw [keyQ_d]; simp [e])]
      exact .cons h' (AtKv.repl h k t)
theorem AtKv.snoc {v : V} {d : PyData} (h : At K F v d) (k : Key) : ∀ {kvs : List (Key × V)} {ks : List (PyData × PyData)}, AtKv K F kvs ks → AtKv K F (kvs ++ [(k, v)]) (ks ++ [(keyD k, d)])
  | _, _, .nil => .cons h .nil
  | _, _, .cons h' t => .cons h' (AtKv.snoc h k t)
theorem AtKv.put {v : V} {d : PyData} (h : At K F v d) (k : Key) {kvs : List (Key × V)} {ks : List (PyData × PyData)} (a : AtKv K F kvs ks) : AtKv K F (putK kvs k v) (putD ks k d) := by
  unfold putK putD
  rw [valV_any]
  rcases AtKv.lk k a with ⟨e1, e2⟩ | ⟨v', d', e1, e2, _⟩
  · rw [e1, e2, if_neg (by simp), if_neg (by simp)]
    exact AtKv.snoc h k a
  · rw [e1, e2, if_pos (by simp), if_pos (by simp)]
    exact AtKv.repl h k a
theorem AtKv.get : ∀ {kvs : List (Key × V)} {ks : List (PyData × PyData)} {i : Nat} {p : PyData × PyData}, AtKv K F kvs ks → ks[i]? = some p → ∃ k v, kvs[i]? = some (k, v) ∧ p.1 = keyD k ∧ At K F v p.2
  | _, _, i, p, .nil, e => by simp at e
  | _, _, 0, p, .cons h _, e => by
    simp at e
    subst e
    exact ⟨_, _, rfl, rfl, h⟩
  | _, _, i + 1, p, .cons _ t, e => by
    obtain ⟨k, v, h1, h2⟩ := AtKv.get (i := i) t (by simpa using e)
    exact ⟨k, v, by simpa using h1, h2⟩
end
def DV.dic : DV → Option (List (PyData × PyData))
  | .d (.dict ks) => if isObj ks then none else some ks
  | .odk ks => some ks
  | .bdk ks => some ks
  | .olk _ ks => some ks
  | .blk _ ks => some ks
  | .ldk _ ks => some ks
  | _ => none
theorem dic_of {G : Gm} {F H : Hp} {v : V} {x : DV} {ks : List (PyData × PyData)} (h : VOk G F H v x) (hf : Same F H) (e : x.dic = some ks) : ∃ l kvs, v = .ref l ∧ Rd H l (.dK kvs) ∧ AtKv G.K F kvs ks := by
  match x, e, h with
  | .d (.dict ks'), e, h =>
    have e : (if isObj ks' then none else some ks') = some ks := e
    split at e
    · cases e
    · rename_i hno
      cases e
      cases (show At G.K F v (.dict _) from h) with
      | dct hs ha => exact ⟨_, _, rfl, rd_mono hf hs, ha⟩
      | obj _ _ _ _ => exact absurd rfl hno
  | .odk ks, e, h =>
    cases e
    obtain ⟨l, kvs, rfl, h1, h2, _⟩ := h
    exact ⟨l, kvs, rfl, .inl h1, h2⟩
  | .bdk ks, e, h =>
    cases e
    obtain ⟨l, kvs, rfl, h1, h2, _⟩ := h
    exact ⟨l, kvs, rfl, h1, h2⟩
  | .olk p ks, e, h =>
    cases e
    obtain ⟨_, _, rfl, h1, h2, _⟩ := h
    exact ⟨_, _, rfl, .inr ⟨_, h1⟩, h2⟩
  | .blk p ks, e, h =>
    cases e
    obtain ⟨_, _, rfl, h1, h2, _⟩ := h
    exact ⟨_, _, rfl, .inr ⟨_, h1⟩, h2⟩
  | .ldk p ks, e, h =>
    cases e
    obtain ⟨_, _, rfl, h1, h2⟩ := h
    exact ⟨_, _, rfl, .inr ⟨_, hf _ _ h1⟩, h2⟩
def DV.key : DV → Option Key
  | .d (.int i) => some (.inl i)
  | .d (.str x) => some (.inr x)
  | _ => none
theorem key_ofD {G : Gm} {F H : Hp} {v : V} {x : DV} {k : Key} (h : VOk G F H v x) (e : x.key = some k) : v = kV k := by
  match x, e, h with
  | .d (.int i), e, h => cases e; cases (show At G.K F v (.int i) from h); rfl
  | .d (.str i), e, h => cases e; cases (show At G.K F v (.str i) from h); rfl
def oDGet : D2 := fun x y R => match x.dic, y.key with
  | some ks, some k => (match lkD ks k with | some d => R (.d d) | none => False)
  | _, _ => False
def oDIn (n : Bool) : D2 := fun y x R => match x.dic, y.key with
  | some ks, some k => R (.d (.bool (n != (lkD ks k).isSome)))
  | _, _ => False
section
variable {u u1 u2 u3 : Nat} {X : Cx} {W : WC} {a b c e : Expr} {es : List Expr} {pos p1 p2 : Pos} {ma mb me mi : ME} {mas : MA} {m : MS} {x : Str}
theorem de_dget (cx : CtxU X) (ha : DE X W a ma u1) (hb : DE X W b mb u2) (hs : NoSl b := by intro _ _; rfl) : DE X W (.Subscript a b pos) (mBin oDGet ma mb) (u1 + u2) :=
  ⟨PE.imp (pe_dget (by have := cx.un; omega) ha.pe hb.pe hs) fun σ H Q q => by
    obtain ⟨ex, G, F, δ, τ, ts, τ1, ts1, R, n, m, k⟩ := q
    refine ⟨ex, G, F, δ, τ, ts, τ1, ts1, _, n.fst, m, fun x hx v F1 H1 g1 => ?_⟩
    refine ⟨ex, G.up u1, F1, δ, τ, ts, _, _, _, n.after g1, hx, fun y hy u F2 H2 g2 => ?_⟩
    have e1 : Good (G.up (u1 + u2)) F2 (δ ++ τ ++ τ1 ++ [some x] ++ [some y]) (σ ++ ts ++ ts1 ++ [some v] ++ [some u]) H2 := by
      rw [up_up] at g2
      simpa only [List.append_assoc] using g2
    unfold oDGet at hy
    split at hy
    · rename_i ks kk ex ey
      obtain ⟨l, kvs, rfl, h1, h2⟩ := dic_of e1.pop.top e1.fh ex
      have hk := key_ofD e1.top ey
      subst hk
      rcases AtKv.lk kk h2 with ⟨q1, q2⟩ | ⟨w, d, q1, q2, q3⟩
      · rw [q1] at hy; exact hy.elim
      · rw [q1] at hy
        exact ⟨l, w, rfl, .inl ⟨kvs, kk, h1, rfl, q2.symm⟩, k _ hy _ F2 H2 (e1.pop.pop.pushD q3)⟩
    · exact hy.elim⟩
theorem din_lift {n : Bool} (σ : L2.St) (H : Hp) (Q : VK) (q : liftE X.K X.mg W (u1 + u2) (mBin (oDIn n) ma mb) σ H Q) :
    liftE X.K X.mg W u1 ma σ H fun y H1 => liftE X.K X.mg W u2 mb σ H1 fun x H2 => ∃ a o, x = .ref a ∧ DGet H2 a y o ∧ Q (.bl (n != o.isSome)) H2 := by
  obtain ⟨ex, G, F, δ, τ, ts, τ1, ts1, R, nw, m, k⟩ := q
  refine ⟨ex, G, F, δ, τ, ts, τ1, ts1, _, nw.fst, m, fun x hx v F1 H1 g1 => ?_⟩
  refine ⟨ex, G.up u1, F1, δ, τ, ts, _, _, _, nw.after g1, hx, fun y hy u F2 H2 g2 => ?_⟩
  have e1 : Good (G.up (u1 + u2)) F2 (δ ++ τ ++ τ1 ++ [some x] ++ [some y]) (σ ++ ts ++ ts1 ++ [some v] ++ [some u]) H2 := by
    rw [up_up] at g2
    simpa only [List.append_assoc] using g2
  unfold oDIn at hy
  split at hy
  · rename_i ks kk ex ey
    obtain ⟨l, kvs, rfl, h1, h2⟩ := dic_of e1.top e1.fh ex
    have hk := key_ofD e1.pop.top ey
    subst hk
    refine ⟨l, valV kvs kk, rfl, .inl ⟨kvs, kk, h1, rfl, rfl⟩, ?_⟩
    have es : (valV kvs kk).isSome = (lkD ks kk).isSome := by
      rcases AtKv.lk kk h2 with ⟨q1, q2⟩ | ⟨w, d, q1, q2, q3⟩ <;> rw [q1, q2] <;> rfl
    rw [es]
    exact k _ hy _ F2 H2 (e1.pop.pop.pushD (.bl _))
  · exact hy.elim
theorem dt_din (cx : CtxU X) (ha : DE X W a ma u1) (hb : DE X W b mb u2) (hm : behindInMarks .In b = false := by rfl) : DT X W (.Compare a [.In] [b] pos) (mB (mBin (oDIn false) ma mb)) (u1 + u2) :=
  ⟨PT.imp (pt_cmp (pc_din (by have := cx.un; omega) ha.pe hb.pe) hm) fun σ H Q q => by
    have h := din_lift σ H _ (liftT_of σ H Q q)
    unfold tB tDIn
    simpa only [Bool.false_bne] using h⟩
def isOdkAt (δ : Env) (i : Nat) : Prop := match δ[i]? with
  | some (some (.odk _)) => True
  | _ => False
def mDPut (i : Nat) (mi me : ME) : MS := fun ex E δ => isOdkAt δ i ∧ me ex δ fun y => mi ex δ fun z => match δ[i]?, y.val, z.key with
  | some (some (.odk ks)), some d, some k => ks.length < sizeLine ∧ E.nx (δ.set i (some (.odk (putD ks k d))))
  | _, _, _ => False
theorem ds_dput {i : Nat} {idx : Expr} (cx : CtxU X) (hv : PE X (.Name x p1) (tVar i)) (hi : DE X W idx mi u2) (he : DE X W e me u1)
    (hs : swapsWith e (some (.Subscript (.Name x p1) idx p2)) pos.line X.env = pure false := by rfl) : DS X W (.Assign [.Subscript (.Name x p1) idx p2] e pos) (mDPut i mi me) (u1 + u2) :=
  ⟨PS.imp (ps_dput (by have := cx.un; omega) hv hi.pe he.pe hs) fun D σ H q => by
    obtain ⟨ex, G, F, δ, τ, ts, E, n, nb, eo, ho1, h⟩ := q
    obtain ⟨ks, eX⟩ : ∃ ks, δ[i]? = some (some (.odk ks)) := by
      unfold isOdkAt at ho1
      split at ho1
      · rename_i ks e; exact ⟨ks, e⟩
      · exact ho1.elim
    have hiL : i < δ.length := (List.getElem?_eq_some_iff.mp eX).1
    refine ⟨ex, G, F, δ, τ, ts, [], [], _, n.fst, h, fun y hy v F1 H1 g1 => ?_⟩
    obtain ⟨w0, ew0, hw0⟩ := n.g0.get (i := i) (dv := .odk ks) (by rw [List.getElem?_append_left hiL]; exact eX)
    obtain ⟨l, kvs0, rfl, _⟩ := hw0
    rw [List.getElem?_append_left (by have := n.l1; omega)] at ew0
    refine ⟨.ref l, ew0, ?_⟩
    refine ⟨ex, G.up u1, F1, δ, τ, ts, _, _, _, n.after (rs := [some y]) (vs := [some v]) g1, hy, fun z hz iv F2 H2 g2 => ?_⟩
    rw [up_up] at g2
    have g : Good (G.up (u1 + u2)) F2 (δ ++ τ ++ [some y] ++ [some z]) (σ ++ ts ++ [some v] ++ [some iv]) H2 := by simpa only [List.append_assoc, List.nil_append] using g2
    rw [eX] at hz
    cases hyv : y.val with
    | none => rw [hyv] at hz; exact hz.elim
    | some d =>
      cases hzk : z.key with
      | none => rw [hyv, hzk] at hz; exact hz.elim
      | some kk =>
        rw [hyv, hzk] at hz
        obtain ⟨hlen, hz⟩ := hz
        have hk := key_ofD g.top hzk
        subst hk
        obtain ⟨F3, s3, g3⟩ := fix_one (A := δ ++ τ) (A2 := []) (x := y) (ρ := σ ++ ts ++ [some v]) (by simpa using g.pop) hyv
        have g3' : Good (G.up (u1 + u2)) F3 (δ ++ τ ++ [some (.d d)]) (σ ++ ts ++ [some v]) H2 := g3
        have hd : At G.K F3 v d := g3'.top
        have g4 := g3'.pop
        obtain ⟨w, ew, l', kvs, rfl, q1, q2, _⟩ := g4.get (i := i) (dv := .odk ks) (by rw [List.getElem?_append_left hiL]; exact eX)
        rw [List.getElem?_append_left (by have := n.l1; omega), ew0] at ew
        cases ew
        refine ⟨l, _, rfl, DPut.k q1 (by rw [q2.length]; exact hlen), ?_⟩
        have g5 := g4.writeK nb (n := i) (xs := ks) (ys := putD ks kk d) (l := l) (kvs := putK kvs kk v) (by rw [List.getElem?_append_left hiL]; exact eX) (by rw [List.getElem?_append_left (by have := n.l1; omega)]; exact ew0) (AtKv.put hd kk q2)
        rw [List.set_append_left _ _ hiL] at g5
        refine eo.nx _ hz _ σ F3 _ (Nat.le_refl _) (by simpa using n.l1) ?_ g5
        rw [← List.set_append_left _ _ hiL]
        exact noBor_set nb rfl⟩
theorem PE.or {X : Cx} {e : Expr} {t t' : TE} (h : PE X e t) (h' : PE X e t') : PE X e fun σ H Q => t σ H Q ∨ t' σ H Q := ⟨fun pins s σ H Q I q => by
  rcases q with q | q
  · exact h.run pins s σ H Q I q
  · exact h'.run pins s σ H Q I q⟩
theorem PS.or {X : Cx} {e : Stmt} {t t' : TS} (h : PS X e t) (h' : PS X e t') : PS X e fun D σ H => t D σ H ∨ t' D σ H := ⟨fun pins s σ H D I q => by
  rcases q with q | q
  · exact h.run pins s σ H D I q
  · exact h'.run pins s σ H D I q⟩
variable {tg iter elt : Expr} {ifs : List Expr} {scope : Scope} {own : List (Str × Nat)} {tt : MT} {te : ME} {ut ue : Nat} {dom : List Nat} {mi : MI}
end
section
variable {ks : List (PyData × PyData)} {p : Unit → LkP} {i : Int} {x : Str}
theorem seen_k : DV.seen (.odk ks) = .bdk ks := rfl
theorem seen_bk : DV.seen (.bdk ks) = .bdk ks := rfl
theorem seen_lk : DV.seen (.olk p ks) = .blk p ks := rfl
theorem seen_bl : DV.seen (.blk p ks) = .blk p ks := rfl
theorem seen_ld : DV.seen (.ldk p ks) = .ldk p ks := rfl
theorem fix_k : DV.fix (.odk ks) = .d (.dict ks) := rfl
theorem fix_bk : DV.fix (.bdk ks) = .d (.dict ks) := rfl
theorem isBor_k : DV.isBor (.odk ks) = false := rfl
theorem isBor_bk : DV.isBor (.bdk ks) = true := rfl
theorem isBor_ld : DV.isBor (.ldk p ks) = false := rfl
theorem dic_d (h : isObj ks = false) : DV.dic (.d (.dict ks)) = some ks := by
  show (if isObj ks then none else some ks) = some ks
  rw [h]; rfl
theorem isObj_0 : isObj [] = false := rfl
theorem isObj_s : isObj ((.str x, y) :: ks) = false := rfl
theorem isObj_i {x : Int} : isObj ((.int x, y) :: ks) = false := rfl
theorem dic_k : DV.dic (.odk ks) = some ks := rfl
theorem dic_bk : DV.dic (.bdk ks) = some ks := rfl
theorem dic_bl : DV.dic (.blk p ks) = some ks := rfl
theorem dic_ld : DV.dic (.ldk p ks) = some ks := rfl
theorem key_i : DV.key (.d (.int i)) = some (.inl i) := rfl
theorem key_s : DV.key (.d (.str x)) = some (.inr x) := rfl
theorem isOdk_0 {δ : Env} : isOdkAt (some (.odk ks) :: δ) 0 = True := rfl
theorem isOdk_s {y : Option DV} {n : Nat} {δ : Env} : isOdkAt (y :: δ) (n + 1) = isOdkAt δ n := by unfold isOdkAt; rw [List.getElem?_cons_succ]
end
end DL
namespace DL
open PySem PySem.Spec L2
end DL
namespace DL
open PySem PySem.Spec L2 PySem.W
section
variable {u : Nat} {X : Cx} {W : WC} {e : Expr} {pos p : Pos} {mas : MA}
end
end DL
namespace DL
open PySem PySem.Spec L2 PySem.W
section
variable {u : Nat} {X : Cx} {W : WC} {e : Expr} {pos p : Pos} {mas : MA}
end
section
variable {xs : List PyData} {R : DV → Prop}
end
end DL
namespace DL
open PySem PySem.Spec L2
section
variable {u1 : Nat} {X : Cx} {W : WC} {a b c d : Expr} {pos : Pos} {mas : MA} {x y z w : Str}
end
end DL
namespace DL
open PySem PySem.Spec L2 PySem.W
section
variable {u : Nat} {X : Cx} {W : WC} {e : Expr} {pos p : Pos} {mas : MA}
end
end DL
namespace DL
open PySem PySem.Spec L2
theorem Good.fill {G : Gm} {F0 F : Hp} {D : Env} {S : L2.St} {H0 H : Hp} {p : Addr} {ks : List (PyData × PyData)} {kvs : List (Key × V)} (n : Good G F0 D S H0) (hp : H0 p = none) (g : Good G F (D ++ [some (.odk [])]) (S ++ [some (.ref p)]) H) (h : AtKv G.K F kvs ks) :
    Good G F (D ++ [some (.odk ks)]) (S ++ [some (.ref p)]) (upd H p (.dK kvs)) := by
  have hl : D.length = S.length := n.len
  have g5 := g.writeG (n := D.length) (x := .odk []) (y := .odk ks) (l := p) (o := .dK kvs) rfl rfl (fun j w e b => ?_) (by simp) (by rw [hl]; simp) (fun H' h1 h2 h3 => ⟨p, _, rfl, h1, h, h2, h3⟩)
  · rw [show (D ++ [some (DV.odk [])]).set D.length (some (.odk ks)) = D ++ [some (.odk ks)] by rw [List.set_append_right _ _ (Nat.le_refl _), Nat.sub_self]; rfl] at g5
    exact g5
  · intro ew
    have hj : j < D.length ∨ j = D.length := by
      have := (List.getElem?_eq_some_iff.mp e).1
      simp at this ⊢; omega
    rcases hj with hj | hj
    · have e0 : D[j]? = some (some w) := by rw [List.getElem?_append_left hj] at e; exact e
      obtain ⟨w3, ew3, hw3⟩ := n.sl j w e0
      rw [List.getElem?_append_left (by omega), ew3] at ew
      cases ew
      obtain ⟨l3, o3, e3, h3, _⟩ := bor_at hw3 (by rw [b]; simp)
      cases e3
      rw [hp] at h3; cases h3
    · subst hj
      simp at e
      subst e
      cases b
def DV.num : DV → Option Int
  | .d (.int i) => some i
  | _ => none
theorem num_i {i : Int} : DV.num (.d (.int i)) = some i := rfl
section
variable {X : Cx} {W : WC} {u1 u2 u3 : Nat} {e1 e2 e3 : Expr} {m1 m2 m3 : ME} {x1 x2 x3 : Str} {j1 j2 j3 : Nat} {p1 p2 p3 pos : Pos}
end
end DL
namespace DL
open PySem PySem.Spec L2
section
variable {X : Cx} {W : WC} {u : Nat} {e : Expr} {me : ME} {p pos tpos p1 p2 : Pos} {kx : Nat} {T1 T2 : String} {x1 x2 : Str}
variable {a b : Expr} {ma mb : ME} {u1 u2 : Nat}
end
end DL
namespace DL
open PySem PySem.Spec L2 PySem.W
section
variable {u : Nat} {X : Cx} {W : WC} {e : Expr} {pos p : Pos} {mas : MA}
end
end DL
namespace DL
open PySem PySem.Spec L2
variable {X : Cx} {dom : List Nat} {pos : Pos}
end DL
namespace DL
open PySem PySem.Spec L2
section
variable {X : Cx} {W : WC} {u1 u2 : Nat} {a b : Expr} {pos : Pos} {ma mb : ME}
end
end DL
namespace DL
open PySem PySem.Spec
section
variable {prog : Program} {w : World} {A : Around} {E : Value → Shared → Prop} {z TI TO T i1 i2 : Addr} {fp1 fp2 : List Addr} {n1 n2 i : Nat} {P1 P2 : Nat → Value → Prop} {St1 St2 : Nat → Heap → Prop} {hp : Heap} {s : Shared}
theorem zipH_item {f : Bool} {oT : Obj} {Q : Value → Shared → Prop} (S : ZipSep2 z TI TO i1 i2 fp1 fp2) (D1 : Draws prog w A i1 fp1 n1 P1 St1) (D2 : Draws prog w A i2 fp2 n2 P2 St2)
    (hz : IsZipHeld s.heap z TI TO T f) (hT : s.heap.get? T = some oT) (hTI : IsTupOf2 s.heap TI (.ref i1) (.ref i2)) (st1 : St1 i s.heap) (st2 : St2 i s.heap) (hlt1 : i < n1) (hlt2 : i < n2)
    (hQ : ∀ x y h' tk, P1 i x → P2 i y → IsZipHeld h' z TI TO T true → St1 (i + 1) h' → St2 (i + 1) h' → IsTupOf2 h' s.heap.objs.size x y → h'.objs.size = s.heap.objs.size + 1 →
      (∀ c o, c ≠ z → c ≠ i1 → c ≠ i2 → s.heap.get? c = some o → h'.get? c = some o) → Q (.ref s.heap.objs.size) { s with heap := h', toks := tk }) :
    wpAny (model prog w) A (Builtin.«zip.__next__» ⟨[.ref z], []⟩) (fun fin s' => ∃ v, fin = .done (.ret v) ∧ Q v s') E s := by
  obtain ⟨h0, g, d, tk0, os⟩ := s
  show wpAny _ _ (field (.ref z) 2 >>= _) _ _ _
  refine wpAny_bind (wpAny_field hz rfl (x := .bool false) rfl ?_)
  show wpAny _ _ (field (.ref z) 3 >>= _) _ _ _
  refine wpAny_bind (wpAny_field hz rfl (x := .ref TI) rfl (wpAny_bind (wpAny_seqItems hTI rfl ?_)))
  show wpAny _ _ (Builtin.SmallTypes.ownedTupleIsFree (.ref z) >>= _) _ _ _
  refine wpAny_bind (wpAny_tupleHeld_zip hz hT fun g0 hz0 hs0 => ?_)
  replace hs0 : Heap.SameBut z h0 g0 := hs0
  simp only [Bool.false_eq_true, if_false]
  refine wpAny_bind ?_
  rw [← Array.forIn_toList]
  simp only [List.forIn_cons, List.forIn_nil]
  refine wpAny_bind (wpAny_bind (wpAny_holding ?_))
  show wpAny _ _ (Builtin.SmallTypes.nextOf (.ref i1) >>= _) _ _ ⟨g0, g, d, tk0, os⟩
  refine wpAny_bind (D1.item i _ _ _ hlt1 (D1.over st1 hs0 S.zf1) fun x p1 tk1 hx sn1 hp1 => wpAny_pure (wpAny_pure ?_))
  replace hp1 : Heap.SameBut i1 g0 p1 := hp1
  refine wpAny_bind (wpAny_bind (wpAny_holding ?_))
  show wpAny _ _ (Builtin.SmallTypes.nextOf (.ref i2) >>= _) _ _ ⟨p1, g, d, tk1, os⟩
  refine wpAny_bind (D2.item i _ _ _ hlt2 (D2.over (D2.over st2 hs0 S.zf2) hp1 S.sep1_2) fun y p2 tk2 hy sn2 hp2 => wpAny_pure (wpAny_pure (wpAny_pure ?_)))
  replace hp2 : Heap.SameBut i2 p1 p2 := hp2
  have hsz : p2.objs.size = h0.objs.size := by rw [hp2.1, hp1.1, hs0.1]
  have hzz : IsZipHeld p2 z TI TO T true := hp2.extBut _ _ S.zi2 (hp1.extBut _ _ S.zi1 hz0)
  have sn1' : St1 (i + 1) p2 := D1.over sn1 hp2 S.sep2_1
  have up : ∀ c o, p2.get? c = some o → (p2.push { cls := .type "tuple", data := .seq #[x, y] }).get? c = some o := fun c o e => Heap.get?_push_of_some _ e
  show wpAny _ _ (newTuple [x, y] >>= _) _ _ ⟨p2, g, d, tk2, os⟩
  refine wpAny_bind (wpAny_newTuple (wpAny_pure ⟨_, rfl, ?_⟩))
  have ht : IsTupOf2 (p2.push { cls := .type "tuple", data := .seq #[x, y] }) p2.objs.size x y := Heap.get?_push_size _ rfl
  have hs3 : (p2.push { cls := .type "tuple", data := .seq #[x, y] }).objs.size = p2.objs.size + 1 := Heap.size_push ..
  show Q (.ref p2.objs.size) ⟨_, g, d, tk2, os⟩
  rw [hsz] at ht hs3 ⊢
  exact hQ x y _ tk2 hx hy (up _ _ hzz) (D1.frame _ _ _ sn1' fun b _ o e => up b o e) (D2.frame _ _ _ sn2 fun b _ o e => up b o e) ht hs3 fun c o cz c1 c2 e => up _ _ (hp2.extBut _ _ c2 (hp1.extBut _ _ c1 (hs0.extBut _ _ cz e)))
theorem zipH_end {f : Bool} {oT : Obj} {Q : Fin → Shared → Prop} (S : ZipSep2 z TI TO i1 i2 fp1 fp2) (D1 : Draws prog w A i1 fp1 n1 P1 St1) (D2 : Draws prog w A i2 fp2 n2 P2 St2)
    (hz : IsZipHeld s.heap z TI TO T f) (hT : s.heap.get? T = some oT) (hTI : IsTupOf2 s.heap TI (.ref i1) (.ref i2)) (st1 : St1 i s.heap) (st2 : St2 i s.heap) (hle1 : i ≤ n1) (hle2 : i ≤ n2) (hend : i = n1 ∨ i = n2)
    (hE : ∀ h' tk e, (∀ c o, c ≠ z → c ≠ i1 → c ≠ i2 → s.heap.get? c = some o → h'.get? c = some o) → (∃ o, h'.get? e = some o ∧ o.cls = .type "StopIteration") → E (.ref e) { s with heap := h', toks := tk }) :
    wpAny (model prog w) A (Builtin.«zip.__next__» ⟨[.ref z], []⟩) Q E s := by
  obtain ⟨h0, g, d, tk0, os⟩ := s
  show wpAny _ _ (field (.ref z) 2 >>= _) _ _ _
  refine wpAny_bind (wpAny_field hz rfl (x := .bool false) rfl ?_)
  show wpAny _ _ (field (.ref z) 3 >>= _) _ _ _
  refine wpAny_bind (wpAny_field hz rfl (x := .ref TI) rfl (wpAny_bind (wpAny_seqItems hTI rfl ?_)))
  show wpAny _ _ (Builtin.SmallTypes.ownedTupleIsFree (.ref z) >>= _) _ _ _
  refine wpAny_bind (wpAny_tupleHeld_zip hz hT fun g0 hz0 hs0 => ?_)
  replace hs0 : Heap.SameBut z h0 g0 := hs0
  simp only [Bool.false_eq_true, if_false]
  refine wpAny_bind ?_
  rw [← Array.forIn_toList]
  simp only [List.forIn_cons, List.forIn_nil]
  refine wpAny_bind (wpAny_bind (wpAny_holding ?_))
  show wpAny _ _ (Builtin.SmallTypes.nextOf (.ref i1) >>= _) _ _ ⟨g0, g, d, tk0, os⟩
  by_cases c : i < n1
  · refine wpAny_bind (D1.item i _ _ _ c (D1.over st1 hs0 S.zf1) fun x p1 tk1 hx sn1 hp1 => wpAny_pure (wpAny_pure ?_))
    replace hp1 : Heap.SameBut i1 g0 p1 := hp1
    have e2 : n2 = i := by omega
    refine wpAny_bind (wpAny_bind (wpAny_holding ?_))
    show wpAny _ _ (Builtin.SmallTypes.nextOf (.ref i2) >>= _) _ _ ⟨p1, g, d, tk1, os⟩
    refine wpAny_bind (D2.done ⟨p1, g, d, tk1, os⟩ _ _ (by rw [e2]; exact D2.over (D2.over st2 hs0 S.zf2) hp1 S.sep1_2) fun q e hq he => ?_)
    exact hE q tk1 e (fun c o cz c1 c2 x => hq _ _ c2 (hp1.extBut _ _ c1 (hs0.extBut _ _ cz x))) he
  · have e1 : n1 = i := by omega
    refine wpAny_bind (D1.done ⟨g0, g, d, tk0, os⟩ _ _ (by rw [e1]; exact D1.over st1 hs0 S.zf1) fun q e hq he => ?_)
    exact hE q tk0 e (fun c o cz c1 c2 x => hq _ _ c1 (hs0.extBut _ _ cz x)) he
theorem nextH_item {f : Bool} {oT : Obj} {Q : Option Value → Shared → Prop} (S : ZipSep2 z TI TO i1 i2 fp1 fp2) (D1 : Draws prog w A.in1 i1 fp1 n1 P1 St1) (D2 : Draws prog w A.in1 i2 fp2 n2 P2 St2)
    (hz : IsZipHeld s.heap z TI TO T f) (hT : s.heap.get? T = some oT) (hTI : IsTupOf2 s.heap TI (.ref i1) (.ref i2)) (st1 : St1 i s.heap) (st2 : St2 i s.heap) (hlt1 : i < n1) (hlt2 : i < n2)
    (hQ : ∀ x y h' tk, P1 i x → P2 i y → IsZipHeld h' z TI TO T true → St1 (i + 1) h' → St2 (i + 1) h' → IsTupOf2 h' s.heap.objs.size x y → h'.objs.size = s.heap.objs.size + 1 →
      (∀ c o, c ≠ z → c ≠ i1 → c ≠ i2 → s.heap.get? c = some o → h'.get? c = some o) → Q (some (.ref s.heap.objs.size)) { s with heap := h', toks := tk }) :
    wpAny (model prog w) A (pyNext (.ref z)) Q E s := by
  have ty : s.TypeIs (.ref z) "zip" := ⟨_, hz, rfl⟩
  unfold pyNext
  exact wpAny_bind (wpAny_attempt (wpAny_callSpecial?_slot (name := Str.ofString "__next__") ty F.slot_zip_next
    (wpAny_call_entry F.slot_zip_next ty F.entry_zip_next (zipH_item S D1 D2 hz hT hTI st1 st2 hlt1 hlt2 fun x y h' tk a b c d e f2 g k => wpAny_pure (hQ x y h' tk a b c d e f2 g k)) (F.args_zip_next_1 _))))
theorem nextH_end {f : Bool} {oT : Obj} {Q : Option Value → Shared → Prop} (S : ZipSep2 z TI TO i1 i2 fp1 fp2) (D1 : Draws prog w A.in1 i1 fp1 n1 P1 St1) (D2 : Draws prog w A.in1 i2 fp2 n2 P2 St2)
    (hz : IsZipHeld s.heap z TI TO T f) (hT : s.heap.get? T = some oT) (hTI : IsTupOf2 s.heap TI (.ref i1) (.ref i2)) (st1 : St1 i s.heap) (st2 : St2 i s.heap) (hle1 : i ≤ n1) (hle2 : i ≤ n2) (hend : i = n1 ∨ i = n2)
    (hQ : ∀ h' tk, (∀ c o, c ≠ z → c ≠ i1 → c ≠ i2 → s.heap.get? c = some o → h'.get? c = some o) → Q none { s with heap := h', toks := tk }) : wpAny (model prog w) A (pyNext (.ref z)) Q E s := by
  have ty : s.TypeIs (.ref z) "zip" := ⟨_, hz, rfl⟩
  unfold pyNext
  refine wpAny_bind (wpAny_attempt (wpAny_callSpecial?_slot (name := Str.ofString "__next__") ty F.slot_zip_next
    (wpAny_call_entry F.slot_zip_next ty F.entry_zip_next (zipH_end S D1 D2 hz hT hTI st1 st2 hle1 hle2 hend fun h' tk e hk he => ?_) (F.args_zip_next_1 _))))
  obtain ⟨o, ho, hc⟩ := he
  exact wpAny_bind (wpAny_isInstance (T := "StopIteration") (b := true) ⟨o, ho, hc⟩ isSubtype_stop (wpAny_pure (hQ _ _ hk)))
structure ZSt (S0 z TI TO i1 i2 : Addr) (St1 St2 : Nat → Heap → Prop) (i : Nat) (h : Heap) : Prop where
  ti : IsTupOf2 h TI (.ref i1) (.ref i2)
  s1 : St1 i h
  s2 : St2 i h
  at_ : (IsZip h z TI TO .none ∧ ∃ a b, IsTupOf2 h TO a b) ∨ ∃ T f oT, IsZipHeld h z TI TO T f ∧ h.get? T = some oT ∧ T ≠ z ∧ T ≠ i1 ∧ T ≠ i2 ∧ T ≠ S0
theorem ZSt.item {S0 : Addr} {Q : Option Value → Shared → Prop} (S : ZipSep2 z TI TO i1 i2 fp1 fp2) (D1 : Draws prog w A.in1 i1 fp1 n1 P1 St1) (D2 : Draws prog w A.in1 i2 fp2 n2 P2 St2) (hS : S0 < s.heap.objs.size)
    (st : ZSt S0 z TI TO i1 i2 St1 St2 i s.heap) (hlt1 : i < n1) (hlt2 : i < n2)
    (hQ : ∀ x y h' tk, P1 i x → P2 i y → ZSt S0 z TI TO i1 i2 St1 St2 (i + 1) h' → IsTupOf2 h' s.heap.objs.size x y → h'.objs.size = s.heap.objs.size + 1 →
      (∀ c o, c ≠ z → c ≠ TO → c ≠ i1 → c ≠ i2 → s.heap.get? c = some o → h'.get? c = some o) → Q (some (.ref s.heap.objs.size)) { s with heap := h', toks := tk }) :
    wpAny (model prog w) A (pyNext (.ref z)) Q E s := by
  obtain ⟨hTI, st1, st2, hz⟩ := st
  obtain ⟨o1, ho1⟩ := D1.live _ _ st1
  obtain ⟨o2, ho2⟩ := D2.live _ _ st2
  have m1 : s.heap.objs.size ≠ i1 := Nat.ne_of_gt (Heap.lt_size ho1)
  have m2 : s.heap.objs.size ≠ i2 := Nat.ne_of_gt (Heap.lt_size ho2)
  have mS : s.heap.objs.size ≠ S0 := Nat.ne_of_gt hS
  rcases hz with ⟨hz, a, b, hTO⟩ | ⟨T, f, oT, hz, hT, r1, r2, r3, r4⟩
  · refine wpAny_pyNext_zipD2_item S D1 D2 hz hTI hTO st1 st2 hlt1 hlt2 fun x y h' tk p1 p2 b1 b2 d1 d2 t k kk => hQ x y h' tk p1 p2 ⟨kk _ _ S.TIz S.TITO S.TIi1 S.TIi2 hTI, d1, d2, .inr ⟨s.heap.objs.size, false, _, b1, t, Nat.ne_of_gt (Heap.lt_size hz), m1, m2, mS⟩⟩ t k kk
  · refine nextH_item S D1 D2 hz hT hTI st1 st2 hlt1 hlt2 fun x y h' tk p1 p2 b1 d1 d2 t k kk => hQ x y h' tk p1 p2 ⟨kk _ _ S.TIz S.TIi1 S.TIi2 hTI, d1, d2, .inr ⟨T, true, oT, b1, kk _ _ r1 r2 r3 hT, r1, r2, r3, r4⟩⟩ t k fun c o cz _ c1 c2 e => kk c o cz c1 c2 e
theorem ZSt.done {S0 : Addr} {Q : Option Value → Shared → Prop} (S : ZipSep2 z TI TO i1 i2 fp1 fp2) (D1 : Draws prog w A.in1 i1 fp1 n1 P1 St1) (D2 : Draws prog w A.in1 i2 fp2 n2 P2 St2)
    (st : ZSt S0 z TI TO i1 i2 St1 St2 i s.heap) (hle1 : i ≤ n1) (hle2 : i ≤ n2) (hend : i = n1 ∨ i = n2)
    (hQ : ∀ h' tk, (∀ c o, c ≠ z → c ≠ TO → c ≠ i1 → c ≠ i2 → s.heap.get? c = some o → h'.get? c = some o) → Q none { s with heap := h', toks := tk }) : wpAny (model prog w) A (pyNext (.ref z)) Q E s := by
  obtain ⟨hTI, st1, st2, hz⟩ := st
  rcases hz with ⟨hz, a, b, hTO⟩ | ⟨T, f, oT, hz, hT, r1, r2, r3, r4⟩
  · exact wpAny_pyNext_zipD2_end S D1 D2 hz hTI hTO st1 st2 hle1 hle2 hend hQ
  · exact nextH_end S D1 D2 hz hT hTI st1 st2 hle1 hle2 hend fun h' tk kk => hQ h' tk fun c o cz _ c1 c2 e => kk c o cz c1 c2 e
structure ZMade (lo : Addr) (P1 P2 : Nat → Value → Prop) (h : Heap) (as : List Addr) : Prop where
  rise : as.Pairwise (· < ·)
  above : ∀ a ∈ as, lo < a
  pairs : ∀ (j : Nat) (a : Addr), as[j]? = some a → ∃ x y, P1 j x ∧ P2 j y ∧ IsTupOf2 h a x y
theorem ZMade.there {lo : Addr} {h : Heap} {as : List Addr} (g : ZMade lo P1 P2 h as) {a : Addr} (ha : a ∈ as) : a < h.objs.size := by
  obtain ⟨j, hj⟩ := List.mem_iff_getElem?.mp ha
  obtain ⟨_, _, _, _, e⟩ := g.pairs j a hj
  exact Heap.lt_size e
end
end DL
namespace DL
open PySem PySem.Spec PyProof.Rows L2
section
variable {X : Cx} {W : WC} {u1 : Nat} {e e2 : Expr} {pos p p2 q : Pos} {mas : MA}
end
end DL
namespace DL
open PySem PySem.Spec
section
variable {prog : Program} {w : World} {A : Around} {E : Value → Shared → Prop} {z TI TO T i1 i2 : Addr} {fp1 fp2 : List Addr} {n1 n2 i : Nat} {P1 P2 : Nat → Value → Prop} {St1 St2 : Nat → Heap → Prop} {s : Shared}
abbrev ZAny (h : Heap) (z TI TO : Addr) (v : Value) (f : Bool) : Prop := h.get? z = some { cls := .type "zip", dict := none, data := .fields #[v, .bool f, .bool false, .ref TI, .ref TO], slots := #[] }
theorem gone_is {a : Addr} {Q : Option Obj → Shared → Prop} (gone : s.heap.get? a = none) (q : Q none s) : wpAny (model prog w) A (loadIfAlive a) Q E s := by
  rw [← gone] at q
  exact fun _ _ _ => q
theorem dead_free {f : Bool} {Q : Bool → Shared → Prop} (hz : ZAny s.heap z TI TO (rawInt T) f) (hT : s.heap.get? T = none) (h : Q true s) : wpAny (model prog w) A (Builtin.SmallTypes.ownedTupleIsFree (.ref z)) Q E s := by
  unfold Builtin.SmallTypes.ownedTupleIsFree
  refine wpAny_bind (wpAny_field hz rfl (x := rawInt T) rfl ?_)
  show wpAny _ _ (loadIfAlive ((T : Int).toNat) >>= _) _ _ _
  rw [Int.toNat_natCast]
  exact wpAny_bind (gone_is hT (wpAny_pure h))
theorem zipX_item {f : Bool} {a1 a2 : Value} {Q : Value → Shared → Prop} (S : ZipSep2 z TI TO i1 i2 fp1 fp2) (D1 : Draws prog w A i1 fp1 n1 P1 St1) (D2 : Draws prog w A i2 fp2 n2 P2 St2)
    (hz : ZAny s.heap z TI TO (rawInt T) f) (hT : s.heap.get? T = none) (hTI : IsTupOf2 s.heap TI (.ref i1) (.ref i2)) (hTO : IsTupOf2 s.heap TO a1 a2) (st1 : St1 i s.heap) (st2 : St2 i s.heap) (hlt1 : i < n1) (hlt2 : i < n2)
    (hQ : ∀ x y h' tk, P1 i x → P2 i y → ZAny h' z TI TO (rawInt s.heap.objs.size) false → IsTupOf2 h' TO x y → St1 (i + 1) h' → St2 (i + 1) h' → IsTupOf2 h' s.heap.objs.size x y → h'.objs.size = s.heap.objs.size + 1 →
      (∀ c o, c ≠ z → c ≠ TO → c ≠ i1 → c ≠ i2 → s.heap.get? c = some o → h'.get? c = some o) → Q (.ref s.heap.objs.size) { s with heap := h', toks := tk }) :
    wpAny (model prog w) A (Builtin.«zip.__next__» ⟨[.ref z], []⟩) (fun fin s' => ∃ v, fin = .done (.ret v) ∧ Q v s') E s := by
  obtain ⟨H, g, d, tk0, os⟩ := s
  show wpAny _ _ (field (.ref z) 2 >>= _) _ _ _
  refine wpAny_bind (wpAny_field hz rfl (x := .bool false) rfl ?_)
  show wpAny _ _ (field (.ref z) 3 >>= _) _ _ _
  refine wpAny_bind (wpAny_field hz rfl (x := .ref TI) rfl (wpAny_bind (wpAny_seqItems hTI rfl ?_)))
  show wpAny _ _ (Builtin.SmallTypes.ownedTupleIsFree (.ref z) >>= _) _ _ _
  refine wpAny_bind (dead_free hz hT ?_)
  simp only [if_true]
  refine wpAny_bind (wpAny_rule (wpAny_bind (wpAny_field hz rfl (x := .ref TO) rfl (wpAny_bind (wpAny_setField_rec hz (by simp) fun g0 (hz0 : ZAny g0 z TI TO .ellipsis f) (hs0 : Heap.SameBut z H g0) => wpAny_bind ?_)))))
  simp only [List.zipIdx_cons, List.zipIdx_nil, List.forIn_cons, List.forIn_nil]
  refine wpAny_bind (wpAny_bind (wpAny_onRaise ?_))
  show wpAny _ _ (Builtin.SmallTypes.nextOf (.ref i1) >>= _) _ _ ⟨g0, g, d, tk0, os⟩
  refine wpAny_bind (D1.item i _ _ _ hlt1 (D1.over st1 hs0 S.zf1) fun x p1 tk1 hx sn1 (hp1 : Heap.SameBut i1 g0 p1) => wpAny_pure ?_)
  have u1 : IsTupOf2 p1 TO a1 a2 := hp1.extBut _ _ S.Ti1 (hs0.extBut _ _ S.TOz hTO)
  refine wpAny_bind (wpAny_seqItems (s := ⟨p1, g, d, tk1, os⟩) u1 rfl (wpAny_bind (updateSeq_IsTupOf2 (s := ⟨p1, g, d, tk1, os⟩) u1 fun g1 (v1 : IsTupOf2 g1 TO x a2) (hs1 : Heap.SameBut TO p1 g1) => wpAny_bind (wpAny_letGo (wpAny_pure (wpAny_bind (wpAny_bind (wpAny_onRaise ?_))))))))
  show wpAny _ _ (Builtin.SmallTypes.nextOf (.ref i2) >>= _) _ _ ⟨g1, g, d, tk1, os⟩
  refine wpAny_bind (D2.item i _ _ _ hlt2 (D2.over (D2.over (D2.over st2 hs0 S.zf2) hp1 S.sep1_2) hs1 S.Tf2) fun y p2 tk2 hy sn2 (hp2 : Heap.SameBut i2 g1 p2) => wpAny_pure ?_)
  have u2 : IsTupOf2 p2 TO x a2 := hp2.extBut _ _ S.Ti2 v1
  refine wpAny_bind (wpAny_seqItems (s := ⟨p2, g, d, tk2, os⟩) u2 rfl (wpAny_bind (updateSeq_IsTupOf2 (s := ⟨p2, g, d, tk2, os⟩) u2 fun g2 (v2 : IsTupOf2 g2 TO x y) (hs2 : Heap.SameBut TO p2 g2) => wpAny_bind (wpAny_letGo (wpAny_pure (wpAny_pure (wpAny_bind (wpAny_seqItems (s := ⟨g2, g, d, tk2, os⟩) v2 rfl (wpAny_bind (wpAny_newTuple ?_))))))))))
  have sz : g2.objs.size = H.objs.size := by rw [hs2.1, hp2.1, hs1.1, hp1.1, hs0.1]
  have zz : ZAny g2 z TI TO .ellipsis f := hs2.extBut _ _ S.TOz.symm (hp2.extBut _ _ S.zi2 (hs1.extBut _ _ S.TOz.symm (hp1.extBut _ _ S.zi1 hz0)))
  have kk : ∀ c o, c ≠ z → c ≠ TO → c ≠ i1 → c ≠ i2 → H.get? c = some o → g2.get? c = some o := fun c o cz cT c1 c2 e => hs2.extBut _ _ cT (hp2.extBut _ _ c2 (hs1.extBut _ _ cT (hp1.extBut _ _ c1 (hs0.extBut _ _ cz e))))
  have j1 : St1 (i + 1) g2 := D1.over (D1.over (D1.over sn1 hs1 S.Tf1) hp2 S.sep2_1) hs2 S.Tf1
  have j2 : St2 (i + 1) g2 := D2.over sn2 hs2 S.Tf2
  have zl : z < g2.objs.size := Heap.lt_size zz
  show wpAny _ _ (Builtin.SmallTypes.ownedTupleHandOut (.ref z) (.ref g2.objs.size) >>= _) _ _ ⟨g2.push { cls := .type "tuple", data := .seq #[x, y] }, g, d, tk2, os⟩
  unfold Builtin.SmallTypes.ownedTupleHandOut
  have z6 : ZAny (g2.push { cls := .type "tuple", data := .seq #[x, y] }) z TI TO .ellipsis f := Heap.get?_push_of_some _ zz
  refine wpAny_bind (wpAny_bind (wpAny_setField_rec z6 (by simp) fun g3 (z7 : ZAny g3 z TI TO (rawInt g2.objs.size) f) (hs3 : Heap.SameBut z (g2.push { cls := .type "tuple", data := .seq #[x, y] }) g3) => wpAny_setField_rec z7 (by simp) fun g4 (z8 : ZAny g4 z TI TO (rawInt g2.objs.size) false) (hs4 : Heap.SameBut z g3 g4) => ?_))
  have up : ∀ c o, c ≠ z → g2.get? c = some o → g4.get? c = some o := fun c o c1 e => hs4.extBut _ _ c1 (hs3.extBut _ _ c1 (Heap.get?_push_of_some _ e))
  have t8 : IsTupOf2 g4 g2.objs.size x y := hs4.extBut _ _ (Nat.ne_of_gt zl) (hs3.extBut _ _ (Nat.ne_of_gt zl) (Heap.get?_push_size _ rfl))
  have s8 : g4.objs.size = g2.objs.size + 1 := by rw [hs4.1, hs3.1, Heap.size_push]
  refine wpAny_pure ⟨_, rfl, ?_⟩
  show Q (.ref g2.objs.size) ⟨g4, g, d, tk2, os⟩
  rw [sz] at z8 t8 s8 ⊢
  exact hQ x y g4 tk2 hx hy z8 (up _ _ S.TOz v2) (D1.frame _ _ _ j1 fun b hb o e => up b o (fun q => S.zf1 (q ▸ hb)) e) (D2.frame _ _ _ j2 fun b hb o e => up b o (fun q => S.zf2 (q ▸ hb)) e) t8 s8 fun c o cz cT c1 c2 e => up c o cz (kk c o cz cT c1 c2 e)
theorem zipX_end {f : Bool} {a1 a2 : Value} {Q : Fin → Shared → Prop} (S : ZipSep2 z TI TO i1 i2 fp1 fp2) (D1 : Draws prog w A i1 fp1 n1 P1 St1) (D2 : Draws prog w A i2 fp2 n2 P2 St2)
    (hz : ZAny s.heap z TI TO (rawInt T) f) (hT : s.heap.get? T = none) (hTI : IsTupOf2 s.heap TI (.ref i1) (.ref i2)) (hTO : IsTupOf2 s.heap TO a1 a2) (st1 : St1 i s.heap) (st2 : St2 i s.heap) (hle1 : i ≤ n1) (hle2 : i ≤ n2) (hend : i = n1 ∨ i = n2)
    (hE : ∀ h' tk e, (∀ c o, c ≠ z → c ≠ TO → c ≠ i1 → c ≠ i2 → s.heap.get? c = some o → h'.get? c = some o) → (∃ o, h'.get? e = some o ∧ o.cls = .type "StopIteration") → E (.ref e) { s with heap := h', toks := tk }) :
    wpAny (model prog w) A (Builtin.«zip.__next__» ⟨[.ref z], []⟩) Q E s := by
  obtain ⟨H, g, d, tk0, os⟩ := s
  show wpAny _ _ (field (.ref z) 2 >>= _) _ _ _
  refine wpAny_bind (wpAny_field hz rfl (x := .bool false) rfl ?_)
  show wpAny _ _ (field (.ref z) 3 >>= _) _ _ _
  refine wpAny_bind (wpAny_field hz rfl (x := .ref TI) rfl (wpAny_bind (wpAny_seqItems hTI rfl ?_)))
  show wpAny _ _ (Builtin.SmallTypes.ownedTupleIsFree (.ref z) >>= _) _ _ _
  refine wpAny_bind (dead_free hz hT ?_)
  simp only [if_true]
  refine wpAny_bind (wpAny_rule (wpAny_bind (wpAny_field hz rfl (x := .ref TO) rfl (wpAny_bind (wpAny_setField_rec hz (by simp) fun g0 (hz0 : ZAny g0 z TI TO .ellipsis f) (hs0 : Heap.SameBut z H g0) => wpAny_bind ?_)))))
  simp only [List.zipIdx_cons, List.zipIdx_nil, List.forIn_cons, List.forIn_nil]
  refine wpAny_bind (wpAny_bind (wpAny_onRaise ?_))
  show wpAny _ _ (Builtin.SmallTypes.nextOf (.ref i1) >>= _) _ _ ⟨g0, g, d, tk0, os⟩
  have fin : ∀ q tk e, Heap.ExtBut z q q → ZAny q z TI TO .ellipsis f → (∀ c o, c ≠ z → c ≠ TO → c ≠ i1 → c ≠ i2 → H.get? c = some o → q.get? c = some o) → (∃ o, q.get? e = some o ∧ o.cls = .type "StopIteration") → wpAny (model prog w) A (setField (.ref z) 0 .none) (fun _ s' => E (.ref e) s') E ⟨q, g, d, tk, os⟩ := fun q tk e _ hzq hk he => by
    obtain ⟨oe, hoe, hce⟩ := he
    have ez : e ≠ z := fun x => by subst x; rw [hzq] at hoe; cases hoe; simp at hce
    refine wpAny_setField_rec (s := ⟨q, g, d, tk, os⟩) hzq (by simp) fun q' _ (hq' : Heap.SameBut z q q') => ?_
    exact hE q' tk e (fun c o cz cT c1 c2 x => hq'.extBut _ _ cz (hk c o cz cT c1 c2 x)) ⟨oe, hq'.extBut _ _ ez hoe, hce⟩
  by_cases c : i < n1
  · refine wpAny_bind (D1.item i _ _ _ c (D1.over st1 hs0 S.zf1) fun x p1 tk1 hx sn1 (hp1 : Heap.SameBut i1 g0 p1) => wpAny_pure ?_)
    have u1 : IsTupOf2 p1 TO a1 a2 := hp1.extBut _ _ S.Ti1 (hs0.extBut _ _ S.TOz hTO)
    have e2 : n2 = i := by omega
    refine wpAny_bind (wpAny_seqItems (s := ⟨p1, g, d, tk1, os⟩) u1 rfl (wpAny_bind (updateSeq_IsTupOf2 (s := ⟨p1, g, d, tk1, os⟩) u1 fun g1 (v1 : IsTupOf2 g1 TO x a2) (hs1 : Heap.SameBut TO p1 g1) => wpAny_bind (wpAny_letGo (wpAny_pure (wpAny_bind (wpAny_bind (wpAny_onRaise ?_))))))))
    show wpAny _ _ (Builtin.SmallTypes.nextOf (.ref i2) >>= _) _ _ ⟨g1, g, d, tk1, os⟩
    refine wpAny_bind (D2.done ⟨g1, g, d, tk1, os⟩ _ _ (by rw [e2]; exact D2.over (D2.over (D2.over st2 hs0 S.zf2) hp1 S.sep1_2) hs1 S.Tf2) fun q e (hq : Heap.ExtBut i2 g1 q) he => ?_)
    exact fin q tk1 e (fun _ _ _ x => x) (hq _ _ S.zi2 (hs1.extBut _ _ S.TOz.symm (hp1.extBut _ _ S.zi1 hz0))) (fun c o cz cT c1 c2 x => hq _ _ c2 (hs1.extBut _ _ cT (hp1.extBut _ _ c1 (hs0.extBut _ _ cz x)))) he
  · have e1 : n1 = i := by omega
    refine wpAny_bind (D1.done ⟨g0, g, d, tk0, os⟩ _ _ (by rw [e1]; exact D1.over st1 hs0 S.zf1) fun q e (hq : Heap.ExtBut i1 g0 q) he => ?_)
    exact fin q tk0 e (fun _ _ _ x => x) (hq _ _ S.zi1 hz0) (fun c o cz _ c1 _ x => hq _ _ c1 (hs0.extBut _ _ cz x)) he
theorem nextX_item {f : Bool} {a1 a2 : Value} {Q : Option Value → Shared → Prop} (S : ZipSep2 z TI TO i1 i2 fp1 fp2) (D1 : Draws prog w A.in1 i1 fp1 n1 P1 St1) (D2 : Draws prog w A.in1 i2 fp2 n2 P2 St2)
    (hz : ZAny s.heap z TI TO (rawInt T) f) (hT : s.heap.get? T = none) (hTI : IsTupOf2 s.heap TI (.ref i1) (.ref i2)) (hTO : IsTupOf2 s.heap TO a1 a2) (st1 : St1 i s.heap) (st2 : St2 i s.heap) (hlt1 : i < n1) (hlt2 : i < n2)
    (hQ : ∀ x y h' tk, P1 i x → P2 i y → ZAny h' z TI TO (rawInt s.heap.objs.size) false → IsTupOf2 h' TO x y → St1 (i + 1) h' → St2 (i + 1) h' → IsTupOf2 h' s.heap.objs.size x y → h'.objs.size = s.heap.objs.size + 1 →
      (∀ c o, c ≠ z → c ≠ TO → c ≠ i1 → c ≠ i2 → s.heap.get? c = some o → h'.get? c = some o) → Q (some (.ref s.heap.objs.size)) { s with heap := h', toks := tk }) :
    wpAny (model prog w) A (pyNext (.ref z)) Q E s := by
  have ty : s.TypeIs (.ref z) "zip" := ⟨_, hz, rfl⟩
  unfold pyNext
  exact wpAny_bind (wpAny_attempt (wpAny_callSpecial?_slot (name := Str.ofString "__next__") ty F.slot_zip_next (wpAny_call_entry F.slot_zip_next ty F.entry_zip_next
    (zipX_item S D1 D2 hz hT hTI hTO st1 st2 hlt1 hlt2 fun x y h' tk a b c d e f2 g k l => wpAny_pure (hQ x y h' tk a b c d e f2 g k l)) (F.args_zip_next_1 _))))
theorem nextX_end {f : Bool} {a1 a2 : Value} {Q : Option Value → Shared → Prop} (S : ZipSep2 z TI TO i1 i2 fp1 fp2) (D1 : Draws prog w A.in1 i1 fp1 n1 P1 St1) (D2 : Draws prog w A.in1 i2 fp2 n2 P2 St2)
    (hz : ZAny s.heap z TI TO (rawInt T) f) (hT : s.heap.get? T = none) (hTI : IsTupOf2 s.heap TI (.ref i1) (.ref i2)) (hTO : IsTupOf2 s.heap TO a1 a2) (st1 : St1 i s.heap) (st2 : St2 i s.heap) (hle1 : i ≤ n1) (hle2 : i ≤ n2) (hend : i = n1 ∨ i = n2)
    (hQ : ∀ h' tk, (∀ c o, c ≠ z → c ≠ TO → c ≠ i1 → c ≠ i2 → s.heap.get? c = some o → h'.get? c = some o) → Q none { s with heap := h', toks := tk }) : wpAny (model prog w) A (pyNext (.ref z)) Q E s := by
  have ty : s.TypeIs (.ref z) "zip" := ⟨_, hz, rfl⟩
  unfold pyNext
  refine wpAny_bind (wpAny_attempt (wpAny_callSpecial?_slot (name := Str.ofString "__next__") ty F.slot_zip_next (wpAny_call_entry F.slot_zip_next ty F.entry_zip_next
    (zipX_end S D1 D2 hz hT hTI hTO st1 st2 hle1 hle2 hend fun h' tk e hk he => ?_) (F.args_zip_next_1 _))))
  obtain ⟨o, ho, hc⟩ := he
  exact wpAny_bind (wpAny_isInstance (T := "StopIteration") (b := true) ⟨o, ho, hc⟩ isSubtype_stop (wpAny_pure (hQ _ _ hk)))
def ZKept (h : Heap) (z TI TO : Addr) : Prop := ∃ v f, ZAny h z TI TO v f ∧ ((v = .none ∧ f = false) ∨ ∃ T : Addr, v = rawInt T)
theorem ZKept.item {a1 a2 : Value} {Q : Option Value → Shared → Prop} (S : ZipSep2 z TI TO i1 i2 fp1 fp2) (D1 : Draws prog w A.in1 i1 fp1 n1 P1 St1) (D2 : Draws prog w A.in1 i2 fp2 n2 P2 St2)
    (hz : ZKept s.heap z TI TO) (hTI : IsTupOf2 s.heap TI (.ref i1) (.ref i2)) (hTO : IsTupOf2 s.heap TO a1 a2) (st1 : St1 i s.heap) (st2 : St2 i s.heap) (hlt1 : i < n1) (hlt2 : i < n2)
    (hQ : ∀ x y h' tk, P1 i x → P2 i y → ZKept h' z TI TO → (∃ b1 b2, IsTupOf2 h' TO b1 b2) → St1 (i + 1) h' → St2 (i + 1) h' → IsTupOf2 h' s.heap.objs.size x y → h'.objs.size = s.heap.objs.size + 1 →
      (∀ c o, c ≠ z → c ≠ TO → c ≠ i1 → c ≠ i2 → s.heap.get? c = some o → h'.get? c = some o) → Q (some (.ref s.heap.objs.size)) { s with heap := h', toks := tk }) :
    wpAny (model prog w) A (pyNext (.ref z)) Q E s := by
  obtain ⟨v, f, hz, ⟨rfl, rfl⟩ | ⟨T, rfl⟩⟩ := hz
  · exact wpAny_pyNext_zipD2_item S D1 D2 hz hTI hTO st1 st2 hlt1 hlt2 fun x y h' tk p1 p2 b1 b2 d1 d2 t k kk => hQ x y h' tk p1 p2 ⟨_, _, b1, .inr ⟨_, rfl⟩⟩ ⟨_, _, b2⟩ d1 d2 t k kk
  · cases hT : s.heap.get? T with
    | none => exact nextX_item S D1 D2 hz hT hTI hTO st1 st2 hlt1 hlt2 fun x y h' tk p1 p2 b1 b2 d1 d2 t k kk => hQ x y h' tk p1 p2 ⟨_, _, b1, .inr ⟨_, rfl⟩⟩ ⟨_, _, b2⟩ d1 d2 t k kk
    | some oT => exact nextH_item S D1 D2 hz hT hTI st1 st2 hlt1 hlt2 fun x y h' tk p1 p2 b1 d1 d2 t k kk => hQ x y h' tk p1 p2 ⟨_, _, b1, .inr ⟨_, rfl⟩⟩ ⟨_, _, kk _ _ S.TOz S.Ti1 S.Ti2 hTO⟩ d1 d2 t k fun c o cz _ c1 c2 e => kk c o cz c1 c2 e
theorem ZKept.done {a1 a2 : Value} {Q : Option Value → Shared → Prop} (S : ZipSep2 z TI TO i1 i2 fp1 fp2) (D1 : Draws prog w A.in1 i1 fp1 n1 P1 St1) (D2 : Draws prog w A.in1 i2 fp2 n2 P2 St2)
    (hz : ZKept s.heap z TI TO) (hTI : IsTupOf2 s.heap TI (.ref i1) (.ref i2)) (hTO : IsTupOf2 s.heap TO a1 a2) (st1 : St1 i s.heap) (st2 : St2 i s.heap) (hle1 : i ≤ n1) (hle2 : i ≤ n2) (hend : i = n1 ∨ i = n2)
    (hQ : ∀ h' tk, (∀ c o, c ≠ z → c ≠ TO → c ≠ i1 → c ≠ i2 → s.heap.get? c = some o → h'.get? c = some o) → Q none { s with heap := h', toks := tk }) : wpAny (model prog w) A (pyNext (.ref z)) Q E s := by
  obtain ⟨v, f, hz, ⟨rfl, rfl⟩ | ⟨T, rfl⟩⟩ := hz
  · exact wpAny_pyNext_zipD2_end S D1 D2 hz hTI hTO st1 st2 hle1 hle2 hend hQ
  · cases hT : s.heap.get? T with
    | none => exact nextX_end S D1 D2 hz hT hTI hTO st1 st2 hle1 hle2 hend hQ
    | some oT => exact nextH_end S D1 D2 hz hT hTI st1 st2 hle1 hle2 hend fun h' tk kk => hQ h' tk fun c o cz _ c1 c2 e => kk c o cz c1 c2 e
end
open L2 PySem.Spec PyProof.Rows
structure ZTn (a b m n : Nat) (i : Nat) (h : Heap) : Prop where
  le : i ≤ m
  z : ZKept h (n + 4) (n + 2) (n + 3)
  ti : IsTupOf2 h (n + 2) (.ref n) (.ref (n + 1))
  to_ : ∃ x y, IsTupOf2 h (n + 3) x y
  l1 : h.IsListIter n a i
  l2 : h.IsListIter (n + 1) b i
section
variable {X : Cx} {W : WC} {u : Nat} {e e2 : Expr} {mas : MA} {x0 : Str} {tpos p pos : Pos}
end
end DL
namespace DL
open PySem PySem.Spec L2
def kvD (fs : List (Str × PyData)) : List (PyData × PyData) := fs.map fun p => (.str p.1, p.2)
section
variable {X : Cx} {W : WC} {e : Expr} {es : List Expr} {pos p apos : Pos} {m : ME} {mas : MA} {u u1 u2 : Nat} {x f : Str}
end
def spMk (K : PySem.W.Frag) (C : Addr) (n : Nat) (mk : List PyData → Option (List (Str × PyData))) : Sp := fun vs H Q _ => vs.length = n + 1 ∧ ∃ (F : Hp) (x dx : Addr) (us : List V) (ds : List PyData) (fs : List (Str × PyData)), vs = .ref x :: us ∧ Same F H ∧ F x = none ∧ H x = some (.ins C dx []) ∧ AtL K F us ds ∧ mk ds = some fs ∧
  ∀ gs : List (Str × V), AtKv K F (fKv gs) (kvD fs) → gs.map (·.1) = fs.map (·.1) → Q .non (upd H x (.ins C dx gs))
structure DMk (P : Program) (w : World) (K : PySem.W.Frag) (mg : Str → Option Value) (base : Heap) (nm : Str) (lv n : Nat) (mk : List PyData → Option (List (Str × PyData))) : Prop where
  ex : ∃ C fI fd ps, mg nm = some (.ref C) ∧ Mk K C fI ∧ ObjC K nm C ∧ FnOk P w K mg base L2.CX0 lv fI fd ps (spMk K C n mk) ∧ Binds K fd ps [] ∧ ps.length = n + 1 ∧ ∀ ds fs, mk ds = some fs → ∀ p ∈ fs, NoAttr K C p.1
section
variable {X : Cx} {W : WC} {e : Expr} {es : List Expr} {pos p apos : Pos} {mas : MA} {u : Nat} {nm : Str} {lv j n : Nat} {mk : List PyData → Option (List (Str × PyData))}
end
structure DMt (P : Program) (w : World) (K : PySem.W.Frag) (mg : Str → Option Value) (base : Heap) (CK : CKT) (nm m : Str) (lv u n : Nat) (mf : MF) : Prop where
  ex : ∃ C f fd ps, ObjC K nm C ∧ Meth K C m f ∧ Binds K fd ps [] ∧ ps.length = n ∧ FnG P w K mg base lv f fd ps (spD K mg CK u n mf)
section
variable {X : Cx} {W : WC} {o e : Expr} {es : List Expr} {pos p apos : Pos} {me : ME} {mas : MA} {u1 u2 u3 : Nat} {nm m : Str} {lv j n : Nat} {mf : MF}
end
section
variable {P : Program} {w : World} {K : PySem.W.Frag} {mg : Str → Option Value} {base : Heap}
end
end DL
namespace DL
open PySem PySem.Spec PyProof.Rows L2
structure Z3Tn (a b c m n : Nat) (i : Nat) (h : Heap) : Prop where
  le : i ≤ m
  z : IsZip h (n + 5) (n + 3) (n + 4) .none
  ti : IsTupOf3 h (n + 3) (.ref n) (.ref (n + 1)) (.ref (n + 2))
  to_ : ∃ x y z, IsTupOf3 h (n + 4) x y z
  l1 : h.IsTupleIter n a i
  l2 : h.IsTupleIter (n + 1) b i
  l3 : h.IsTupleIter (n + 2) c i
section
variable {X : Cx} {W : WC} {u : Nat} {e e2 e3 : Expr} {mas : MA} {elts : List Expr} {kk : Nat} {tpos p pos : Pos}
end
end DL
namespace DL
open PySem PySem.Spec L2
section
variable {X : Cx} {W : WC} {a b : Expr} {pos : Pos} {ma mb : ME} {u1 u2 : Nat}
end
end DL
namespace DL
open PySem PySem.Spec L2 PySem.W
section
open AutoSeq1 (wpAny_loadPart')
open MeetsSeq SeqAt
variable {A : Around} {s : Shared}
end
section
variable {X : Cx} {W : WC} {u1 u2 : Nat} {a b : Expr} {pos : Pos} {ma mb : ME}
end
end DL
namespace DL
open PySem PySem.Spec L2 PySem.W PyProof.Rows
section
variable {prog : Program} {w : World} {A : Around} {E : Value → Shared → Prop} {s : Shared} {a : Addr} {vs : List Value} {ns : List Int} {Q : Value → Shared → Prop}
end
section
variable {X : Cx} {W : WC} {e : Expr} {mas : MA} {u : Nat} {p pos : Pos}
end
section
variable {xs : List PyData} {R : DV → Prop}
end
end DL
namespace DL
open PySem PySem.Spec L2 PySem.W PyProof.Rows
section
variable {X : Cx} {W : WC} {u1 u2 : Nat} {a b : Expr} {pos : Pos} {ma mb : ME}
end
end DL
namespace DL
open PySem PySem.Spec L2 PySem.W
structure SrtOk (ds : List PyData) : Prop where
  t : ∀ d ∈ ds, ∃ x r, d = .tuple (x :: r)
  a : ∀ d ∈ ds, ∀ e ∈ ds, alike d e = true
  n : ∀ d ∈ ds, d.hasDict = false
  z : ∀ d ∈ ds, d.depth ≤ 20
section
variable {X : Cx} {W : WC} {e : Expr} {mas : MA} {u : Nat} {p pos : Pos}
end
end DL
namespace DL
open PySem PySem.Spec L2 PySem.W
section
variable {X : Cx} {W : WC} {e : Expr} {mas : MA} {u : Nat} {p pos : Pos}
end
end DL
namespace DL
open PySem PySem.Spec L2 PySem.W
section
variable {X : Cx} {W : WC} {u1 u2 : Nat} {es : List Expr} {e : Expr} {x1 : _} {tp ap cp : Pos} {mt mas : MA} {name : Str} {id : String} {r : V → List V → Hp → VK → Prop} {t ta : TA}
end
end DL
namespace DL
open PySem PySem.Spec PyProof.Rows L2
def lkT (ks : List (List Key × PyData)) (k : List Key) : Option PyData := match ks with
  | [] => none
  | (k', d) :: r => if k' = k then some d else lkT r k
def putT (ks : List (List Key × PyData)) (k : List Key) (d : PyData) : List (List Key × PyData) :=
  if (lkT ks k).isSome = true then ks.map (fun p => if p.1 = k then (p.1, d) else p) else ks ++ [(k, d)]
def keyL : List PyData → Option (List Key)
  | [] => some []
  | .int i :: r => (keyL r).map (.inl i :: ·)
  | .str x :: r => (keyL r).map (.inr x :: ·)
  | _ => none
section
variable {K : PySem.W.Frag} {F : Hp}
theorem AtKt.lk : ∀ {kvs : List (List Key × V)} {ks : List (List Key × PyData)} (k : List Key), AtKt K F kvs ks → (lkT ks k = none ∧ valV kvs k = none) ∨ ∃ v d, lkT ks k = some d ∧ valV kvs k = some v ∧ At K F v d
  | _, _, k, .nil => .inl ⟨rfl, rfl⟩
  | _, _, k, .cons (k := k') (v := v) (d := d) h t => by
    unfold lkT
    by_cases e : k' = k
    · rw [if_pos e, valV_pos (p := (k', v)) e]
      exact .inr ⟨v, d, rfl, rfl, h⟩
    · rw [if_neg e, valV_neg (p := (k', v)) e]
      exact AtKt.lk k t
theorem AtKt.length : ∀ {kvs : List (List Key × V)} {ks : List (List Key × PyData)}, AtKt K F kvs ks → kvs.length = ks.length
  | _, _, .nil => rfl
  | _, _, .cons _ t => by rw [List.length_cons, List.length_cons, AtKt.length t]
theorem AtKt.repl {v : V} {d : PyData} (h : At K F v d) (k : List Key) : ∀ {kvs : List (List Key × V)} {ks : List (List Key × PyData)}, AtKt K F kvs ks → AtKt K F (kvs.map fun kv => if kv.1 = k then (kv.1, v) else kv) (ks.map fun p => if p.1 = k then (p.1, d) else p)
  | _, _, .nil => .nil
  | _, _, .cons (k := k') (v := v') (d := d') h' t => by
    rw [List.map_cons, List.map_cons]
    by_cases e : k' = k
    · rw [if_pos e, if_pos e]
      exact .cons h (AtKt.repl h k t)
    · rw [if_neg e, if_neg e]
      exact .cons h' (AtKt.repl h k t)
theorem AtKt.snoc {v : V} {d : PyData} (h : At K F v d) (k : List Key) : ∀ {kvs : List (List Key × V)} {ks : List (List Key × PyData)}, AtKt K F kvs ks → AtKt K F (kvs ++ [(k, v)]) (ks ++ [(k, d)])
  | _, _, .nil => .cons h .nil
  | _, _, .cons h' t => .cons h' (AtKt.snoc h k t)
theorem AtKt.put {v : V} {d : PyData} (h : At K F v d) (k : List Key) {kvs : List (List Key × V)} {ks : List (List Key × PyData)} (a : AtKt K F kvs ks) : AtKt K F (putK kvs k v) (putT ks k d) := by
  unfold putK putT
  rw [valV_any]
  rcases AtKt.lk k a with ⟨e1, e2⟩ | ⟨v', d', e1, e2, _⟩
  · rw [e1, e2, if_neg (by simp), if_neg (by simp)]
    exact AtKt.snoc h k a
  · rw [e1, e2, if_pos (by simp), if_pos (by simp)]
    exact AtKt.repl h k a
theorem key_at : ∀ {vs : List V} {ds : List PyData} {k : List Key}, AtL K F vs ds → keyL ds = some k → vs = k.map kV
  | [], _, k, .nil, e => by cases e; rfl
  | v :: vs, d :: ds, k, .cons h t, e => by
    cases d with
    | int i =>
      cases h
      unfold keyL at e
      obtain ⟨k', e1, rfl⟩ := Option.map_eq_some_iff.mp e
      rw [List.map_cons, ← key_at t e1]
      rfl
    | str x =>
      cases h
      unfold keyL at e
      obtain ⟨k', e1, rfl⟩ := Option.map_eq_some_iff.mp e
      rw [List.map_cons, ← key_at t e1]
      rfl
    | _ => cases e
end
def DV.keyT : DV → Option (List Key)
  | .d (.tuple ds) => keyL ds
  | _ => none
theorem keyT_of {G : Gm} {F H : Hp} {v : V} {x : DV} {k : List Key} (h : VOk G F H v x) (hf : Same F H) (e : x.keyT = some k) : ∃ b, v = .ref b ∧ H b = some (.tup (k.map kV)) := by
  match x, e, h with
  | .d (.tuple ds), e, h =>
    cases (show At G.K F v (.tuple ds) from h) with
    | tup hs ha =>
      rw [key_at ha e] at hs
      exact ⟨_, rfl, hf _ _ hs⟩
def DV.dct : DV → Option (Addr × List (List Key × PyData))
  | .odt a ks => some (a, ks)
  | .bdt a ks => some (a, ks)
  | _ => none
theorem dct_of {G : Gm} {F H : Hp} {v : V} {x : DV} {a : Addr} {ks : List (List Key × PyData)} (h : VOk G F H v x) (e : x.dct = some (a, ks)) : ∃ kvs, v = .ref a ∧ Rd H a (.dT kvs) ∧ AtKt G.K F kvs ks := by
  match x, e, h with
  | .odt _ _, e, h =>
    cases e
    obtain ⟨rfl, kvs, h1, h2, _⟩ := h
    exact ⟨kvs, rfl, .inl h1, h2⟩
  | .bdt _ _, e, h =>
    cases e
    obtain ⟨rfl, kvs, h1, h2, _⟩ := h
    exact ⟨kvs, rfl, h1, h2⟩
section
variable {X : Cx}
end
section
variable {u u1 u2 u3 : Nat} {X : Cx} {W : WC} {a b c e : Expr} {es : List Expr} {pos p p1 p2 : Pos} {ma mb me mi : ME} {mas : MA} {m : MS} {x : Str}
def oTGet : D2 := fun x y R => match x.dct, y.keyT with
  | some (_, ks), some k => (match lkT ks k with | some d => R (.d d) | none => False)
  | _, _ => False
theorem de_tget (cx : CtxU X) (ha : DE X W a ma u1) (hb : DE X W b mb u2) (hs : NoSl b := by intro _ _; rfl) : DE X W (.Subscript a b pos) (mBin oTGet ma mb) (u1 + u2) :=
  ⟨PE.imp (pe_dget (by have := cx.un; omega) ha.pe hb.pe hs) fun σ H Q q => by
    obtain ⟨ex, G, F, δ, τ, ts, τ1, ts1, R, n, m, k⟩ := q
    refine ⟨ex, G, F, δ, τ, ts, τ1, ts1, _, n.fst, m, fun x hx v F1 H1 g1 => ?_⟩
    refine ⟨ex, G.up u1, F1, δ, τ, ts, _, _, _, n.after g1, hx, fun y hy u F2 H2 g2 => ?_⟩
    have e1 : Good (G.up (u1 + u2)) F2 (δ ++ τ ++ τ1 ++ [some x] ++ [some y]) (σ ++ ts ++ ts1 ++ [some v] ++ [some u]) H2 := by
      rw [up_up] at g2
      simpa only [List.append_assoc] using g2
    unfold oTGet at hy
    split at hy
    · rename_i l ks kk ex ey
      obtain ⟨kvs, rfl, h1, h2⟩ := dct_of e1.pop.top ex
      obtain ⟨b, rfl, hb⟩ := keyT_of e1.top e1.fh ey
      rcases AtKt.lk kk h2 with ⟨q1, q2⟩ | ⟨w, d, q1, q2, q3⟩
      · rw [q1] at hy; exact hy.elim
      · rw [q1] at hy
        exact ⟨l, w, rfl, by rw [← q2]; exact .inr ⟨kvs, kk, b, h1, rfl, hb, rfl⟩, k _ hy _ F2 H2 (e1.pop.pop.pushD q3)⟩
    · exact hy.elim⟩
end
section
variable {a : Addr} {ks : List (List Key × PyData)} {k : List Key} {ds xs : List PyData} {d : PyData} {R : DV → Prop} {n : Bool} {ps : List (List Key × PyData)}
theorem seen_ot : DV.seen (.odt a ks) = .bdt a ks := rfl
theorem seen_bt : DV.seen (.bdt a ks) = .bdt a ks := rfl
theorem isBor_ot : DV.isBor (.odt a ks) = false := rfl
theorem isBor_bt : DV.isBor (.bdt a ks) = true := rfl
end
end DL
namespace DL
open PySem PySem.Spec L2
section
variable {X : Cx} {W : WC} {u1 u2 : Nat} {a b : Expr} {pos : Pos} {ma mb : ME}
end
end DL
namespace L2
open PySem PySem.Spec PyProof.Rows
section
variable {X : Cx} {x y n : Str} {c c' : Value} {i : Nat} {B S S' : List Stmt} {s0 s1 : Stmt} {p1 p2 p3 p4 p5 : Pos} {tb : WX → TS} {ts ts' : Addr → Value → Option Addr → TS}
end
end L2
namespace DL
open PySem PySem.Spec L2 PySem.W
section
variable {X : Cx} {W : WC} {u1 u2 u3 k : Nat} {pos : Pos} {K' : Frag} {mg' : Str → Option Value} {L : List Str} {sub : Str → Str → Bool}
end
end DL
namespace DL
open PySem PySem.Spec PyProof.Rows L2
section
variable {X : Cx} {pins : List (Addr × Obj)} {σ : L2.St} {H : Hp} {s : Shared} {d : Addr} {o : Obj} {es : Array DictEntry} {ep : Nat}
variable {P : Program} {w : World} {K : PySem.W.Frag}
variable {e : Expr} {td : TE} {apos cpos : Pos}
end
structure Dr (F F' : Hp) : Prop where
  k : ∀ b u, F b = some u → (∀ o kvs, u ≠ .frz o (.dT kvs)) → F' b = some u
section
variable {K : PySem.W.Frag} {F F' : Hp}
theorem Dr.rd (e : Dr F F') {a : Addr} {u : HO} (h : Rd F a u) (h1 : ∀ o kvs, u ≠ .frz o (.dT kvs)) (h2 : ∀ kvs, u ≠ .dT kvs) : Rd F' a u := by
  rcases h with h | ⟨o, h⟩
  · exact .inl (e.k _ _ h h1)
  · exact .inr ⟨o, e.k _ _ h fun o2 kvs z => by cases z; exact h2 _ rfl⟩
mutual
theorem At.dr (e : Dr F F') : ∀ (d : PyData) (v : V), At K F v d → At K F' v d
  | .none, _, h => by cases h; exact .non
  | .bool b, _, h => by cases h; exact .bl b
  | .int i, _, h => by cases h; exact .int i
  | .str x, _, h => by cases h; exact .str x
  | .list ds, _, h => by
    cases h with
    | lst hs ha => exact .lst (e.k _ _ hs (fun _ _ z => by cases z)) (AtL.dr e ds _ ha)
  | .tuple ds, _, h => by
    cases h with
    | tup hs ha => exact .tup (e.k _ _ hs (fun _ _ z => by cases z)) (AtL.dr e ds _ ha)
  | .dict ds, _, h => by
    cases h with
    | dct hs ha => exact .dct (e.rd hs (fun _ _ z => by cases z) (fun _ z => by cases z)) (AtKv.dr e ds _ ha)
    | obj hs ho hn ha => exact .obj (e.k _ _ hs (fun _ _ z => by cases z)) ho hn (AtKv.dr e _ _ ha)
theorem AtL.dr (e : Dr F F') : ∀ (ds : List PyData) (vs : List V), AtL K F vs ds → AtL K F' vs ds
  | [], _, h => by cases h; exact .nil
  | d :: ds, _, h => by
    cases h with
    | cons h1 h2 => exact .cons (At.dr e d _ h1) (AtL.dr e ds _ h2)
theorem AtKv.dr (e : Dr F F') : ∀ (ds : List (PyData × PyData)) (kvs : List (Key × V)), AtKv K F kvs ds → AtKv K F' kvs ds
  | [], _, h => by cases h; exact .nil
  | (k, d) :: ds, _, h => by
    cases h with
    | cons h1 h2 => exact .cons (At.dr e d _ h1) (AtKv.dr e ds _ h2)
end
theorem AtKt.dr (e : Dr F F') : ∀ (ds : List (List Key × PyData)) (kvs : List (List Key × V)), AtKt K F kvs ds → AtKt K F' kvs ds
  | [], _, h => by cases h; exact .nil
  | (k, d) :: ds, _, h => by
    cases h with
    | cons h1 h2 => exact .cons (At.dr e d _ h1) (AtKt.dr e ds _ h2)
end
section
variable {G : Gm} {F F2 H H2 : Hp} {δ : Env} {σ : L2.St} {i : Nat} {x y : DV} {v : V} {l : Addr} {kvs : List (List Key × V)} {ks : List (List Key × PyData)} {o : Obj}
theorem AtF.dr {K : PySem.W.Frag} {F F' : Hp} (e : Dr F F') {v : V} {x : FV} (h : AtF K F v x) : AtF K F' v x := by
  cases h with
  | d h => exact .d (At.dr e _ _ h)
  | r a => exact .r a
theorem AtFs.dr {K : PySem.W.Frag} {F F' : Hp} (e : Dr F F') : ∀ {vs : List (Str × V)} {fs : List (Str × FV)}, AtFs K F vs fs → AtFs K F' vs fs
  | _, _, .nil => .nil
  | _, _, .cons h r => .cons (h.dr e) (AtFs.dr e r)
theorem AtFl.dr {K : PySem.W.Frag} {F F' : Hp} (e : Dr F F') : ∀ {vs : List V} {fs : List FV}, AtFl K F vs fs → AtFl K F' vs fs
  | _, _, .nil => .nil
  | _, _, .cons h r => .cons (h.dr e) (AtFl.dr e r)
theorem Dr.sqO {F F' : Hp} (e : Dr F F') {a : Addr} {tup : Bool} {vs : List V} (h : F a = some (DL.sqO tup vs)) : F' a = some (DL.sqO tup vs) := by
  cases tup with
  | true => exact e.k _ _ h (fun _ _ z => by cases z)
  | false => exact e.k _ _ h (fun _ _ z => by cases z)
end
section
variable {u u1 u2 u3 : Nat} {X : Cx} {W : WC} {a b c e : Expr} {es : List Expr} {pos p p1 p2 : Pos} {ma mb mc me mi : ME} {m : MS} {x : Str}
def isOdtAt (δ : Env) (i : Nat) : Prop := match δ[i]? with
  | some (some (.odt _ _)) => True
  | _ => False
def mTPut (i : Nat) (mi me : ME) : MS := fun ex E δ => isOdtAt δ i ∧ me ex δ fun y => mi ex δ fun z => match δ[i]?, y.val, z.keyT with
  | some (some (.odt a ks)), some d, some k => ks.length < sizeLine ∧ E.nx (δ.set i (some (.odt a (putT ks k d))))
  | _, _, _ => False
theorem ds_tput {i : Nat} {idx : Expr} (cx : CtxU X) (hv : PE X (.Name x p1) (tVar i)) (hi : DE X W idx mi u2) (he : DE X W e me u1)
    (hs : swapsWith e (some (.Subscript (.Name x p1) idx p2)) pos.line X.env = pure false := by rfl) : DS X W (.Assign [.Subscript (.Name x p1) idx p2] e pos) (mTPut i mi me) (u1 + u2) :=
  ⟨PS.imp (ps_dput (by have := cx.un; omega) hv hi.pe he.pe hs) fun D σ H q => by
    obtain ⟨ex, G, F, δ, τ, ts, E, n, nb, eo, ho1, h⟩ := q
    obtain ⟨a, ks, eX⟩ : ∃ a ks, δ[i]? = some (some (.odt a ks)) := by
      unfold isOdtAt at ho1
      split at ho1
      · rename_i a ks e; exact ⟨a, ks, e⟩
      · exact ho1.elim
    have hiL : i < δ.length := (List.getElem?_eq_some_iff.mp eX).1
    refine ⟨ex, G, F, δ, τ, ts, [], [], _, n.fst, h, fun y hy v F1 H1 g1 => ?_⟩
    obtain ⟨w0, ew0, hw0⟩ := n.g0.get (i := i) (dv := .odt a ks) (by rw [List.getElem?_append_left hiL]; exact eX)
    obtain ⟨rfl, kvs0, _⟩ := hw0
    rw [List.getElem?_append_left (by have := n.l1; omega)] at ew0
    refine ⟨.ref a, ew0, ?_⟩
    refine ⟨ex, G.up u1, F1, δ, τ, ts, _, _, _, n.after (rs := [some y]) (vs := [some v]) g1, hy, fun z hz iv F2 H2 g2 => ?_⟩
    rw [up_up] at g2
    have g : Good (G.up (u1 + u2)) F2 (δ ++ τ ++ [some y] ++ [some z]) (σ ++ ts ++ [some v] ++ [some iv]) H2 := by simpa only [List.append_assoc, List.nil_append] using g2
    rw [eX] at hz
    cases hyv : y.val with
    | none => rw [hyv] at hz; exact hz.elim
    | some d =>
      cases hzk : z.keyT with
      | none => rw [hyv, hzk] at hz; exact hz.elim
      | some kk =>
        rw [hyv, hzk] at hz
        obtain ⟨hlen, hz⟩ := hz
        obtain ⟨b, rfl, hb⟩ := keyT_of g.top g.fh hzk
        obtain ⟨F3, s3, g3⟩ := fix_one (A := δ ++ τ) (A2 := []) (x := y) (ρ := σ ++ ts ++ [some v]) (by simpa using g.pop) hyv
        have g3' : Good (G.up (u1 + u2)) F3 (δ ++ τ ++ [some (.d d)]) (σ ++ ts ++ [some v]) H2 := g3
        have hd : At G.K F3 v d := g3'.top
        have g4 := g3'.pop
        obtain ⟨w, ew, e2, kvs, q1, q2, _⟩ := g4.get (i := i) (dv := .odt a ks) (by rw [List.getElem?_append_left hiL]; exact eX)
        refine ⟨a, _, rfl, DPut.t q1 hb (by rw [q2.length]; exact hlen), ?_⟩
        have g5 := g4.writeT (fun j x e b => by rw [nb j x e] at b; cases b) (n := i) (xs := ks) (ys := putT ks kk d) (l := a) (kvs := putK kvs kk v) (by rw [List.getElem?_append_left hiL]; exact eX) (by rw [List.getElem?_append_left (by have := n.l1; omega)]; exact ew0) (AtKt.put hd kk q2)
        rw [List.set_append_left _ _ hiL] at g5
        refine eo.nx _ hz _ σ F3 _ (Nat.le_refl _) (by simpa using n.l1) ?_ g5
        rw [← List.set_append_left _ _ hiL]
        exact noBor_set nb rfl⟩
theorem AtKt.get {K : PySem.W.Frag} {F : Hp} : ∀ {kvs : List (List Key × V)} {ks : List (List Key × PyData)} {i : Nat} {p : List Key × PyData}, AtKt K F kvs ks → ks[i]? = some p → ∃ v, kvs[i]? = some (p.1, v) ∧ At K F v p.2
  | _, _, i, p, .nil, e => by simp at e
  | _, _, 0, p, .cons h _, e => by
    simp at e
    subst e
    exact ⟨_, rfl, h⟩
  | _, _, i + 1, p, .cons _ t, e => by
    obtain ⟨v, h1, h2⟩ := AtKt.get (i := i) t (by simpa using e)
    exact ⟨v, by simpa using h1, h2⟩
variable {tg iter elt : Expr} {ifs : List Expr} {scope : Scope} {own : List (Str × Nat)} {tt : MT} {te : ME} {ut ue : Nat} {dom : List Nat} {mi' : MI}
end
section
variable {a : Addr} {ks : List (List Key × PyData)} {k : List Key} {ds : List PyData} {d : PyData} {i : Int} {x : Str} {p : Unit → LkT} {xs : List PyData}
theorem dct_ot : DV.dct (.odt a ks) = some (a, ks) := rfl
theorem dct_bt : DV.dct (.bdt a ks) = some (a, ks) := rfl
theorem keyT_t : DV.keyT (.d (.tuple ds)) = keyL ds := rfl
theorem keyL_nil : keyL [] = some [] := rfl
theorem keyL_i : keyL (.int i :: ds) = (keyL ds).map (.inl i :: ·) := by rw [keyL]
theorem keyL_s : keyL (.str x :: ds) = (keyL ds).map (.inr x :: ·) := by rw [keyL]
theorem isOdt_0 {δ : Env} : isOdtAt (some (.odt a ks) :: δ) 0 = True := rfl
theorem isOdt_s {y : Option DV} {n : Nat} {δ : Env} : isOdtAt (y :: δ) (n + 1) = isOdtAt δ n := by unfold isOdtAt; rw [List.getElem?_cons_succ]
theorem seen_lt : DV.seen (.ldt p ks) = .ldt p ks := rfl
theorem isBor_lt : DV.isBor (.ldt p ks) = false := rfl
end
end DL
namespace DL
open PySem PySem.Spec L2
def KBind (K : PySem.W.Frag) (fd : FuncData) (ps : List Str) (n : Nat) (pk : Str) : Prop :=
  ∀ (s : Shared) (us : List Value) (u : Value), K.In s.heap → us.length = n → BindsTo s fd ⟨us, [(pk, u)]⟩ (ps.zip (us ++ [u]))
def DFnK (P : Program) (w : World) (K : PySem.W.Frag) (mg : Str → Option Value) (base : Heap) (CK : CKT) (x pk : Str) (k u n : Nat) (mf : MF) : Prop :=
  ∃ (f : Addr) (fd : FuncData) (ps : List Str), mg x = some (.ref f) ∧ PySem.W.keepIn K (.ref f) = true ∧ KBind K fd ps n pk ∧ ps.length = n + 1 ∧ FnG P w K mg base k f fd ps (spD K mg CK u (n + 1) mf)
section
variable {P : Program} {w : World} {K : PySem.W.Frag} {mg : Str → Option Value} {base : Heap}
theorem DFnK.le {x pk : Str} {k u u' n : Nat} {mf : MF} {CK : CKT} (h : DFnK P w K mg base CK x pk k u n mf) (hu : u ≤ u') : DFnK P w K mg base CK x pk k u' n mf := by
  obtain ⟨f, fd, ps, h1, h2, h3, h4, h5⟩ := h
  refine ⟨f, fd, ps, h1, h2, h3, h4, h5.imp fun vs H Q E q => ?_⟩
  obtain ⟨q1, G, F, as, R, ex, q2, q3, q4, q5, q6, q7, q8, q9⟩ := q
  exact ⟨q1, G, F, as, R, ex, q2, ⟨q3.1, Nat.le_trans (Nat.add_le_add_left hu _) q3.2⟩, q4, q5, q6, q7, fun r hr ha v F' H' g => q8 r hr ha v F' H' (g.mono hu), fun e he b cls d F' H' hb g => q9 e he b cls d F' H' (Nat.le_trans hb hu) g⟩
end
section
variable {X : Cx} {W : WC} {e e0 : Expr} {es : List Expr} {pos p kp : Pos} {mas : MA} {me : ME} {x pk : Str} {k j n u1 u2 u3 : Nat} {mf : MF}
end
end DL
namespace DL
open PySem PySem.Spec L2
section
variable {u u1 u2 u3 : Nat} {X : Cx} {W : WC} {a b c : Expr} {ma mb mc : ME}
end
end DL
namespace DL
open PySem PySem.Spec L2
section
variable {X : Cx} {W : WC} {e o : Expr} {es : List Expr} {apos pos : Pos} {mas : MA} {me : ME} {nm m : Str} {lv j n u1 u2 u3 : Nat} {mf : MF}
end
end DL
namespace DL
open PySem PySem.Spec L2
abbrev MK := List DV → (List (Str × PyData) → Prop) → (DExc → Prop) → Prop
def spMkG (K : PySem.W.Frag) (mg : Str → Option Value) (CK : CKT) (C : Addr) (u n : Nat) (mk : MK) : Sp := fun vs H Q E => vs.length = n + 1 ∧ ∃ (G : Gm) (F : Hp) (x dx : Addr) (us : List V) (as : List DV) (R : List (Str × PyData) → Prop) (ex : DExc → Prop), vs = .ref x :: us ∧ G.K = K ∧ (CK G.C G.cv G.J G.lim ∧ G.n + u ≤ G.lim) ∧ as.length = us.length ∧ (∀ z ∈ as, z.arg = true) ∧
  Good G F (as.map some) (us.map some) H ∧ F x = none ∧ G.B x = none ∧ H x = some (.ins C dx []) ∧ mk as R ex ∧
  (∀ fs, R fs → (∀ p ∈ fs, NoAttr K C p.1) → ∀ gs F' H', Good (G.up u) F' [] [] H' → H' x = some (.ins C dx gs) → F' x = none → AtKv K F' (fKv gs) (kvD fs) → Q .non H') ∧
  (∀ e, ex e → ∀ b cls d F' H', b ≤ u → Good (G.up b) F' [] [] H' → ExcAt K mg F' H' e cls d → E cls d H')
structure DMkG (P : Program) (w : World) (K : PySem.W.Frag) (mg : Str → Option Value) (base : Heap) (CK : CKT) (nm : Str) (lv u n : Nat) (mk : MK) : Prop where
  ex : ∃ C fI fd ps, mg nm = some (.ref C) ∧ Mk K C fI ∧ ObjC K nm C ∧ FnG P w K mg base lv fI fd ps (spMkG K mg CK C u n mk) ∧ Binds K fd ps [] ∧ ps.length = n + 1
section
variable {X : Cx} {W : WC} {e : Expr} {es : List Expr} {pos p apos : Pos} {mas : MA} {u u1 u2 : Nat} {nm : Str} {lv j n : Nat} {mk : MK}
theorem Good.obj {G : Gm} {F H : Hp} {δ : Env} {σ : L2.St} (g : Good G F δ σ H) {x : Addr} {o : HO} (h : H x = some o) (hf : F x = none) (hb : G.B x = none) (hx : ∀ (i : Nat) (z : DV), δ[i]? = some (some z) → z.isOwn = true → σ[i]? ≠ some (some (.ref x))) (hc : ¬ G.C x) : Same F (upd F x o) ∧ Good G (upd F x o) δ σ H := by
  have s : Same F (upd F x o) := fun b u e => by rw [upd_ne (ne_of_none e hf)]; exact e
  refine ⟨s, g.g, g.len, g.f0.trans s, fun b u e => ?_, fun b e1 e2 => ?_, g.bh, fun b c => ?_, g.jh, fun i z e => ?_, g.di⟩
  · by_cases q : b = x
    · subst q
      rw [upd_same] at e
      cases e
      exact h
    · rw [upd_ne q] at e
      exact g.fh _ _ e
  · by_cases q : b = x
    · subst q
      exact .inl hb
    · rw [upd_ne q] at e1 ⊢
      exact g.fr b e1 e2
  · rw [upd_ne (fun z : b = x => hc (z ▸ c))]
    exact g.cf b c
  · obtain ⟨w, ew, hw⟩ := g.sl i z e
    refine ⟨w, ew, hw.keep s (fun _ _ _ _ q => q) fun p hz hq hp => ?_⟩
    rw [upd_ne]
    · exact hp
    · intro e2
      subst e2
      subst hq
      exact hx i z e hz ew
end
theorem Good.wr {G : Gm} {F H : Hp} (g : Good G F [] [] H) {p : Addr} {o o' : HO} (hp : H p = some o) (hx : ∀ φ, o ≠ .ext φ) (hF : F p = none) (hB : G.B p = none) (hC : ¬ G.C p) : Good G F [] [] (upd H p o') := by
  refine ⟨g.g, rfl, g.f0, fun b u e => ?_, g.fr, fun b u c e => ?_, g.cf, g.g.js _ _ _ g.jh (fun b c => upd_ne fun z => hC (z ▸ c)) (fun b φ e => ?_), fun i z e => (by simp at e), fun i j x y l h1 h2 e1 _ _ _ => (by simp at e1)⟩
  · rw [upd_ne fun z => by rw [z, hF] at e; cases e]; exact g.fh _ _ e
  · rw [upd_ne fun z => by rw [z, hB] at e; cases e]; exact g.bh _ _ c e
  · rw [upd_ne fun z => by rw [z, hp] at e; exact hx φ (Option.some.inj e)]; exact e
end DL
namespace DL
open PySem PySem.Spec PySem.Calls PyProof.Rows PyProof.V L2 PySem.W
section
variable {prog : Program} {w : World} {A : Around} {E : Value → Shared → Prop} {s : Shared} {es : Array DictEntry} {ep : Nat}
structure ItG (es : Array DictEntry) (lo : Addr) (h : Heap) (as : List Addr) : Prop where
  rise : as.Pairwise (· < ·)
  above : ∀ a ∈ as, lo < a
  pairs : ∀ (j : Nat) (a : Addr), as[j]? = some a → ∃ e, es[j]? = some e ∧ h.get? a = some { cls := .type "tuple", data := .seq #[e.key, e.val] }
theorem ItG.there {lo : Addr} {h : Heap} {as : List Addr} (g : ItG es lo h as) {a : Addr} (ha : a ∈ as) : a < h.objs.size := by
  obtain ⟨j, hj⟩ := List.mem_iff_getElem?.mp ha
  obtain ⟨_, _, e⟩ := g.pairs j a hj
  exact Heap.lt_size e
end
section
variable {prog : Program} {w : World} {A : Around} {E : Value → Shared → Prop} {s : Shared} {es : Array DictEntry} {ep : Nat} {r d : Addr}
theorem ItG.low {lo lo' : Addr} {h : Heap} {as : List Addr} (g : ItG es lo h as) (hl : lo' ≤ lo) : ItG es lo' h as := ⟨g.rise, fun a ha => Nat.lt_of_le_of_lt hl (g.above a ha), g.pairs⟩
end
end DL
namespace DL
open PySem PySem.Spec PyProof.Rows L2
section
variable {X : Cx} {e : Expr} {te : TE} {p apos cpos pos : Pos}
end
section
variable {X : Cx} {W : WC} {e : Expr} {p apos cpos pos : Pos} {me : ME} {u : Nat}
end
end DL
namespace DL
open PySem PySem.Spec PyProof.Rows L2
section
variable {X : Cx} {W : WC} {pos p1 p2 : Pos} {e idx : Expr} {me mi : ME} {x : Str} {u1 u2 u3 : Nat}
def mDictT0 : ME := fun _ _ R => ∀ a, R (.odt a [])
theorem de_dictT0 : DE X W (.Dict [] [] pos) mDictT0 0 := ⟨PE.imp pe_dnewT fun σ H Q q => by
  obtain ⟨ex, G, F, δ, τ, ts, τ1, ts1, R, n, m, k⟩ := q
  exact fun p hp => k _ (m p) _ F _ (n.good.newT' hp)⟩
end
end DL
namespace ST
open PySem PySem.Spec PyProof.Rows L2
variable {P : Program} {w : World} {K : Type} [DecidableEq K] {knd : KeyKind P w K} {A : Around} {E : Value → Shared → Prop} {s : Shared}
structure Plain (knd : KeyKind P w K) : Prop where
  cls : ∀ {k : K} {v : Value}, knd.is k v = true → ∀ n, ofAClassStatement n v = pure false
  val : ∀ {k : K} {v : Value}, knd.is k v = true → ∃ f, ∀ n, hashByValue n v = pure f
theorem keyed {ks : List K} {vs : List Value} (h : ItemsAre knd ks vs) : ∀ v ∈ vs, ∃ k, knd.is k v = true := by
  induction h with
  | nil => exact fun v hv => absurd hv (List.not_mem_nil)
  | cons h1 _ ih => exact fun v hv => (List.mem_cons.mp hv).elim (fun e => ⟨_, e ▸ h1⟩) (ih v)
theorem cls_no (T : Plain knd) {ks : List K} {b : Addr} {R : Bool → Shared → Prop} (hk : IsTupleKey knd s.heap ks b) (hR : R false s) : wpAny (model P w) A (ofAClassStatement 8 (.ref b)) R E s := by
  have ty := hk.typeIs
  obtain ⟨ob, its, m, hob, -, hdat, hits⟩ := hk
  have yes : (("tuple" : String) == "tuple") = true := by decide
  unfold ofAClassStatement
  refine wpAny_bind (wpAny_typeOf ty ?_)
  simp only [yes, if_true, Bool.not_true, Bool.false_eq_true, if_false]
  try refine wpAny_bind (wpAny_pure ?_)
  try simp only [Bool.not_true, Bool.false_eq_true, if_false]
  refine wpAny_bind (m := seqItems? (.ref b)) (wpAny_seqItems hob hdat ?_)
  dsimp only
  refine wpAny_bind ?_
  show wpAny _ _ (forIn its _ _) _ _ s
  rw [← Array.forIn_toList]
  have all := keyed hits
  refine wpAny_forIn_list _ (fun left st s1 => (st.1 = none ∧ s1 = s) ∧ ∀ v ∈ left, ∃ k, knd.is k v = true) _ (fun v left st s1 ⟨⟨e1, e2⟩, hv⟩ => ?_) (fun st s1 ⟨⟨e1, e2⟩, _⟩ => ?_) _ _ ⟨⟨rfl, rfl⟩, all⟩
  · subst e2
    obtain ⟨k, hkv⟩ := hv v (List.mem_cons_self ..)
    rw [T.cls hkv]
    refine wpAny_bind (wpAny_pure ?_)
    simp only [Bool.false_eq_true, if_false]
    exact wpAny_pure ⟨⟨rfl, rfl⟩, fun x hx => hv x (List.mem_cons_of_mem _ hx)⟩
  · subst e2
    obtain ⟨st1, st2⟩ := st
    have e1 : st1 = none := e1
    subst e1
    exact wpAny_pure hR
theorem by_value (T : Plain knd) {ks : List K} {b : Addr} {R : Bool → Shared → Prop} (hk : IsTupleKey knd s.heap ks b) (hR : ∀ f, R f s) : wpAny (model P w) A (hashByValue 8 (.ref b)) R E s := by
  have ty := hk.typeIs
  obtain ⟨ob, its, m, hob, -, hdat, hits⟩ := hk
  unfold hashByValue
  refine wpAny_bind (wpAny_specialOf ty F.slot_tuple_hash.lookup ?_)
  refine wpAny_bind (m := seqItems? (.ref b)) (wpAny_seqItems hob hdat ?_)
  refine wpAny_bind ?_
  show wpAny _ _ (forIn its _ _) _ _ s
  rw [← Array.forIn_toList]
  have all := keyed hits
  refine wpAny_forIn_list _ (fun left st s1 => (st.1 = none ∨ st.1 = some false) ∧ s1 = s ∧ ∀ v ∈ left, ∃ k, knd.is k v = true) _ (fun v left st s1 ⟨e1, e2, hv⟩ => ?_) (fun st s1 ⟨e1, e2, _⟩ => ?_) _ _ ⟨.inl rfl, rfl, all⟩
  · subst e2
    obtain ⟨k, hkv⟩ := hv v (List.mem_cons_self ..)
    obtain ⟨f, hf⟩ := T.val hkv
    rw [hf]
    refine wpAny_bind (wpAny_pure ?_)
    cases f with
    | true =>
      simp only [Bool.not_true, Bool.false_eq_true, if_false]
      exact wpAny_pure ⟨.inl rfl, rfl, fun x hx => hv x (List.mem_cons_of_mem _ hx)⟩
    | false =>
      simp only [Bool.not_false, if_true]
      exact wpAny_pure (wpAny_pure (hR false))
  · subst e2
    obtain ⟨st1, st2⟩ := st
    have e1 : st1 = none ∨ st1 = some false := e1
    rcases e1 with rfl | rfl
    · exact wpAny_pure (hR true)
    · exact wpAny_pure (hR false)
theorem unseen (T : Plain knd) {ks : List K} {b : Addr} {R : Bool → Shared → Prop} (hk : IsTupleKey knd s.heap ks b) {ys : List Value} (hy : ∀ y ∈ ys, ∃ c js, y = Value.ref c ∧ IsTupleKey knd s.heap js c) (hR : R false s) :
    wpAny (model P w) A (searchCouldBeSeen (.ref b) ys) R E s := by
  unfold searchCouldBeSeen
  refine wpAny_bind ?_
  refine wpAny_forIn_list _ (fun left st s1 => (st.1 = none ∧ s1 = s) ∧ ∀ y ∈ left, ∃ c js, y = Value.ref c ∧ IsTupleKey knd s.heap js c) _ (fun v left st s1 ⟨⟨e1, e2⟩, hv⟩ => ?_) (fun st s1 ⟨⟨e1, e2⟩, _⟩ => ?_) _ _ ⟨⟨rfl, rfl⟩, hy⟩
  · subst e2
    obtain ⟨c, js, rfl, hc⟩ := hv v (List.mem_cons_self ..)
    have more : ∀ y ∈ left, ∃ c js, y = Value.ref c ∧ IsTupleKey knd s1.heap js c := fun x hx => hv x (List.mem_cons_of_mem _ hx)
    dsimp only
    rcases Bool.eq_false_or_eq_true (b == c || (carriedByValue (.ref b) && carriedByValue (.ref c))) with hq | hq
    · exact wp_if_pos hq (wpAny_pure ⟨⟨rfl, rfl⟩, more⟩)
    · refine wp_if_neg (by rw [hq]; exact Bool.false_ne_true) ?_
      refine wpAny_bind (wpAny_eqIsQuiet_tuple hk ?_)
      simp only [Bool.not_true, Bool.false_eq_true, if_false]
      refine wpAny_bind (wpAny_eqIsQuiet_tuple hc ?_)
      simp only [Bool.not_true, Bool.false_eq_true, if_false]
      refine wpAny_bind (cls_no T hk ?_)
      simp only [Bool.false_eq_true, if_false]
      refine wpAny_bind (cls_no T hc ?_)
      simp only [Bool.false_eq_true, if_false]
      exact wpAny_pure ⟨⟨rfl, rfl⟩, more⟩
  · subst e2
    obtain ⟨st1, st2⟩ := st
    have e1 : st1 = none := e1
    subst e1
    exact wpAny_pure hR
abbrev stp (m : Nat) (h : Int) (c : Nat) : SetTable.Probe := nth m (runAt m (SetTable.bits h % (m + 1)) (SetTable.bits h)) c
theorem stp_add (m : Nat) (h : Int) (c q : Nat) : nth m (stp m h c) q = stp m h (c + q) := (nth_add m c _ q).symm
theorem nth_nd (m : Nat) : ∀ (n : Nat) (p : SetTable.Probe), p.dummy = none → (nth m p n).dummy = none
  | 0, _, h => h
  | n + 1, p, h => nth_nd m n (adv m p) (by unfold adv; split <;> exact h)
theorem stp_nd {m : Nat} {h : Int} {c : Nat} : (stp m h c).dummy = none := nth_nd m c _ rfl
structure Of (P : Program) (w : World) (knd : KeyKind P w K) (h : Heap) (a : Addr) (L : List (Addr × List K)) (es : Array (Int × Value)) (ep : Nat) (t : SetTable) : Prop where
  obj : ∃ o, h.get? a = some o ∧ o.ExactSet ∧ o.data = .set es ep t
  ent : es.toList = L.map fun p => (tupleKeyHash knd p.2, Value.ref p.1)
  lay : TabOk t (L.map fun p => tupleKeyHash knd p.2)
  dif : (L.map Prod.snd).Nodup
  key : ∀ p ∈ L, IsTupleKey knd h p.2 p.1
  spare : L.length * 5 < t.mask * 3
  led : w.params.followText "set-order" = true ∨ t.led = true
  small : L.length ≤ 76
section
variable {a : Addr} {L : List (Addr × List K)} {es : Array (Int × Value)} {ep : Nat} {t : SetTable}
theorem ent_size (h : es.toList = L.map fun p => (tupleKeyHash knd p.2, Value.ref p.1)) : es.size = L.length := by
  rw [← Array.length_toList, h, List.length_map]
theorem ent_at (h : es.toList = L.map fun p => (tupleKeyHash knd p.2, Value.ref p.1)) {i : Nat} {p : Addr × List K} (e : L[i]? = some p) : es[i]? = some (tupleKeyHash knd p.2, Value.ref p.1) := by
  rw [← Array.getElem?_toList, h, List.getElem?_map, e]
  rfl
theorem fits_of (h : t.place.size = es.size) (hd : t.dummies = #[]) (hm : es.size ≤ t.mask) : t.fits es.size = true := by
  unfold SetTable.fits SetTable.fill
  simp only [hd, Bool.and_eq_true, beq_iff_eq, decide_eq_true_eq]
  exact ⟨h, by show t.place.size + 0 ≤ _; omega⟩
theorem Of.psz (R : Of P w knd s.heap a L es ep t) : t.place.size = es.size := by
  rw [R.lay.sz, List.length_map, ent_size R.ent]
theorem Of.fits (R : Of P w knd s.heap a L es ep t) : t.fits es.size = true := fits_of R.psz R.lay.dm (by
  have := R.spare
  rw [ent_size R.ent]
  omega)
theorem Of.spot (R : Of P w knd s.heap a L es ep t) {i j : Nat} (h : t.place.toList[i]? = some j) : ∃ p, L[i]? = some p ∧ p ∈ L := by
  have h1 : i < t.place.toList.length := (List.getElem?_eq_some_iff.mp h).1
  rw [Array.length_toList, R.psz, ent_size R.ent] at h1
  exact ⟨L[i], List.getElem?_eq_getElem h1, List.getElem_mem h1⟩
theorem Of.seek (R : Of P w knd s.heap a L es ep t) (T : Plain knd) {x : Addr} {k : List K} (hx : IsTupleKey knd s.heap k x) (hu : A.units < cLine) {F : Nat} (hF : F < 10 * SetTable.turns t.mask)
    (free : way t.mask (tupleKeyHash knd k) F ∉ t.place.toList) (busy : ∀ c, c < F → way t.mask (tupleKeyHash knd k) c ∈ t.place.toList) {R2 : SetFound → Shared → Prop}
    (yes : k ∈ L.map Prod.snd → R2 (.there none) s) (no : k ∉ L.map Prod.snd → R2 (.free (way t.mask (tupleKeyHash knd k) F) false) s) (fuel : Nat) :
    ∀ (c : Nat) (st : Option SetTable.Probe), st.getD (t.probeStart (tupleKeyHash knd k)) = stp t.mask (tupleKeyHash knd k) c → c ≤ F → F < fuel + c →
      (∀ (i : Nat) p, L[i]? = some p → p.2 = k → ∃ d, c ≤ d ∧ d < F ∧ t.place.toList[i]? = some (way t.mask (tupleKeyHash knd k) d)) →
      wpAny (model P w) A (setSearchFrom a (.ref x) (tupleKeyHash knd k) true fuel st) R2 E s := by
  induction fuel with
  | zero => exact fun c st _ h1 h2 _ => absurd h2 (by omega)
  | succ fuel ih =>
    intro c st hst hc hf hre
    obtain ⟨o, ho, -, hd⟩ := R.obj
    have gw : ¬ t.gaveWay = true := by
      unfold SetTable.gaveWay
      rw [mask_odd R.lay.mok]
      decide
    have hashes : ∀ (i : Nat) p, L[i]? = some p → ((es[i]?.map (·.1)).getD 0 : Int) = tupleKeyHash knd p.2 := fun i p hp => by rw [ent_at R.ent hp]; rfl
    have spec := go_spec t R.lay.ris R.lay.dm (fun i => (es[i]?.map (·.1)).getD 0) (tupleKeyHash knd k) (10 * SetTable.turns t.mask) (F - c) (stp t.mask (tupleKeyHash knd k) c) stp_nd (by omega)
      (fun q hq => by rw [stp_add]; exact busy (c + q) (by omega)) (by rw [stp_add, show c + (F - c) = F by omega]; exact free)
    -- what is passed over isn't the tuple
    have past : ∀ (z : Nat), (∀ (k' i' : Nat), k' < z → t.place.toList[i']? = some (nth t.mask (stp t.mask (tupleKeyHash knd k) c) k').j → (fun (i : Nat) => ((es[i]?.map (·.1)).getD 0 : Int)) i' ≠ tupleKeyHash knd k) → ∀ (i : Nat) (p : Addr × List K) (d : Nat), L[i]? = some p → p.2 = k → c ≤ d → d < c + z → t.place.toList[i]? ≠ some (way t.mask (tupleKeyHash knd k) d) := fun z hz i p d hp hpk h1 h2 e => by
      refine hz (d - c) i (by omega) ?_ ?_
      · rw [stp_add, show c + (d - c) = d by omega]
        exact e
      · exact (hashes i p hp).trans (by rw [hpk])
    rw [setSearchFrom_succ]
    refine wpAny_bind (wpAny_setState_of ho hd R.fits ?_)
    dsimp only
    refine wp_if_neg gw ?_
    try refine wpAny_bind (wpAny_pure ?_)
    rw [hst]
    rcases spec with ⟨q, i, hq, hi, -, hno, hpr⟩ | ⟨hno, hpr⟩
    · rw [stp_add] at hi
      have hpr : t.probe (fun i => (es[i]?.map (·.1)).getD 0) (tupleKeyHash knd k) (stp t.mask (tupleKeyHash knd k) c) = some (.candidate (way t.mask (tupleKeyHash knd k) (c + q)) i (stp t.mask (tupleKeyHash knd k) (c + (q + 1)))) := by
        rw [stp_add, stp_add] at hpr
        exact hpr
      rw [hpr]
      dsimp only
      obtain ⟨p, hp, hpm⟩ := R.spot hi
      have go : wpAny (model P w) A (searchRest a (.ref x) (tupleKeyHash knd k) true fuel es t (way t.mask (tupleKeyHash knd k) (c + q)) i (stp t.mask (tupleKeyHash knd k) (c + (q + 1)))) R2 E s := by
        unfold searchRest
        rw [ent_at R.ent hp]
        dsimp only
        refine wpAny_bind (wpAny_holding (wpAny_eqBool_tuple hu (R.key p hpm) hx ?_))
        refine wpAny_bind (wpAny_setState_of ho hd R.fits ?_)
        dsimp only
        by_cases same : p.2 = k
        · exact wp_if_pos (by simp [same]) (wpAny_pure (yes (List.mem_map.mpr ⟨p, hpm, same⟩)))
        · refine wp_if_neg (by simp [same]) ?_
          try refine wpAny_bind (wpAny_pure ?_)
          rw [sameMem]
          dsimp only
          have live : t.slot (way t.mask (tupleKeyHash knd k) (c + q)) = .live i := slot_live R.lay.ris hi
          simp only [if_true, live, ent_at R.ent hp]
          refine wpAny_bind (wpAny_isSame_ref_self (wpAny_bind (wpAny_pure ?_)))
          simp only [if_true]
          refine wp_if_neg (by simp [same]) ?_
          refine ih (c + (q + 1)) _ rfl (by omega) (by omega) fun i0 p0 h0 hk0 => ?_
          obtain ⟨d, d1, d2, d3⟩ := hre i0 p0 h0 hk0
          have n1 : ¬ d < c + q := fun z => past q hno i0 p0 d h0 hk0 d1 z d3
          have n2 : d ≠ c + q := fun z => by
            have l0 := slot_live R.lay.ris d3
            rw [z, live] at l0
            injection l0 with l0
            rw [← l0, hp] at h0
            exact same (Option.some.inj h0 ▸ hk0)
          exact ⟨d, by omega, d2, d3⟩
      by_cases hl : t.led = true
      · refine wp_if_neg (by simp [hl]) ?_
        try refine wpAny_bind (wpAny_pure ?_)
        exact go
      · refine wp_if_pos (by simp [hl]) ?_
        refine wpAny_bind (unseen T hx (fun y hy => ?_) ?_)
        · obtain ⟨e, he, rfl⟩ := List.mem_map.mp hy
          have he : e ∈ es.toList := by
            have : e ∈ es ∧ e.1 = tupleKeyHash knd k := by simpa using he
            simpa using this.1
          rw [R.ent] at he
          obtain ⟨p2, hp2, rfl⟩ := List.mem_map.mp he
          exact ⟨p2.1, p2.2, rfl, R.key p2 hp2⟩
        · refine wp_if_neg (by decide) ?_
          try refine wpAny_bind (wpAny_pure ?_)
          exact go
    · have hpr : t.probe (fun i => (es[i]?.map (·.1)).getD 0) (tupleKeyHash knd k) (stp t.mask (tupleKeyHash knd k) c) = some (.empty (way t.mask (tupleKeyHash knd k) F) none) := by
        rw [stp_add, show c + (F - c) = F by omega] at hpr
        exact hpr
      rw [hpr]
      dsimp only
      refine wpAny_pure (no fun hm => ?_)
      obtain ⟨p0, h0, hk0⟩ := List.mem_map.mp hm
      obtain ⟨i0, hi0, e0⟩ := List.getElem_of_mem h0
      have h00 : L[i0]? = some p0 := by rw [List.getElem?_eq_getElem hi0, e0]
      obtain ⟨d, d1, d2, d3⟩ := hre i0 p0 h00 hk0
      exact past (F - c) hno i0 p0 d h00 hk0 d1 (by omega) d3
theorem Of.search (R : Of P w knd s.heap a L es ep t) (T : Plain knd) {x : Addr} {k : List K} (hx : IsTupleKey knd s.heap k x) (hu : A.units < cLine) {R2 : SetFound → Shared → Prop}
    (yes : k ∈ L.map Prod.snd → R2 (.there none) s)
    (no : ∀ F, k ∉ L.map Prod.snd → way t.mask (tupleKeyHash knd k) F ∉ t.place.toList → (∀ c, c < F → way t.mask (tupleKeyHash knd k) c ∈ t.place.toList) → R2 (.free (way t.mask (tupleKeyHash knd k) F) false) s) :
    wpAny (model P w) A (setSearch a (.ref x) (tupleKeyHash knd k) true) R2 E s := by
  have hsp := R.spare
  obtain ⟨F, f1, f2, f3⟩ := R.lay.first (by rw [List.length_map]; omega) (tupleKeyHash knd k)
  have hbig : 10 * SetTable.turns t.mask ≤ 1420 := by
    unfold SetTable.turns
    rcases R.lay.mok with e | e | e <;> omega
  unfold setSearch
  refine R.seek T hx hu f1 f2 f3 yes (fun hn => no F hn f2 f3) 100000 0 none rfl (Nat.zero_le _) (by omega) fun i p hp hpk => ?_
  have hh : (L.map fun p => tupleKeyHash knd p.2)[i]? = some (tupleKeyHash knd k) := by rw [List.getElem?_map, hp, ← hpk]; rfl
  have hil : i < t.place.toList.length := by
    rw [Array.length_toList, R.psz, ent_size R.ent]
    exact (List.getElem?_eq_some_iff.mp hp).1
  obtain ⟨d, d1, d2⟩ := R.lay.before f2 hh (List.getElem?_eq_getElem hil)
  exact ⟨d, Nat.zero_le _, d1, by rw [d2]; exact List.getElem?_eq_getElem hil⟩
theorem range_back (L : List (Addr × List K)) : ∀ n, n ≤ L.length → (List.range n).filterMap (fun i => L[i]?) = L.take n
  | 0, _ => rfl
  | n + 1, h => by
    have e : L[n]? = some (L[n]'h) := List.getElem?_eq_getElem h
    rw [List.range_succ, List.filterMap_append, range_back L n (Nat.le_of_succ_le h), List.take_add_one, e]
    congr 1
    simp [e]
theorem moved (h : es.toList = L.map fun p => (tupleKeyHash knd p.2, Value.ref p.1)) {order : Array Nat} (hp : order.toList.Perm (List.range L.length)) : ∃ L2 : List (Addr × List K), (order.filterMap (es[·]?)).toList = (L2.map fun p => (tupleKeyHash knd p.2, Value.ref p.1)) ∧ L2.Perm L ∧
    (order.toList.map fun i => (es.map (·.1)).getD i 0) = L2.map fun p => tupleKeyHash knd p.2 := by
  have at' : ∀ i : Nat, es[i]? = (L[i]?).map fun (p : Addr × List K) => (tupleKeyHash knd p.2, Value.ref p.1) := fun i => by rw [← Array.getElem?_toList, h, List.getElem?_map]
  refine ⟨order.toList.filterMap fun i => L[i]?, ?_, ?_, ?_⟩
  · rw [Array.toList_filterMap, List.map_filterMap]
    congr 1
    funext i
    exact at' i
  · have := hp.filterMap fun i => L[i]?
    rw [range_back L L.length (Nat.le_refl _), List.take_length] at this
    exact this
  · have below : ∀ i ∈ order.toList, i < L.length := fun i hi => List.mem_range.mp (hp.mem_iff.mp hi)
    clear hp
    generalize order.toList = l at below
    induction l with
    | nil => rfl
    | cons i l ih =>
      have hi := below i (List.mem_cons_self ..)
      have e := List.getElem?_eq_getElem hi
      rw [List.map_cons, List.filterMap_cons, e, ih fun j hj => below j (List.mem_cons_of_mem _ hj)]
      dsimp only
      rw [List.map_cons]
      congr 1
      rw [Array.getD_eq_getD_getElem?, Array.getElem?_map, at', e]
      rfl
theorem key_on {h h' : Heap} {ks : List K} {a b : Addr} {o : Obj} (hb : IsTupleKey knd h ks b) (ho : h.get? a = some o) (hd : o.data = .set es ep t) (hs : Heap.SameBut a h h') : IsTupleKey knd h' ks b := by
  obtain ⟨o2, its, m, h1, h2, h3, h4⟩ := hb
  refine ⟨o2, its, m, (hs.2 b fun e => ?_).trans h1, h2, h3, h4⟩
  rw [e, ho] at h1
  cases Option.some.inj h1
  rw [hd] at h3
  cases h3
structure Near (P : Program) (w : World) (knd : KeyKind P w K) (h : Heap) (a : Addr) (L : List (Addr × List K)) (es : Array (Int × Value)) (ep : Nat) (t : SetTable) : Prop where
  obj : ∃ o, h.get? a = some o ∧ o.ExactSet ∧ o.data = .set es ep t
  ent : es.toList = L.map fun p => (tupleKeyHash knd p.2, Value.ref p.1)
  lay : TabOk t (L.map fun p => tupleKeyHash knd p.2)
  dif : (L.map Prod.snd).Nodup
  key : ∀ p ∈ L, IsTupleKey knd h p.2 p.1
  led : w.params.followText "set-order" = true ∨ t.led = true
  small : L.length ≤ 76
  in_ : L.length ≤ t.mask
theorem Near.relay (R : Near P w knd s.heap a L es ep t) {wanted M : Nat} (hw : SetTable.sizeAbove wanted - 1 = M) (hM : MaskOk M) (hn : L.length * 5 < M * 3) {R2 : Unit → Shared → Prop}
    (hR : ∀ h' L' es' ep' t', Heap.SameBut a s.heap h' → Of P w knd h' a L' es' ep' t' → L'.Perm L → R2 () { s with heap := h' }) : wpAny (model P w) A (setRelay a wanted) R2 E s := by
  obtain ⟨o, ho, hex, hd⟩ := R.obj
  have n1 := ent_size R.ent
  have n2 := R.small
  have n3 : t.place.size = es.size := by rw [R.lay.sz, List.length_map, n1]
  have hM2 : M ≤ 127 := by rcases hM with e | e | e <;> omega
  obtain ⟨t', order, e1, e2, T, e3, e4, -, -⟩ := relaid_ok t (hs := es.map (·.1)) (wanted := wanted) hw hM (by rw [Array.size_map, n1]; omega)
  rw [Array.size_map, n1] at e2
  obtain ⟨L2, m1, m2, m3⟩ := moved R.ent e2
  rw [m3] at T
  have n4 : (order.filterMap (es[·]?)).size = es.size := by rw [ent_size m1, m2.length_eq, n1]
  rw [setRelay_eq]
  refine wpAny_bind (wpAny_setState_of ho hd (fits_of n3 R.lay.dm (by rw [n1]; exact R.in_)) ?_)
  dsimp only
  refine wp_if_neg (by rw [sizeLine_eq]; omega) ?_
  try refine wpAny_bind (wpAny_pure ?_)
  rw [e1]
  refine wpAny_bind ?_
  refine wp_if_neg (by rw [n4]; simp) ?_
  try refine wpAny_bind (wpAny_pure ?_)
  refine wpAny_pure ?_
  refine wpAny_storeSet_of ho hd ?_ (by rw [n4, n1, sizeLine_eq]; omega)
  have sb : Heap.SameBut a s.heap (s.heap.update a (Obj.putSet (order.filterMap (es[·]?)) t')) := Heap.SameBut.update ..
  exact hR _ L2 _ (ep + 1) t' sb ⟨⟨_, store_at ho hd, ⟨hex.1, hex.2.1, hex.2.2⟩, rfl⟩, m1, T, (m2.map Prod.snd).nodup_iff.mpr R.dif, fun p hp => key_on (R.key p (m2.mem_iff.mp hp)) ho hd sb, by rw [m2.length_eq, e3]; exact hn, by rw [e4]; exact R.led, by rw [m2.length_eq]; exact n2⟩ m2
theorem Of.add (R : Of P w knd s.heap a L es ep t) (T : Plain knd) {x : Addr} {k : List K} (hx : IsTupleKey knd s.heap k x) (hu : A.units < cLine) (hs : L.length < 76) {R2 : Bool → Shared → Prop}
    (hR : ∀ b h' L' es' ep' t', Heap.SameBut a s.heap h' → Of P w knd h' a L' es' ep' t' → (k ∈ L.map Prod.snd ∧ L' = L ∨ k ∉ L.map Prod.snd ∧ L'.Perm ((x, k) :: L)) → R2 b { s with heap := h' }) :
    wpAny (model P w) A (setAddHashed a (.ref x) (tupleKeyHash knd k)) R2 E s := by
  obtain ⟨o, ho, hex, hd⟩ := R.obj
  have hsp := R.spare
  have n1 := ent_size R.ent
  unfold setAddHashed
  refine wpAny_holding ?_
  rw [show (100000 : Nat) = 99999 + 1 from rfl, setAddHashedIn_succ]
  refine wpAny_bind (wpAny_setState_of ho hd R.fits ?_)
  dsimp only
  refine wp_if_neg (by simp [byScan, Value.scannable]) ?_
  try refine wpAny_bind (wpAny_pure ?_)
  refine wpAny_bind (R.search T hx hu (fun hm => ?_) fun F hm free busy => ?_)
  · exact wpAny_pure (hR false s.heap L es ep t (Heap.SameBut.refl a s.heap) R (.inl ⟨hm, rfl⟩))
  dsimp only
  refine wpAny_bind (wpAny_setState_of ho hd R.fits ?_)
  dsimp only
  obtain ⟨q1, q2, q3, q4, q5, -, -, -, q9⟩ := R.lay.put free busy
  generalize hpt : t.put (way t.mask (tupleKeyHash knd k) F) = pt at q1 q3 q4 q5 q9 ⊢
  obtain ⟨t1, at1⟩ := pt
  dsimp only at q1 q3 q4 q5 q9 ⊢
  subst q1
  generalize SetTable.below t.place (way t.mask (tupleKeyHash knd k) F) = p at q2 q3 ⊢
  have pm : (L.take p ++ (x, k) :: L.drop p).Perm ((x, k) :: L) := put_perm L p (x, k)
  have hin : (SetTable.insertAt es p (tupleKeyHash knd k, Value.ref x)).toList = (L.take p ++ (x, k) :: L.drop p).map fun p => (tupleKeyHash knd p.2, Value.ref p.1) := by
    rw [SetTable.toList_insertAt, R.ent, List.map_append, List.map_cons, List.map_take, List.map_drop]
  have lay1 : TabOk t1 ((L.take p ++ (x, k) :: L.drop p).map fun p => tupleKeyHash knd p.2) := by
    rw [List.map_append, List.map_cons, List.map_take, List.map_drop]
    exact q3
  have hlen : (L.take p ++ (x, k) :: L.drop p).length = L.length + 1 := pm.length_eq
  have dif1 : ((L.take p ++ (x, k) :: L.drop p).map Prod.snd).Nodup := (pm.map Prod.snd).nodup_iff.mpr (List.nodup_cons.mpr ⟨hm, R.dif⟩)
  generalize L.take p ++ (x, k) :: L.drop p = L1 at pm hin lay1 hlen dif1
  have hes := ent_size hin
  generalize SetTable.insertAt es p (tupleKeyHash knd k, Value.ref x) = es1 at hin hes ⊢
  rw [List.length_map] at q9
  -- whatever is known of the hash
  have rest : ∀ t2 : SetTable, t2.place = t1.place → t2.dummies = t1.dummies → t2.mask = t1.mask → t2.led = t1.led → t2.fill = t1.fill → t2.tooFull = t1.tooFull →
      wpAny (model P w) A (do
        storeSet a es1 t2
        if !false && t2.tooFull then setRelay a (SetTable.grown (es.size + 1))
        return true) R2 E s := fun t2 p1 p2 p3 p4 p5 p6 => by
    have lay2 : TabOk t2 (L1.map fun p => tupleKeyHash knd p.2) := by
      obtain ⟨r1, r2, r3, r4, r5, r6⟩ := lay1
      exact ⟨by rw [p1]; exact r1, by rw [p2]; exact r2, by rw [p1]; exact r3, by rw [p3]; exact r4, by rw [p1, p3]; exact r5, by rw [p1, p3]; exact r6⟩
    refine wpAny_bind (wpAny_storeSet_of ho hd ?_ (by rw [hes, hlen, sizeLine_eq]; omega))
    have sb : Heap.SameBut a s.heap (s.heap.update a (Obj.putSet es1 t2)) := Heap.SameBut.update ..
    have ho1 := store_at (es' := es1) (t' := t2) ho hd
    generalize s.heap.update a (Obj.putSet es1 t2) = h1 at sb ho1 ⊢
    have key1 : ∀ p ∈ L1, IsTupleKey knd h1 p.2 p.1 := fun p hp => (List.mem_cons.mp (pm.mem_iff.mp hp)).elim (fun e => by rw [e]; exact key_on hx ho hd sb) fun hp => key_on (R.key p hp) ho hd sb
    have led1 : w.params.followText "set-order" = true ∨ t2.led = true := by rw [p4, q5]; exact R.led
    have full : t2.tooFull = decide ((L.length + 1) * 5 ≥ t2.mask * 3) := by unfold SetTable.tooFull; rw [p5, q9]
    have mk := R.lay.mok
    by_cases hf : (L.length + 1) * 5 ≥ t2.mask * 3
    · have yes : (!false && t2.tooFull) = true := by rw [full, decide_eq_true hf]; rfl
      first
        | (refine wp_if_pos yes ?_; refine wpAny_bind ?_)
        | (refine wpAny_bind ?_; refine wp_if_pos yes ?_)
      rw [n1]
      have two : (t.mask = 7 ∧ L.length = 4) ∨ (t.mask = 31 ∧ L.length = 18) := by
        rw [p3, q4] at hf
        rcases mk with e | e | e <;> rw [e] at hf hsp <;> omega
      have N : Near P w knd h1 a L1 es1 (ep + 1) t2 := ⟨⟨_, ho1, ⟨hex.1, hex.2.1, hex.2.2⟩, rfl⟩, hin, lay2, dif1, key1, led1, by omega, by rw [hlen, p3, q4]; omega⟩
      have go : ∀ M, SetTable.sizeAbove (SetTable.grown (L.length + 1)) - 1 = M → MaskOk M → (L.length + 1) * 5 < M * 3 →
          wpAny (model P w) A (setRelay a (SetTable.grown (L.length + 1))) (fun _ s' => wpAny (model P w) A (pure true) R2 E s') E { s with heap := h1 } := fun M g1 g2 g3 =>
        Near.relay (s := { s with heap := h1 }) N g1 g2 (by rw [hlen]; exact g3) fun h2 L2 es2 ep2 t3 sb2 R3 pm2 => wpAny_pure (hR true h2 L2 es2 ep2 t3 (sb.trans sb2) R3 (.inr ⟨hm, pm2.trans pm⟩))
      rcases two with ⟨_, e⟩ | ⟨_, e⟩
      · exact go 31 (by rw [e, size_20]) (.inr (.inl rfl)) (by omega)
      · exact go 127 (by rw [e, size_76]) (.inr (.inr rfl)) (by omega)
    · have noo : ¬ (!false && t2.tooFull) = true := by rw [full, decide_eq_false hf]; decide
      first
        | refine wp_if_neg noo ?_
        | (refine wpAny_bind ?_; refine wp_if_neg noo ?_; refine wpAny_pure ?_)
      exact wpAny_pure (hR true h1 L1 es1 (ep + 1) t2 sb ⟨⟨_, ho1, ⟨hex.1, hex.2.1, hex.2.2⟩, rfl⟩, hin, lay2, dif1, key1, by rw [hlen]; omega, led1, by omega⟩ (.inr ⟨hm, pm⟩))
  rcases Bool.eq_false_or_eq_true t1.plain with hp1 | hp1
  · first
      | (refine wp_if_pos hp1 (wpAny_bind (by_value T hx fun f => ?_)))
      | (refine wpAny_bind ?_; refine wp_if_pos hp1 ?_; refine by_value T hx fun f => ?_)
    cases f with
    | true => exact rest t1 rfl rfl rfl rfl rfl rfl
    | false => exact rest { t1 with plain := false } rfl rfl rfl rfl rfl rfl
  · first
      | (refine wp_if_neg (by rw [hp1]; exact Bool.false_ne_true) ?_)
      | (refine wpAny_bind ?_; refine wp_if_neg (by rw [hp1]; exact Bool.false_ne_true) ?_; refine wpAny_pure ?_)
    refine wpAny_bind (wpAny_pure ?_)
    exact rest t1 rfl rfl rfl rfl rfl rfl
end
def bare (w : World) : Obj := { cls := .type "set", dict := none, data := .set #[] 0 (.fresh 0 0 (!w.params.followText "set-order")) }
theorem Of.bare {h : Heap} {a : Addr} (ho : h.get? a = some (bare w)) : Of P w knd h a [] #[] 0 (.fresh 0 0 (!w.params.followText "set-order")) :=
  ⟨⟨_, ho, ⟨rfl, rfl, rfl⟩, rfl⟩, rfl, ⟨List.Pairwise.nil, rfl, rfl, .inl rfl, fun x hx => absurd hx (List.not_mem_nil), fun i h j hi => by simp at hi⟩, List.nodup_nil, fun p hp => absurd hp (List.not_mem_nil), by show 0 * 5 < 7 * 3; decide,
    by show _ ∨ (!w.params.followText "set-order") = true; cases w.params.followText "set-order" <;> simp, by show 0 ≤ 76; decide⟩
structure Upto (ks : List (Addr × List K)) (i : Nat) (L : List (Addr × List K)) : Prop where
  sub : ∀ p ∈ L, p ∈ ks.take i
  all : ∀ p ∈ ks.take i, p.2 ∈ L.map Prod.snd
  len : L.length ≤ i
theorem Upto.next {ks L L' : List (Addr × List K)} {i : Nat} {p : Addr × List K} (U : Upto ks i L) (h : ks[i]? = some p) (c : p.2 ∈ L.map Prod.snd ∧ L' = L ∨ p.2 ∉ L.map Prod.snd ∧ L'.Perm (p :: L)) : Upto ks (i + 1) L' := by
  have e : ks.take (i + 1) = ks.take i ++ [p] := by rw [List.take_add_one, h]; rfl
  rcases c with ⟨hm, rfl⟩ | ⟨-, pm⟩
  · refine ⟨fun q hq => by rw [e]; exact List.mem_append_left _ (U.sub q hq), fun q hq => ?_, Nat.le_succ_of_le U.len⟩
    rw [e] at hq
    exact (List.mem_append.mp hq).elim (U.all q) fun z => by rw [List.mem_singleton.mp z]; exact hm
  · refine ⟨fun q hq => ?_, fun q hq => ?_, by rw [pm.length_eq]; exact Nat.succ_le_succ U.len⟩
    · rw [e]
      exact (List.mem_cons.mp (pm.mem_iff.mp hq)).elim (fun z => List.mem_append_right _ (by rw [z]; exact List.mem_singleton_self _)) fun z => List.mem_append_left _ (U.sub q z)
    · rw [e] at hq
      rw [(pm.map Prod.snd).mem_iff]
      exact (List.mem_append.mp hq).elim (fun z => List.mem_cons_of_mem _ (U.all q z)) fun z => by rw [List.mem_singleton.mp z]; exact List.mem_cons_self ..
theorem key_kept {h h' : Heap} {ks : List K} {b : Addr} (hb : IsTupleKey knd h ks b) (hk : ∀ c o, h.get? c = some o → h'.get? c = some o) : IsTupleKey knd h' ks b := by
  obtain ⟨o, its, m, h1, r⟩ := hb
  exact ⟨o, its, m, hk b o h1, r⟩
theorem Of.kept {h h' : Heap} {a : Addr} {L : List (Addr × List K)} {es : Array (Int × Value)} {ep : Nat} {t : SetTable} (R : Of P w knd h a L es ep t) (h1 : ∀ o, h.get? a = some o → h'.get? a = some o) (h2 : ∀ p ∈ L, IsTupleKey knd h' p.2 p.1) : Of P w knd h' a L es ep t := by
  obtain ⟨o, ho, r⟩ := R.obj
  exact { R with obj := ⟨o, h1 o ho, r⟩, key := h2 }
theorem fill (T : Plain knd) {I S : Addr} {fp wr : List Addr} {G : Array GenState → Array GenState → Prop} {Pv : Nat → Value → Prop} {St : Nat → Shared → Prop} {Rs : Result → Shared → Prop} {ks : List (Addr × List K)}
    (W : WalksS P w A.in1 I fp wr G ks.length Pv St) (hSf : S ∉ fp) (hfew : ks.length ≤ 76) (hval : ∀ i v, Pv i v → ∃ p, ks[i]? = some p ∧ v = .ref p.1)
    {h0 : Heap} (hk : ∀ p ∈ ks, IsTupleKey knd h0 p.2 p.1) (hS0 : h0.get? S = none) (hw0 : ∀ b ∈ wr, h0.get? b = none) (hu : A.in1.units < cLine) (m : Nat) :
    ∀ (i : Nat) (s : Shared) (L : List (Addr × List K)) (es : Array (Int × Value)) (ep : Nat) (t : SetTable), i + m = ks.length → St i s → (∀ b o, h0.get? b = some o → s.heap.get? b = some o) → Of P w knd s.heap S L es ep t → Upto ks i L →
      (∀ s' L es ep t, Moved (S :: wr) G s s' → Of P w knd s'.heap S L es ep t → Upto ks ks.length L → (∀ b o, h0.get? b = some o → s'.heap.get? b = some o) → Rs (.ok (.ret .none)) s') →
      codeAny (model P w) A (.builtin "set.update.loop" ⟨[.ref S, .ref I], []⟩) Rs s := by
  have apart : S ∉ wr := fun z => hSf (W.sub _ z)
  have wider : ∀ b ∈ wr, b ∈ S :: wr := fun b hb => List.mem_cons_of_mem _ hb
  have still : ∀ {s s' : Shared}, Moved wr G s s' → (∀ b o, h0.get? b = some o → s.heap.get? b = some o) → ∀ b o, h0.get? b = some o → s'.heap.get? b = some o := fun mv k b o e =>
    mv.heap b o (fun z => by rw [hw0 b z] at e; cases e) (k b o e)
  induction m with
  | zero =>
    intro i s L es ep t hi hst hkp R U hR
    have hi : i = ks.length := by omega
    subst hi
    refine codeAny_builtin F.entry_set_update_loop ?_
    rw [Around.under_plainId F.plain_set_update_loop _]
    refine wpAny_bind (m := pyNext (.ref I)) (W.done s _ _ hst fun s' mv => ?_)
    have hkp' := still mv hkp
    exact wpAny_pure (hR s' L es ep t (mv.mono wider) (R.kept (fun o e => mv.heap S o apart e) fun p hp => key_kept (hk p (List.mem_of_mem_take (U.sub p hp))) hkp') U hkp')
  | succ m ih =>
    intro i s L es ep t hi hst hkp R U hR
    refine codeAny_builtin F.entry_set_update_loop ?_
    rw [Around.under_plainId F.plain_set_update_loop _]
    refine wpAny_bind (m := pyNext (.ref I)) (W.item i s _ _ (by omega) hst fun v s' hv hst' mv => ?_)
    obtain ⟨p, hp, rfl⟩ := hval i v hv
    have hkp' := still mv hkp
    have hx : IsTupleKey knd s'.heap p.2 p.1 := key_kept (hk p (List.mem_of_getElem? hp)) hkp'
    have R' : Of P w knd s'.heap S L es ep t := R.kept (fun o e => mv.heap S o apart e) fun q hq => key_kept (hk q (List.mem_of_mem_take (U.sub q hq))) hkp'
    refine wpAny_bind (m := holding [Value.ref p.1] (setAdd S (.ref p.1))) (wpAny_holding ?_)
    unfold setAdd
    refine wpAny_holding (wpAny_bind (wpAny_pyHash_tuple hu hx ?_))
    refine Of.add (s := { s' with toks := s'.toks + (p.2.length + 1) }) R' T hx hu (by have := U.len; omega) fun b h' L' es' ep' t' sb R2 c => ?_
    have kp2 : ∀ b o, h0.get? b = some o → h'.get? b = some o := fun b o e => (sb.2 b fun z => by rw [z, hS0] at e; cases e).trans (hkp' b o e)
    refine wpAny_pure ⟨plainId_quiet F.plain_set_update_loop _, ih (i + 1) _ L' es' ep' t' (by omega) (W.frame _ s' _ _ hst' (Nat.le_add_right _ _) fun b hb o e => ?_) kp2 R2 (U.next hp c) fun s2 L2 es2 ep2 t2 mv2 R3 U3 kp3 => ?_⟩
    · rw [sb.2 b fun z => hSf (z ▸ hb)]
      exact e
    · refine hR s2 L2 es2 ep2 t2 (Moved.trans W.gtrans ((mv.mono wider).then_heap (Nat.le_add_right _ _) fun b o hb e => ?_) mv2) R3 U3 kp3
      rw [sb.2 b fun z => hb (by rw [z]; exact List.mem_cons_self ..)]
      exact e
theorem Upto.count {ks L : List (Addr × List K)} (U : Upto ks ks.length L) (hd : (L.map Prod.snd).Nodup) : L.length ≤ ks.length ∧ (L.length = ks.length ↔ (ks.map Prod.snd).Nodup) := by
  have sub : ∀ x ∈ L.map Prod.snd, x ∈ ks.map Prod.snd := fun x hx => by
    obtain ⟨p, hp, rfl⟩ := List.mem_map.mp hx
    exact List.mem_map.mpr ⟨p, List.mem_of_mem_take (U.sub p hp), rfl⟩
  have all : ∀ x ∈ ks.map Prod.snd, x ∈ L.map Prod.snd := fun x hx => by
    obtain ⟨p, hp, rfl⟩ := List.mem_map.mp hx
    exact U.all p (by rw [List.take_length]; exact hp)
  have grow : ∀ (xs ys : List (List K)), xs.Nodup → (∀ x ∈ xs, x ∈ ys) → xs.length ≤ ys.length := by
    intro xs
    induction xs with
    | nil => exact fun _ _ _ => Nat.zero_le _
    | cons x xs ih =>
      intro ys hn hs
      obtain ⟨n1, n2⟩ := List.nodup_cons.mp hn
      have h1 := hs x (List.mem_cons_self ..)
      have h2 := ih (ys.erase x) n2 fun y hy => (List.mem_erase_of_ne fun e => n1 (by rw [← e]; exact hy)).mpr (hs y (List.mem_cons_of_mem _ hy))
      rw [List.length_erase_of_mem h1] at h2
      have := List.length_pos_of_mem h1
      rw [List.length_cons]
      omega
  refine ⟨U.len, fun e => ?_, fun hn => ?_⟩
  · -- a second time would make it shorter
    have short : ∀ ys : List (List K), ¬ ys.Nodup → ∃ zs : List (List K), zs.length < ys.length ∧ ∀ x ∈ ys, x ∈ zs := by
      intro ys
      induction ys with
      | nil => exact fun h => absurd List.nodup_nil h
      | cons y ys ih =>
        intro h
        by_cases c : y ∈ ys
        · exact ⟨ys, Nat.lt_succ_self _, fun x hx => (List.mem_cons.mp hx).elim (fun e => e ▸ c) id⟩
        · obtain ⟨zs, z1, z2⟩ := ih fun hn => h (List.nodup_cons.mpr ⟨c, hn⟩)
          exact ⟨y :: zs, Nat.succ_lt_succ z1, fun x hx => (List.mem_cons.mp hx).elim (fun e => e ▸ List.mem_cons_self ..) fun z => List.mem_cons_of_mem _ (z2 x z)⟩
    rcases Classical.em (ks.map Prod.snd).Nodup with c | c
    · exact c
    · obtain ⟨zs, z1, z2⟩ := short _ c
      have := grow (L.map Prod.snd) zs hd fun x hx => z2 x (sub x hx)
      rw [List.length_map] at this z1
      omega
  · have := grow (ks.map Prod.snd) (L.map Prod.snd) hn all
    rw [List.length_map, List.length_map] at this
    exact Nat.le_antisymm U.len this
end ST
namespace DL
open PySem PySem.Spec L2
variable {X : Cx} {W : WC}
end DL
namespace DL
open PySem PySem.Spec L2
variable {X : Cx} {W : WC}
end DL
namespace SK
open PySem PySem.Spec PyProof.Rows L2
open ST (stp stp_add nth_nd stp_nd fits_of range_back)
variable {P : Program} {w : World} {K : Type} [DecidableEq K] {knd : HeapKind P w K} {A : Around} {E : Value → Shared → Prop} {s : Shared}
structure Plain (knd : HeapKind P w K) : Prop where
  cls : ∀ {A : Around} {E : Value → Shared → Prop} {s : Shared} {k : K} {b : Addr} {R : Bool → Shared → Prop}, knd.is s.heap k b → R false s → wpAny (model P w) A (ofAClassStatement 8 (.ref b)) R E s
  val : ∀ {A : Around} {E : Value → Shared → Prop} {s : Shared} {k : K} {b : Addr} {R : Bool → Shared → Prop}, knd.is s.heap k b → (∀ f, R f s) → wpAny (model P w) A (hashByValue 8 (.ref b)) R E s
  stays : ∀ {h h' : Heap} {k : K} {a : Addr}, (∀ b o vs n, h.get? b = some o → o.data = .seq vs n → h'.get? b = some o) → knd.is h k a → knd.is h' k a
  room : ∀ {A : Around}, A.units + 8 < cLine → knd.room A
theorem by_value (T : Plain knd) {ks : K} {b : Addr} {R : Bool → Shared → Prop} (hk : knd.is s.heap ks b) (hR : ∀ f, R f s) : wpAny (model P w) A (hashByValue 8 (.ref b)) R E s := T.val hk hR
theorem cls_no (T : Plain knd) {ks : K} {b : Addr} {R : Bool → Shared → Prop} (hk : knd.is s.heap ks b) (hR : R false s) : wpAny (model P w) A (ofAClassStatement 8 (.ref b)) R E s := T.cls hk hR
theorem unseen (T : Plain knd) {ks : K} {b : Addr} {R : Bool → Shared → Prop} (hk : knd.is s.heap ks b) {ys : List Value} (hy : ∀ y ∈ ys, ∃ c js, y = Value.ref c ∧ knd.is s.heap js c) (hR : R false s) :
    wpAny (model P w) A (searchCouldBeSeen (.ref b) ys) R E s := by
  unfold searchCouldBeSeen
  refine wpAny_bind ?_
  refine wpAny_forIn_list _ (fun left st s1 => (st.1 = none ∧ s1 = s) ∧ ∀ y ∈ left, ∃ c js, y = Value.ref c ∧ knd.is s.heap js c) _ (fun v left st s1 ⟨⟨e1, e2⟩, hv⟩ => ?_) (fun st s1 ⟨⟨e1, e2⟩, _⟩ => ?_) _ _ ⟨⟨rfl, rfl⟩, hy⟩
  · subst e2
    obtain ⟨c, js, rfl, hc⟩ := hv v (List.mem_cons_self ..)
    have more : ∀ y ∈ left, ∃ c js, y = Value.ref c ∧ knd.is s1.heap js c := fun x hx => hv x (List.mem_cons_of_mem _ hx)
    dsimp only
    rcases Bool.eq_false_or_eq_true (b == c || (carriedByValue (.ref b) && carriedByValue (.ref c))) with hq | hq
    · exact wp_if_pos hq (wpAny_pure ⟨⟨rfl, rfl⟩, more⟩)
    · refine wp_if_neg (by rw [hq]; exact Bool.false_ne_true) ?_
      refine wpAny_bind (knd.quiet hk ?_)
      simp only [Bool.not_true, Bool.false_eq_true, if_false]
      refine wpAny_bind (knd.quiet hc ?_)
      simp only [Bool.not_true, Bool.false_eq_true, if_false]
      refine wpAny_bind (cls_no T hk ?_)
      simp only [Bool.false_eq_true, if_false]
      refine wpAny_bind (cls_no T hc ?_)
      simp only [Bool.false_eq_true, if_false]
      exact wpAny_pure ⟨⟨rfl, rfl⟩, more⟩
  · subst e2
    obtain ⟨st1, st2⟩ := st
    have e1 : st1 = none := e1
    subst e1
    exact wpAny_pure hR
structure Of (P : Program) (w : World) (knd : HeapKind P w K) (h : Heap) (a : Addr) (L : List (Addr × K)) (es : Array (Int × Value)) (ep : Nat) (t : SetTable) : Prop where
  obj : ∃ o, h.get? a = some o ∧ o.ExactSet ∧ o.data = .set es ep t
  ent : es.toList = L.map fun p => (knd.hash p.2, Value.ref p.1)
  lay : TabOk t (L.map fun p => knd.hash p.2)
  dif : (L.map Prod.snd).Nodup
  key : ∀ p ∈ L, knd.is h p.2 p.1
  spare : L.length * 5 < t.mask * 3
  led : w.params.followText "set-order" = true ∨ t.led = true
  small : L.length ≤ 76
section
variable {a : Addr} {L : List (Addr × K)} {es : Array (Int × Value)} {ep : Nat} {t : SetTable}
theorem ent_size (h : es.toList = L.map fun p => (knd.hash p.2, Value.ref p.1)) : es.size = L.length := by
  rw [← Array.length_toList, h, List.length_map]
theorem ent_at (h : es.toList = L.map fun p => (knd.hash p.2, Value.ref p.1)) {i : Nat} {p : Addr × K} (e : L[i]? = some p) : es[i]? = some (knd.hash p.2, Value.ref p.1) := by
  rw [← Array.getElem?_toList, h, List.getElem?_map, e]
  rfl
theorem fits_of (h : t.place.size = es.size) (hd : t.dummies = #[]) (hm : es.size ≤ t.mask) : t.fits es.size = true := by
  unfold SetTable.fits SetTable.fill
  simp only [hd, Bool.and_eq_true, beq_iff_eq, decide_eq_true_eq]
  exact ⟨h, by show t.place.size + 0 ≤ _; omega⟩
theorem Of.psz (R : Of P w knd s.heap a L es ep t) : t.place.size = es.size := by
  rw [R.lay.sz, List.length_map, ent_size R.ent]
theorem Of.fits (R : Of P w knd s.heap a L es ep t) : t.fits es.size = true := fits_of R.psz R.lay.dm (by
  have := R.spare
  rw [ent_size R.ent]
  omega)
theorem Of.spot (R : Of P w knd s.heap a L es ep t) {i j : Nat} (h : t.place.toList[i]? = some j) : ∃ p, L[i]? = some p ∧ p ∈ L := by
  have h1 : i < t.place.toList.length := (List.getElem?_eq_some_iff.mp h).1
  rw [Array.length_toList, R.psz, ent_size R.ent] at h1
  exact ⟨L[i], List.getElem?_eq_getElem h1, List.getElem_mem h1⟩
theorem Of.seek (R : Of P w knd s.heap a L es ep t) (T : Plain knd) {x : Addr} {k : K} (hx : knd.is s.heap k x) (hu : A.units + 8 < cLine) {F : Nat} (hF : F < 10 * SetTable.turns t.mask)
    (free : way t.mask (knd.hash k) F ∉ t.place.toList) (busy : ∀ c, c < F → way t.mask (knd.hash k) c ∈ t.place.toList) {R2 : SetFound → Shared → Prop}
    (yes : k ∈ L.map Prod.snd → R2 (.there none) s) (no : k ∉ L.map Prod.snd → R2 (.free (way t.mask (knd.hash k) F) false) s) (fuel : Nat) :
    ∀ (c : Nat) (st : Option SetTable.Probe), st.getD (t.probeStart (knd.hash k)) = stp t.mask (knd.hash k) c → c ≤ F → F < fuel + c →
      (∀ (i : Nat) p, L[i]? = some p → p.2 = k → ∃ d, c ≤ d ∧ d < F ∧ t.place.toList[i]? = some (way t.mask (knd.hash k) d)) →
      wpAny (model P w) A (setSearchFrom a (.ref x) (knd.hash k) true fuel st) R2 E s := by
  induction fuel with
  | zero => exact fun c st _ h1 h2 _ => absurd h2 (by omega)
  | succ fuel ih =>
    intro c st hst hc hf hre
    obtain ⟨o, ho, -, hd⟩ := R.obj
    have gw : ¬ t.gaveWay = true := by
      unfold SetTable.gaveWay
      rw [mask_odd R.lay.mok]
      decide
    have hashes : ∀ (i : Nat) p, L[i]? = some p → ((es[i]?.map (·.1)).getD 0 : Int) = knd.hash p.2 := fun i p hp => by rw [ent_at R.ent hp]; rfl
    have spec := go_spec t R.lay.ris R.lay.dm (fun i => (es[i]?.map (·.1)).getD 0) (knd.hash k) (10 * SetTable.turns t.mask) (F - c) (stp t.mask (knd.hash k) c) stp_nd (by omega)
      (fun q hq => by rw [stp_add]; exact busy (c + q) (by omega)) (by rw [stp_add, show c + (F - c) = F by omega]; exact free)
    -- what is passed over isn't the tuple
    have past : ∀ (z : Nat), (∀ (k' i' : Nat), k' < z → t.place.toList[i']? = some (nth t.mask (stp t.mask (knd.hash k) c) k').j → (fun (i : Nat) => ((es[i]?.map (·.1)).getD 0 : Int)) i' ≠ knd.hash k) → ∀ (i : Nat) (p : Addr × K) (d : Nat), L[i]? = some p → p.2 = k → c ≤ d → d < c + z → t.place.toList[i]? ≠ some (way t.mask (knd.hash k) d) := fun z hz i p d hp hpk h1 h2 e => by
      refine hz (d - c) i (by omega) ?_ ?_
      · rw [stp_add, show c + (d - c) = d by omega]
        exact e
      · exact (hashes i p hp).trans (by rw [hpk])
    rw [setSearchFrom_succ]
    refine wpAny_bind (wpAny_setState_of ho hd R.fits ?_)
    dsimp only
    refine wp_if_neg gw ?_
    try refine wpAny_bind (wpAny_pure ?_)
    rw [hst]
    rcases spec with ⟨q, i, hq, hi, -, hno, hpr⟩ | ⟨hno, hpr⟩
    · rw [stp_add] at hi
      have hpr : t.probe (fun i => (es[i]?.map (·.1)).getD 0) (knd.hash k) (stp t.mask (knd.hash k) c) = some (.candidate (way t.mask (knd.hash k) (c + q)) i (stp t.mask (knd.hash k) (c + (q + 1)))) := by
        rw [stp_add, stp_add] at hpr
        exact hpr
      rw [hpr]
      dsimp only
      obtain ⟨p, hp, hpm⟩ := R.spot hi
      have go : wpAny (model P w) A (searchRest a (.ref x) (knd.hash k) true fuel es t (way t.mask (knd.hash k) (c + q)) i (stp t.mask (knd.hash k) (c + (q + 1)))) R2 E s := by
        unfold searchRest
        rw [ent_at R.ent hp]
        dsimp only
        refine wpAny_bind (wpAny_holding (knd.eqBool (T.room hu) (R.key p hpm) hx ?_))
        refine wpAny_bind (wpAny_setState_of ho hd R.fits ?_)
        dsimp only
        by_cases same : p.2 = k
        · exact wp_if_pos (by simp [same]) (wpAny_pure (yes (List.mem_map.mpr ⟨p, hpm, same⟩)))
        · refine wp_if_neg (by simp [same]) ?_
          try refine wpAny_bind (wpAny_pure ?_)
          rw [sameMem]
          dsimp only
          have live : t.slot (way t.mask (knd.hash k) (c + q)) = .live i := slot_live R.lay.ris hi
          simp only [if_true, live, ent_at R.ent hp]
          refine wpAny_bind (wpAny_isSame_ref_self (wpAny_bind (wpAny_pure ?_)))
          simp only [if_true]
          refine wp_if_neg (by simp [same]) ?_
          refine ih (c + (q + 1)) _ rfl (by omega) (by omega) fun i0 p0 h0 hk0 => ?_
          obtain ⟨d, d1, d2, d3⟩ := hre i0 p0 h0 hk0
          have n1 : ¬ d < c + q := fun z => past q hno i0 p0 d h0 hk0 d1 z d3
          have n2 : d ≠ c + q := fun z => by
            have l0 := slot_live R.lay.ris d3
            rw [z, live] at l0
            injection l0 with l0
            rw [← l0, hp] at h0
            exact same (Option.some.inj h0 ▸ hk0)
          exact ⟨d, by omega, d2, d3⟩
      by_cases hl : t.led = true
      · refine wp_if_neg (by simp [hl]) ?_
        try refine wpAny_bind (wpAny_pure ?_)
        exact go
      · refine wp_if_pos (by simp [hl]) ?_
        refine wpAny_bind (unseen T hx (fun y hy => ?_) ?_)
        · obtain ⟨e, he, rfl⟩ := List.mem_map.mp hy
          have he : e ∈ es.toList := by
            have : e ∈ es ∧ e.1 = knd.hash k := by simpa using he
            simpa using this.1
          rw [R.ent] at he
          obtain ⟨p2, hp2, rfl⟩ := List.mem_map.mp he
          exact ⟨p2.1, p2.2, rfl, R.key p2 hp2⟩
        · refine wp_if_neg (by decide) ?_
          try refine wpAny_bind (wpAny_pure ?_)
          exact go
    · have hpr : t.probe (fun i => (es[i]?.map (·.1)).getD 0) (knd.hash k) (stp t.mask (knd.hash k) c) = some (.empty (way t.mask (knd.hash k) F) none) := by
        rw [stp_add, show c + (F - c) = F by omega] at hpr
        exact hpr
      rw [hpr]
      dsimp only
      refine wpAny_pure (no fun hm => ?_)
      obtain ⟨p0, h0, hk0⟩ := List.mem_map.mp hm
      obtain ⟨i0, hi0, e0⟩ := List.getElem_of_mem h0
      have h00 : L[i0]? = some p0 := by rw [List.getElem?_eq_getElem hi0, e0]
      obtain ⟨d, d1, d2, d3⟩ := hre i0 p0 h00 hk0
      exact past (F - c) hno i0 p0 d h00 hk0 d1 (by omega) d3
theorem Of.search (R : Of P w knd s.heap a L es ep t) (T : Plain knd) {x : Addr} {k : K} (hx : knd.is s.heap k x) (hu : A.units + 8 < cLine) {R2 : SetFound → Shared → Prop}
    (yes : k ∈ L.map Prod.snd → R2 (.there none) s)
    (no : ∀ F, k ∉ L.map Prod.snd → way t.mask (knd.hash k) F ∉ t.place.toList → (∀ c, c < F → way t.mask (knd.hash k) c ∈ t.place.toList) → R2 (.free (way t.mask (knd.hash k) F) false) s) :
    wpAny (model P w) A (setSearch a (.ref x) (knd.hash k) true) R2 E s := by
  have hsp := R.spare
  obtain ⟨F, f1, f2, f3⟩ := R.lay.first (by rw [List.length_map]; omega) (knd.hash k)
  have hbig : 10 * SetTable.turns t.mask ≤ 1420 := by
    unfold SetTable.turns
    rcases R.lay.mok with e | e | e <;> omega
  unfold setSearch
  refine R.seek T hx hu f1 f2 f3 yes (fun hn => no F hn f2 f3) 100000 0 none rfl (Nat.zero_le _) (by omega) fun i p hp hpk => ?_
  have hh : (L.map fun p => knd.hash p.2)[i]? = some (knd.hash k) := by rw [List.getElem?_map, hp, ← hpk]; rfl
  have hil : i < t.place.toList.length := by
    rw [Array.length_toList, R.psz, ent_size R.ent]
    exact (List.getElem?_eq_some_iff.mp hp).1
  obtain ⟨d, d1, d2⟩ := R.lay.before f2 hh (List.getElem?_eq_getElem hil)
  exact ⟨d, Nat.zero_le _, d1, by rw [d2]; exact List.getElem?_eq_getElem hil⟩
theorem range_back (L : List (Addr × K)) : ∀ n, n ≤ L.length → (List.range n).filterMap (fun i => L[i]?) = L.take n
  | 0, _ => rfl
  | n + 1, h => by
    have e : L[n]? = some (L[n]'h) := List.getElem?_eq_getElem h
    rw [List.range_succ, List.filterMap_append, range_back L n (Nat.le_of_succ_le h), List.take_add_one, e]
    congr 1
    simp [e]
theorem moved (h : es.toList = L.map fun p => (knd.hash p.2, Value.ref p.1)) {order : Array Nat} (hp : order.toList.Perm (List.range L.length)) : ∃ L2 : List (Addr × K), (order.filterMap (es[·]?)).toList = (L2.map fun p => (knd.hash p.2, Value.ref p.1)) ∧ L2.Perm L ∧
    (order.toList.map fun i => (es.map (·.1)).getD i 0) = L2.map fun p => knd.hash p.2 := by
  have at' : ∀ i : Nat, es[i]? = (L[i]?).map fun (p : Addr × K) => (knd.hash p.2, Value.ref p.1) := fun i => by rw [← Array.getElem?_toList, h, List.getElem?_map]
  refine ⟨order.toList.filterMap fun i => L[i]?, ?_, ?_, ?_⟩
  · rw [Array.toList_filterMap, List.map_filterMap]
    congr 1
    funext i
    exact at' i
  · have := hp.filterMap fun i => L[i]?
    rw [range_back L L.length (Nat.le_refl _), List.take_length] at this
    exact this
  · have below : ∀ i ∈ order.toList, i < L.length := fun i hi => List.mem_range.mp (hp.mem_iff.mp hi)
    clear hp
    generalize order.toList = l at below
    induction l with
    | nil => rfl
    | cons i l ih =>
      have hi := below i (List.mem_cons_self ..)
      have e := List.getElem?_eq_getElem hi
      rw [List.map_cons, List.filterMap_cons, e, ih fun j hj => below j (List.mem_cons_of_mem _ hj)]
      dsimp only
      rw [List.map_cons]
      congr 1
      rw [Array.getD_eq_getD_getElem?, Array.getElem?_map, at', e]
      rfl
theorem key_on (T : Plain knd) {h h' : Heap} {ks : K} {a b : Addr} {o : Obj} (hb : knd.is h ks b) (ho : h.get? a = some o) (hd : o.data = .set es ep t) (hs : Heap.SameBut a h h') : knd.is h' ks b :=
  T.stays (fun c u vs n e hc => (hs.2 c fun z => by
    rw [z, ho] at e
    cases Option.some.inj e
    rw [hd] at hc
    cases hc).trans e) hb
structure Near (P : Program) (w : World) (knd : HeapKind P w K) (h : Heap) (a : Addr) (L : List (Addr × K)) (es : Array (Int × Value)) (ep : Nat) (t : SetTable) : Prop where
  obj : ∃ o, h.get? a = some o ∧ o.ExactSet ∧ o.data = .set es ep t
  ent : es.toList = L.map fun p => (knd.hash p.2, Value.ref p.1)
  lay : TabOk t (L.map fun p => knd.hash p.2)
  dif : (L.map Prod.snd).Nodup
  key : ∀ p ∈ L, knd.is h p.2 p.1
  led : w.params.followText "set-order" = true ∨ t.led = true
  small : L.length ≤ 76
  in_ : L.length ≤ t.mask
theorem Near.relay (R : Near P w knd s.heap a L es ep t) (T0 : Plain knd) {wanted M : Nat} (hw : SetTable.sizeAbove wanted - 1 = M) (hM : MaskOk M) (hn : L.length * 5 < M * 3) {R2 : Unit → Shared → Prop}
    (hR : ∀ h' L' es' ep' t', Heap.SameBut a s.heap h' → Of P w knd h' a L' es' ep' t' → L'.Perm L → R2 () { s with heap := h' }) : wpAny (model P w) A (setRelay a wanted) R2 E s := by
  obtain ⟨o, ho, hex, hd⟩ := R.obj
  have n1 := ent_size R.ent
  have n2 := R.small
  have n3 : t.place.size = es.size := by rw [R.lay.sz, List.length_map, n1]
  have hM2 : M ≤ 127 := by rcases hM with e | e | e <;> omega
  obtain ⟨t', order, e1, e2, T, e3, e4, -, -⟩ := relaid_ok t (hs := es.map (·.1)) (wanted := wanted) hw hM (by rw [Array.size_map, n1]; omega)
  rw [Array.size_map, n1] at e2
  obtain ⟨L2, m1, m2, m3⟩ := moved R.ent e2
  rw [m3] at T
  have n4 : (order.filterMap (es[·]?)).size = es.size := by rw [ent_size m1, m2.length_eq, n1]
  rw [setRelay_eq]
  refine wpAny_bind (wpAny_setState_of ho hd (fits_of n3 R.lay.dm (by rw [n1]; exact R.in_)) ?_)
  dsimp only
  refine wp_if_neg (by rw [sizeLine_eq]; omega) ?_
  try refine wpAny_bind (wpAny_pure ?_)
  rw [e1]
  refine wpAny_bind ?_
  refine wp_if_neg (by rw [n4]; simp) ?_
  try refine wpAny_bind (wpAny_pure ?_)
  refine wpAny_pure ?_
  refine wpAny_storeSet_of ho hd ?_ (by rw [n4, n1, sizeLine_eq]; omega)
  have sb : Heap.SameBut a s.heap (s.heap.update a (Obj.putSet (order.filterMap (es[·]?)) t')) := Heap.SameBut.update ..
  exact hR _ L2 _ (ep + 1) t' sb ⟨⟨_, store_at ho hd, ⟨hex.1, hex.2.1, hex.2.2⟩, rfl⟩, m1, T, (m2.map Prod.snd).nodup_iff.mpr R.dif, fun p hp => key_on T0 (R.key p (m2.mem_iff.mp hp)) ho hd sb, by rw [m2.length_eq, e3]; exact hn, by rw [e4]; exact R.led, by rw [m2.length_eq]; exact n2⟩ m2
theorem Of.add (R : Of P w knd s.heap a L es ep t) (T : Plain knd) {x : Addr} {k : K} (hx : knd.is s.heap k x) (hu : A.units + 8 < cLine) (hs : L.length < 76) {R2 : Bool → Shared → Prop}
    (hR : ∀ b h' L' es' ep' t', Heap.SameBut a s.heap h' → Of P w knd h' a L' es' ep' t' → (k ∈ L.map Prod.snd ∧ L' = L ∨ k ∉ L.map Prod.snd ∧ L'.Perm ((x, k) :: L)) → R2 b { s with heap := h' }) :
    wpAny (model P w) A (setAddHashed a (.ref x) (knd.hash k)) R2 E s := by
  obtain ⟨o, ho, hex, hd⟩ := R.obj
  have hsp := R.spare
  have n1 := ent_size R.ent
  unfold setAddHashed
  refine wpAny_holding ?_
  rw [show (100000 : Nat) = 99999 + 1 from rfl, setAddHashedIn_succ]
  refine wpAny_bind (wpAny_setState_of ho hd R.fits ?_)
  dsimp only
  refine wp_if_neg (by simp [byScan, Value.scannable]) ?_
  try refine wpAny_bind (wpAny_pure ?_)
  refine wpAny_bind (R.search T hx hu (fun hm => ?_) fun F hm free busy => ?_)
  · exact wpAny_pure (hR false s.heap L es ep t (Heap.SameBut.refl a s.heap) R (.inl ⟨hm, rfl⟩))
  dsimp only
  refine wpAny_bind (wpAny_setState_of ho hd R.fits ?_)
  dsimp only
  obtain ⟨q1, q2, q3, q4, q5, -, -, -, q9⟩ := R.lay.put free busy
  generalize hpt : t.put (way t.mask (knd.hash k) F) = pt at q1 q3 q4 q5 q9 ⊢
  obtain ⟨t1, at1⟩ := pt
  dsimp only at q1 q3 q4 q5 q9 ⊢
  subst q1
  generalize SetTable.below t.place (way t.mask (knd.hash k) F) = p at q2 q3 ⊢
  have pm : (L.take p ++ (x, k) :: L.drop p).Perm ((x, k) :: L) := put_perm L p (x, k)
  have hin : (SetTable.insertAt es p (knd.hash k, Value.ref x)).toList = (L.take p ++ (x, k) :: L.drop p).map fun p => (knd.hash p.2, Value.ref p.1) := by
    rw [SetTable.toList_insertAt, R.ent, List.map_append, List.map_cons, List.map_take, List.map_drop]
  have lay1 : TabOk t1 ((L.take p ++ (x, k) :: L.drop p).map fun p => knd.hash p.2) := by
    rw [List.map_append, List.map_cons, List.map_take, List.map_drop]
    exact q3
  have hlen : (L.take p ++ (x, k) :: L.drop p).length = L.length + 1 := pm.length_eq
  have dif1 : ((L.take p ++ (x, k) :: L.drop p).map Prod.snd).Nodup := (pm.map Prod.snd).nodup_iff.mpr (List.nodup_cons.mpr ⟨hm, R.dif⟩)
  generalize L.take p ++ (x, k) :: L.drop p = L1 at pm hin lay1 hlen dif1
  have hes := ent_size hin
  generalize SetTable.insertAt es p (knd.hash k, Value.ref x) = es1 at hin hes ⊢
  rw [List.length_map] at q9
  -- whatever is known of the hash
  have rest : ∀ t2 : SetTable, t2.place = t1.place → t2.dummies = t1.dummies → t2.mask = t1.mask → t2.led = t1.led → t2.fill = t1.fill → t2.tooFull = t1.tooFull →
      wpAny (model P w) A (do
        storeSet a es1 t2
        if !false && t2.tooFull then setRelay a (SetTable.grown (es.size + 1))
        return true) R2 E s := fun t2 p1 p2 p3 p4 p5 p6 => by
    have lay2 : TabOk t2 (L1.map fun p => knd.hash p.2) := by
      obtain ⟨r1, r2, r3, r4, r5, r6⟩ := lay1
      exact ⟨by rw [p1]; exact r1, by rw [p2]; exact r2, by rw [p1]; exact r3, by rw [p3]; exact r4, by rw [p1, p3]; exact r5, by rw [p1, p3]; exact r6⟩
    refine wpAny_bind (wpAny_storeSet_of ho hd ?_ (by rw [hes, hlen, sizeLine_eq]; omega))
    have sb : Heap.SameBut a s.heap (s.heap.update a (Obj.putSet es1 t2)) := Heap.SameBut.update ..
    have ho1 := store_at (es' := es1) (t' := t2) ho hd
    generalize s.heap.update a (Obj.putSet es1 t2) = h1 at sb ho1 ⊢
    have key1 : ∀ p ∈ L1, knd.is h1 p.2 p.1 := fun p hp => (List.mem_cons.mp (pm.mem_iff.mp hp)).elim (fun e => by rw [e]; exact key_on T hx ho hd sb) fun hp => key_on T (R.key p hp) ho hd sb
    have led1 : w.params.followText "set-order" = true ∨ t2.led = true := by rw [p4, q5]; exact R.led
    have full : t2.tooFull = decide ((L.length + 1) * 5 ≥ t2.mask * 3) := by unfold SetTable.tooFull; rw [p5, q9]
    have mk := R.lay.mok
    by_cases hf : (L.length + 1) * 5 ≥ t2.mask * 3
    · have yes : (!false && t2.tooFull) = true := by rw [full, decide_eq_true hf]; rfl
      first
        | (refine wp_if_pos yes ?_; refine wpAny_bind ?_)
        | (refine wpAny_bind ?_; refine wp_if_pos yes ?_)
      rw [n1]
      have two : (t.mask = 7 ∧ L.length = 4) ∨ (t.mask = 31 ∧ L.length = 18) := by
        rw [p3, q4] at hf
        rcases mk with e | e | e <;> rw [e] at hf hsp <;> omega
      have N : Near P w knd h1 a L1 es1 (ep + 1) t2 := ⟨⟨_, ho1, ⟨hex.1, hex.2.1, hex.2.2⟩, rfl⟩, hin, lay2, dif1, key1, led1, by omega, by rw [hlen, p3, q4]; omega⟩
      have go : ∀ M, SetTable.sizeAbove (SetTable.grown (L.length + 1)) - 1 = M → MaskOk M → (L.length + 1) * 5 < M * 3 →
          wpAny (model P w) A (setRelay a (SetTable.grown (L.length + 1))) (fun _ s' => wpAny (model P w) A (pure true) R2 E s') E { s with heap := h1 } := fun M g1 g2 g3 =>
        Near.relay (s := { s with heap := h1 }) N T g1 g2 (by rw [hlen]; exact g3) fun h2 L2 es2 ep2 t3 sb2 R3 pm2 => wpAny_pure (hR true h2 L2 es2 ep2 t3 (sb.trans sb2) R3 (.inr ⟨hm, pm2.trans pm⟩))
      rcases two with ⟨_, e⟩ | ⟨_, e⟩
      · exact go 31 (by rw [e, size_20]) (.inr (.inl rfl)) (by omega)
      · exact go 127 (by rw [e, size_76]) (.inr (.inr rfl)) (by omega)
    · have noo : ¬ (!false && t2.tooFull) = true := by rw [full, decide_eq_false hf]; decide
      first
        | refine wp_if_neg noo ?_
        | (refine wpAny_bind ?_; refine wp_if_neg noo ?_; refine wpAny_pure ?_)
      exact wpAny_pure (hR true h1 L1 es1 (ep + 1) t2 sb ⟨⟨_, ho1, ⟨hex.1, hex.2.1, hex.2.2⟩, rfl⟩, hin, lay2, dif1, key1, by rw [hlen]; omega, led1, by omega⟩ (.inr ⟨hm, pm⟩))
  rcases Bool.eq_false_or_eq_true t1.plain with hp1 | hp1
  · first
      | (refine wp_if_pos hp1 (wpAny_bind (by_value T hx fun f => ?_)))
      | (refine wpAny_bind ?_; refine wp_if_pos hp1 ?_; refine by_value T hx fun f => ?_)
    cases f with
    | true => exact rest t1 rfl rfl rfl rfl rfl rfl
    | false => exact rest { t1 with plain := false } rfl rfl rfl rfl rfl rfl
  · first
      | (refine wp_if_neg (by rw [hp1]; exact Bool.false_ne_true) ?_)
      | (refine wpAny_bind ?_; refine wp_if_neg (by rw [hp1]; exact Bool.false_ne_true) ?_; refine wpAny_pure ?_)
    refine wpAny_bind (wpAny_pure ?_)
    exact rest t1 rfl rfl rfl rfl rfl rfl
end
def bare (w : World) : Obj := { cls := .type "set", dict := none, data := .set #[] 0 (.fresh 0 0 (!w.params.followText "set-order")) }
theorem Of.bare {h : Heap} {a : Addr} (ho : h.get? a = some (bare w)) : Of P w knd h a [] #[] 0 (.fresh 0 0 (!w.params.followText "set-order")) :=
  ⟨⟨_, ho, ⟨rfl, rfl, rfl⟩, rfl⟩, rfl, ⟨List.Pairwise.nil, rfl, rfl, .inl rfl, fun x hx => absurd hx (List.not_mem_nil), fun i h j hi => by simp at hi⟩, List.nodup_nil, fun p hp => absurd hp (List.not_mem_nil), by show 0 * 5 < 7 * 3; decide,
    by show _ ∨ (!w.params.followText "set-order") = true; cases w.params.followText "set-order" <;> simp, by show 0 ≤ 76; decide⟩
structure Upto (ks : List (Addr × K)) (i : Nat) (L : List (Addr × K)) : Prop where
  sub : ∀ p ∈ L, p ∈ ks.take i
  all : ∀ p ∈ ks.take i, p.2 ∈ L.map Prod.snd
  len : L.length ≤ i
theorem Upto.next {ks L L' : List (Addr × K)} {i : Nat} {p : Addr × K} (U : Upto ks i L) (h : ks[i]? = some p) (c : p.2 ∈ L.map Prod.snd ∧ L' = L ∨ p.2 ∉ L.map Prod.snd ∧ L'.Perm (p :: L)) : Upto ks (i + 1) L' := by
  have e : ks.take (i + 1) = ks.take i ++ [p] := by rw [List.take_add_one, h]; rfl
  rcases c with ⟨hm, rfl⟩ | ⟨-, pm⟩
  · refine ⟨fun q hq => by rw [e]; exact List.mem_append_left _ (U.sub q hq), fun q hq => ?_, Nat.le_succ_of_le U.len⟩
    rw [e] at hq
    exact (List.mem_append.mp hq).elim (U.all q) fun z => by rw [List.mem_singleton.mp z]; exact hm
  · refine ⟨fun q hq => ?_, fun q hq => ?_, by rw [pm.length_eq]; exact Nat.succ_le_succ U.len⟩
    · rw [e]
      exact (List.mem_cons.mp (pm.mem_iff.mp hq)).elim (fun z => List.mem_append_right _ (by rw [z]; exact List.mem_singleton_self _)) fun z => List.mem_append_left _ (U.sub q z)
    · rw [e] at hq
      rw [(pm.map Prod.snd).mem_iff]
      exact (List.mem_append.mp hq).elim (fun z => List.mem_cons_of_mem _ (U.all q z)) fun z => by rw [List.mem_singleton.mp z]; exact List.mem_cons_self ..
theorem key_kept (T : Plain knd) {h h' : Heap} {ks : K} {b : Addr} (hb : knd.is h ks b) (hk : ∀ c o, h.get? c = some o → h'.get? c = some o) : knd.is h' ks b :=
  T.stays (fun c u _ _ e _ => hk c u e) hb
theorem Of.kept {h h' : Heap} {a : Addr} {L : List (Addr × K)} {es : Array (Int × Value)} {ep : Nat} {t : SetTable} (R : Of P w knd h a L es ep t) (h1 : ∀ o, h.get? a = some o → h'.get? a = some o) (h2 : ∀ p ∈ L, knd.is h' p.2 p.1) : Of P w knd h' a L es ep t := by
  obtain ⟨o, ho, r⟩ := R.obj
  exact { R with obj := ⟨o, h1 o ho, r⟩, key := h2 }
theorem fill (T : Plain knd) {I S : Addr} {fp wr : List Addr} {G : Array GenState → Array GenState → Prop} {Pv : Nat → Value → Prop} {St : Nat → Shared → Prop} {Rs : Result → Shared → Prop} {ks : List (Addr × K)}
    (W : WalksS P w A.in1 I fp wr G ks.length Pv St) (hSf : S ∉ fp) (hfew : ks.length ≤ 76) (hval : ∀ i v, Pv i v → ∃ p, ks[i]? = some p ∧ v = .ref p.1)
    {h0 : Heap} (hk : ∀ p ∈ ks, knd.is h0 p.2 p.1) (hS0 : h0.get? S = none) (hw0 : ∀ b ∈ wr, h0.get? b = none) (hu : A.in1.units + 8 < cLine) (m : Nat) :
    ∀ (i : Nat) (s : Shared) (L : List (Addr × K)) (es : Array (Int × Value)) (ep : Nat) (t : SetTable), i + m = ks.length → St i s → (∀ b o, h0.get? b = some o → s.heap.get? b = some o) → Of P w knd s.heap S L es ep t → Upto ks i L →
      (∀ s' L es ep t, Moved (S :: wr) G s s' → Of P w knd s'.heap S L es ep t → Upto ks ks.length L → (∀ b o, h0.get? b = some o → s'.heap.get? b = some o) → Rs (.ok (.ret .none)) s') →
      codeAny (model P w) A (.builtin "set.update.loop" ⟨[.ref S, .ref I], []⟩) Rs s := by
  have apart : S ∉ wr := fun z => hSf (W.sub _ z)
  have wider : ∀ b ∈ wr, b ∈ S :: wr := fun b hb => List.mem_cons_of_mem _ hb
  have still : ∀ {s s' : Shared}, Moved wr G s s' → (∀ b o, h0.get? b = some o → s.heap.get? b = some o) → ∀ b o, h0.get? b = some o → s'.heap.get? b = some o := fun mv k b o e =>
    mv.heap b o (fun z => by rw [hw0 b z] at e; cases e) (k b o e)
  induction m with
  | zero =>
    intro i s L es ep t hi hst hkp R U hR
    have hi : i = ks.length := by omega
    subst hi
    refine codeAny_builtin F.entry_set_update_loop ?_
    rw [Around.under_plainId F.plain_set_update_loop _]
    refine wpAny_bind (m := pyNext (.ref I)) (W.done s _ _ hst fun s' mv => ?_)
    have hkp' := still mv hkp
    exact wpAny_pure (hR s' L es ep t (mv.mono wider) (R.kept (fun o e => mv.heap S o apart e) fun p hp => key_kept T (hk p (List.mem_of_mem_take (U.sub p hp))) hkp') U hkp')
  | succ m ih =>
    intro i s L es ep t hi hst hkp R U hR
    refine codeAny_builtin F.entry_set_update_loop ?_
    rw [Around.under_plainId F.plain_set_update_loop _]
    refine wpAny_bind (m := pyNext (.ref I)) (W.item i s _ _ (by omega) hst fun v s' hv hst' mv => ?_)
    obtain ⟨p, hp, rfl⟩ := hval i v hv
    have hkp' := still mv hkp
    have hx : knd.is s'.heap p.2 p.1 := key_kept T (hk p (List.mem_of_getElem? hp)) hkp'
    have R' : Of P w knd s'.heap S L es ep t := R.kept (fun o e => mv.heap S o apart e) fun q hq => key_kept T (hk q (List.mem_of_mem_take (U.sub q hq))) hkp'
    refine wpAny_bind (m := holding [Value.ref p.1] (setAdd S (.ref p.1))) (wpAny_holding ?_)
    unfold setAdd
    refine wpAny_holding (wpAny_bind (knd.pyHash (T.room hu) hx ?_))
    refine Of.add (s := { s' with toks := s'.toks + (knd.draws p.2) }) R' T hx hu (by have := U.len; omega) fun b h' L' es' ep' t' sb R2 c => ?_
    have kp2 : ∀ b o, h0.get? b = some o → h'.get? b = some o := fun b o e => (sb.2 b fun z => by rw [z, hS0] at e; cases e).trans (hkp' b o e)
    refine wpAny_pure ⟨plainId_quiet F.plain_set_update_loop _, ih (i + 1) _ L' es' ep' t' (by omega) (W.frame _ s' _ _ hst' (Nat.le_add_right _ _) fun b hb o e => ?_) kp2 R2 (U.next hp c) fun s2 L2 es2 ep2 t2 mv2 R3 U3 kp3 => ?_⟩
    · rw [sb.2 b fun z => hSf (z ▸ hb)]
      exact e
    · refine hR s2 L2 es2 ep2 t2 (Moved.trans W.gtrans ((mv.mono wider).then_heap (Nat.le_add_right _ _) fun b o hb e => ?_) mv2) R3 U3 kp3
      rw [sb.2 b fun z => hb (by rw [z]; exact List.mem_cons_self ..)]
      exact e
theorem Upto.count {ks L : List (Addr × K)} (U : Upto ks ks.length L) (hd : (L.map Prod.snd).Nodup) : L.length ≤ ks.length ∧ (L.length = ks.length ↔ (ks.map Prod.snd).Nodup) := by
  have sub : ∀ x ∈ L.map Prod.snd, x ∈ ks.map Prod.snd := fun x hx => by
    obtain ⟨p, hp, rfl⟩ := List.mem_map.mp hx
    exact List.mem_map.mpr ⟨p, List.mem_of_mem_take (U.sub p hp), rfl⟩
  have all : ∀ x ∈ ks.map Prod.snd, x ∈ L.map Prod.snd := fun x hx => by
    obtain ⟨p, hp, rfl⟩ := List.mem_map.mp hx
    exact U.all p (by rw [List.take_length]; exact hp)
  have grow : ∀ (xs ys : List K), xs.Nodup → (∀ x ∈ xs, x ∈ ys) → xs.length ≤ ys.length := by
    intro xs
    induction xs with
    | nil => exact fun _ _ _ => Nat.zero_le _
    | cons x xs ih =>
      intro ys hn hs
      obtain ⟨n1, n2⟩ := List.nodup_cons.mp hn
      have h1 := hs x (List.mem_cons_self ..)
      have h2 := ih (ys.erase x) n2 fun y hy => (List.mem_erase_of_ne fun e => n1 (by rw [← e]; exact hy)).mpr (hs y (List.mem_cons_of_mem _ hy))
      rw [List.length_erase_of_mem h1] at h2
      have := List.length_pos_of_mem h1
      rw [List.length_cons]
      omega
  refine ⟨U.len, fun e => ?_, fun hn => ?_⟩
  · -- a second time would make it shorter
    have short : ∀ ys : List K, ¬ ys.Nodup → ∃ zs : List K, zs.length < ys.length ∧ ∀ x ∈ ys, x ∈ zs := by
      intro ys
      induction ys with
      | nil => exact fun h => absurd List.nodup_nil h
      | cons y ys ih =>
        intro h
        by_cases c : y ∈ ys
        · exact ⟨ys, Nat.lt_succ_self _, fun x hx => (List.mem_cons.mp hx).elim (fun e => e ▸ c) id⟩
        · obtain ⟨zs, z1, z2⟩ := ih fun hn => h (List.nodup_cons.mpr ⟨c, hn⟩)
          exact ⟨y :: zs, Nat.succ_lt_succ z1, fun x hx => (List.mem_cons.mp hx).elim (fun e => e ▸ List.mem_cons_self ..) fun z => List.mem_cons_of_mem _ (z2 x z)⟩
    rcases Classical.em (ks.map Prod.snd).Nodup with c | c
    · exact c
    · obtain ⟨zs, z1, z2⟩ := short _ c
      have := grow (L.map Prod.snd) zs hd fun x hx => z2 x (sub x hx)
      rw [List.length_map] at this z1
      omega
  · have := grow (ks.map Prod.snd) (L.map Prod.snd) hn all
    rw [List.length_map, List.length_map] at this
    exact Nat.le_antisymm U.len this
section
variable {s : Shared} {A : Around} {E : Value → Shared → Prop}
mutual
theorem cls_key : ∀ (k : NestedKey) (v : Value) (n : Nat), NestedIs s.heap k v → k.depth ≤ n → ∀ R : Bool → Shared → Prop, R false s → wpAny (model P w) A (ofAClassStatement n v) R E s
  | .none, _, n, x, _, R, hR => by
    cases x
    rw [show ofAClassStatement n Value.none = pure false by cases n <;> rfl]
    exact wpAny_pure hR
  | .num i, _, n, x, _, R, hR => by
    cases x with
    | bool e =>
      rename_i b
      rw [show ofAClassStatement n (Value.bool b) = pure false by cases n <;> rfl]
      exact wpAny_pure hR
    | int _ t =>
      rw [ofAClass_int n i t]
      exact wpAny_pure hR
  | .text y, _, n, x, _, R, hR => by
    cases x with
    | text _ t =>
      rw [show ofAClassStatement n (Value.str y t) = pure false by cases n <;> rfl]
      exact wpAny_pure hR
  | .tup ks, _, n, x, hn, R, hR => by
    cases x with
    | tup hg hc hd hk =>
      rename_i a o vs m
      simp only [NestedKey.depth] at hn
      cases n with
      | zero => omega
      | succ n =>
      have all := cls_keys ks _ n hk (by omega)
      have ty : s.TypeIs (.ref a) "tuple" := ⟨_, hg, hc⟩
      have yes : (("tuple" : String) == "tuple") = true := by decide
      unfold ofAClassStatement
      refine wpAny_bind (wpAny_typeOf ty ?_)
      simp only [yes, if_true, Bool.not_true, Bool.false_eq_true, if_false]
      try refine wpAny_bind (wpAny_pure ?_)
      try simp only [Bool.not_true, Bool.false_eq_true, if_false]
      refine wpAny_bind (m := seqItems? (.ref a)) (wpAny_seqItems hg hd ?_)
      dsimp only
      refine wpAny_bind ?_
      show wpAny _ _ (forIn vs _ _) _ _ s
      rw [← Array.forIn_toList]
      refine wpAny_forIn_list _ (fun left st s1 => (st.1 = none ∧ s1 = s) ∧ ∀ v ∈ left, ∀ R : Bool → Shared → Prop, R false s → wpAny (model P w) A (ofAClassStatement n v) R E s) _ (fun v left st s1 ⟨⟨e1, e2⟩, hv⟩ => ?_) (fun st s1 ⟨⟨e1, e2⟩, _⟩ => ?_) _ _ ⟨⟨rfl, rfl⟩, all⟩
      · subst e2
        refine wpAny_bind (hv v (List.mem_cons_self ..) _ ?_)
        simp only [Bool.false_eq_true, if_false]
        exact wpAny_pure ⟨⟨rfl, rfl⟩, fun x hx => hv x (List.mem_cons_of_mem _ hx)⟩
      · subst e2
        obtain ⟨st1, st2⟩ := st
        have e1 : st1 = none := e1
        subst e1
        exact wpAny_pure hR
theorem cls_keys : ∀ (ks : List NestedKey) (vs : List Value) (n : Nat), NestedAll s.heap ks vs → NestedKey.depthAll ks ≤ n → ∀ v ∈ vs, ∀ R : Bool → Shared → Prop, R false s → wpAny (model P w) A (ofAClassStatement n v) R E s
  | [], _, n, x, _, v, hv => by cases x; cases hv
  | k :: ks, _, n, x, hn, v, hv => by
    cases x with
    | cons x1 x2 =>
      simp only [NestedKey.depthAll] at hn
      rcases List.mem_cons.mp hv with e | hv
      · rw [e]; exact cls_key k _ n x1 (by omega)
      · exact cls_keys ks _ n x2 (by omega) v hv
end
mutual
theorem val_key : ∀ (k : NestedKey) (v : Value) (n : Nat), NestedIs s.heap k v → ∀ R : Bool → Shared → Prop, (∀ f, R f s) → wpAny (model P w) A (hashByValue n v) R E s
  | .none, _, n, x, R, hR => by
    cases x
    rw [show hashByValue n Value.none = pure true by cases n <;> rfl]
    exact wpAny_pure (hR _)
  | .num i, _, n, x, R, hR => by
    cases x with
    | bool e =>
      rename_i b
      rw [show hashByValue n (Value.bool b) = pure true by cases n <;> rfl]
      exact wpAny_pure (hR _)
    | int _ t =>
      rw [hashBy_int n i t]
      exact wpAny_pure (hR _)
  | .text y, _, n, x, R, hR => by
    cases x with
    | text _ t =>
      rw [show hashByValue n (Value.str y t) = pure false by cases n <;> rfl]
      exact wpAny_pure (hR _)
  | .tup ks, _, n, x, R, hR => by
    cases x with
    | tup hg hc hd hk =>
      rename_i a o vs m
      cases n with
      | zero => exact wpAny_pure (hR _)
      | succ n =>
      have all := val_keys ks _ n hk
      have ty : s.TypeIs (.ref a) "tuple" := ⟨_, hg, hc⟩
      unfold hashByValue
      refine wpAny_bind (wpAny_specialOf ty F.slot_tuple_hash.lookup ?_)
      refine wpAny_bind (m := seqItems? (.ref a)) (wpAny_seqItems hg hd ?_)
      refine wpAny_bind ?_
      show wpAny _ _ (forIn vs _ _) _ _ s
      rw [← Array.forIn_toList]
      refine wpAny_forIn_list _ (fun left st s1 => (st.1 = none ∨ st.1 = some false) ∧ s1 = s ∧ ∀ v ∈ left, ∀ R : Bool → Shared → Prop, (∀ f, R f s) → wpAny (model P w) A (hashByValue n v) R E s) _ (fun v left st s1 ⟨e1, e2, hv⟩ => ?_) (fun st s1 ⟨e1, e2, _⟩ => ?_) _ _ ⟨.inl rfl, rfl, all⟩
      · subst e2
        refine wpAny_bind (hv v (List.mem_cons_self ..) _ fun f => ?_)
        cases f with
        | true =>
          simp only [Bool.not_true, Bool.false_eq_true, if_false]
          exact wpAny_pure ⟨.inl rfl, rfl, fun x hx => hv x (List.mem_cons_of_mem _ hx)⟩
        | false =>
          simp only [Bool.not_false, if_true]
          exact wpAny_pure (wpAny_pure (hR false))
      · subst e2
        obtain ⟨st1, st2⟩ := st
        have e1 : st1 = none ∨ st1 = some false := e1
        rcases e1 with rfl | rfl
        · exact wpAny_pure (hR true)
        · exact wpAny_pure (hR false)
theorem val_keys : ∀ (ks : List NestedKey) (vs : List Value) (n : Nat), NestedAll s.heap ks vs → ∀ v ∈ vs, ∀ R : Bool → Shared → Prop, (∀ f, R f s) → wpAny (model P w) A (hashByValue n v) R E s
  | [], _, n, x, v, hv => by cases x; cases hv
  | k :: ks, _, n, x, v, hv => by
    cases x with
    | cons x1 x2 =>
      rcases List.mem_cons.mp hv with e | hv
      · rw [e]; exact val_key k _ n x1
      · exact val_keys ks _ n x2 v hv
end
end
end SK
namespace SK
open PySem PySem.Spec PyProof.Rows L2
variable {P : Program} {w : World} {K : Type} [DecidableEq K] {knd : HeapKind P w K} {A : Around} {E : Value → Shared → Prop} {s : Shared}
end SK
namespace DL
open PySem PySem.Spec L2
variable {X : Cx} {W : WC}
mutual
def keyN : PyData → Option NestedKey
  | .none => some .none
  | .bool b => some (.num (if b = true then 1 else 0))
  | .int i => some (.num i)
  | .str x => some (.text x)
  | .tuple ds => (keyNs ds).map .tup
  | .list _ => none
  | .dict _ => none
def keyNs : List PyData → Option (List NestedKey)
  | [] => some []
  | d :: ds => match keyN d, keyNs ds with
    | some k, some ks => some (k :: ks)
    | _, _ => none
end
section
variable {K : PySem.W.Frag} {F H : Hp} {h : Heap} {P : Program} {w : World}
mutual
theorem nest_at (ok : HOk P w H h) (hF : Same F H) : ∀ (d : PyData) (v : V) (u : Value) (k : NestedKey), At K F v d → RelV v u → keyN d = some k → NestedIs h k u
  | .none, _, u, k, a, r, e => by
    cases a
    cases r
    unfold keyN at e; cases e; exact .none
  | .bool b, _, u, k, a, r, e => by
    cases a
    cases r
    unfold keyN at e; cases e; exact .bool rfl
  | .int i, _, u, k, a, r, e => by
    cases a
    obtain ⟨t, rfl⟩ := r
    unfold keyN at e; cases e; exact .int i t
  | .str x, _, u, k, a, r, e => by
    cases a
    obtain ⟨t, rfl⟩ := r
    unfold keyN at e; cases e; exact .text x t
  | .list ds, _, u, k, a, r, e => by unfold keyN at e; cases e
  | .dict ds, _, u, k, a, r, e => by unfold keyN at e; cases e
  | .tuple ds, _, u, k, a, r, e => by
    unfold keyN at e
    cases ek : keyNs ds with
    | none => rw [ek] at e; cases e
    | some ks =>
      rw [ek] at e
      cases e
      cases a with
      | tup hs ha =>
        rename_i b vs
        cases r
        obtain ⟨_, its, rv, o, h1, h2, n, h3⟩ := (show ObjOk P w H h b (.tup vs) from ok b _ (hF _ _ hs))
        exact .tup h1 h2 h3 (nest_ats ok hF ds vs its ks ha rv ek)
theorem nest_ats (ok : HOk P w H h) (hF : Same F H) : ∀ (ds : List PyData) (vs : List V) (us : List Value) (ks : List NestedKey), AtL K F vs ds → Vals vs us → keyNs ds = some ks → NestedAll h ks us
  | [], vs, us, ks, a, r, e => by
    cases a
    cases r
    unfold keyNs at e; cases e; exact .nil
  | d :: ds, vs, us, ks, a, r, e => by
    unfold keyNs at e
    cases e1 : keyN d with
    | none => rw [e1] at e; cases e
    | some k =>
      cases e2 : keyNs ds with
      | none => rw [e1, e2] at e; cases e
      | some kr =>
        rw [e1, e2] at e
        cases e
        cases a with
        | cons a1 a2 =>
          cases r with
          | cons r1 r2 => exact .cons (nest_at ok hF d _ _ _ a1 r1 e1) (nest_ats ok hF ds _ _ _ a2 r2 e2)
end
end
end DL
namespace DL
open PySem PySem.Spec L2 PySem.W
variable {X : Cx} {W : WC}
end DL
namespace ST
open PySem PySem.Spec PyProof.Rows L2
variable {P : Program} {w : World} {K : Type} [DecidableEq K] {knd : KeyKind P w K} {A : Around} {E : Value → Shared → Prop} {s : Shared}
end ST
namespace DL
open PySem PySem.Spec L2 PySem.W
variable {X : Cx} {W : WC}
end DL
namespace DL
open PySem PySem.Spec L2
section
variable {K : PySem.W.Frag} {F : Hp}
inductive AtPs (K : PySem.W.Frag) (F : Hp) : List (Key × V) → List (Key × PyData) → Prop
  | nil : AtPs K F [] []
  | cons {k : Key} {v : V} {d : PyData} {kvs : List (Key × V)} {ps : List (Key × PyData)} : At K F v d → AtPs K F kvs ps → AtPs K F ((k, v) :: kvs) ((k, d) :: ps)
end
section
variable {u : Nat} {X : Cx} {W : WC} {e : Expr} {pos p : Pos} {mas : MA}
end
end DL
namespace DL
open PySem PySem.Spec L2
section
variable {u1 : Nat} {X : Cx} {W : WC} {e : Expr} {es : List Expr} {x : Str} {mas : MA} {p1 ap cp pos : Pos}
end
end DL
namespace DL
open PySem PySem.Spec L2
section
variable {u : Nat} {X : Cx} {W : WC} {st : Stmt} {m : MS}
end
end DL
namespace DL
open PySem PySem.Spec L2 PySem.W
section
variable {u : Nat} {X : Cx} {W : WC} {e : Expr} {pos p : Pos} {mas : MA}
end
section
variable {xs : List PyData} {R : DV → Prop}
end
end DL
namespace L2
open PySem PySem.Spec PyProof.Rows
variable {X : Cx}
end L2
namespace DL
open PySem PySem.Spec L2
variable {X : Cx} {W : WC} {u1 u2 u3 : Nat}
end DL
namespace DL
open PySem PySem.Spec L2
section
variable {X : Cx} {W : WC} {u u1 u2 : Nat} {o e a b : Expr} {ap pos p : Pos} {mo me ma mb : ME} {mas : MA}
def ents : List DictEntry → List (Str × Str) → Bool
  | [], [] => true
  | e :: es, (k, v) :: r => e.key.isStr k && e.val.isStr v && ents es r
  | _, _ => false
structure DctS (K : PySem.W.Frag) (w : World) (p : Addr) (kvs : List (Str × Str)) : Prop where
  ex : ∃ (es : Array DictEntry) (n : Nat), K.lookup p = some ⟨.type "dict", none, .dict es n, #[]⟩ ∧ PySem.W.KeysLit w.params es.toList ∧ ents es.toList kvs = true
  lo : (p == sysModules) = false
theorem oSl_tx {z : Str} {lo hi : Option Int} {R : DV → Prop} : oSl (.d (.str z)) lo hi R = (z.length ≤ sizeLine ∧ R (.d (.str (cutS z lo hi)))) := rfl
theorem oIx_tx {z : Str} {i : Int} {R : DV → Prop} : oIx (.d (.str z)) (.d (.int i)) R = (z.length ≤ sizeLine ∧ ∃ ch, atI z.cps.toList i = some ch ∧ R (.d (.str ⟨#[ch]⟩))) := rfl
end
end DL
namespace DL
open PySem PySem.Spec L2
section
variable {X : Cx} {W : WC} {u u1 u2 : Nat} {e a b : Expr} {p pos : Pos} {me ma mb : ME}
abbrev MJ := Str → XD → Env → (Str → Prop) → Prop
def liftJ (K : PySem.W.Frag) (mg : Str → Option Value) (W : WC) (u : Nat) (m : MJ) (acc : Str) (σ : L2.St) (H : Hp) (Q : Str → Hp → Prop) : Prop :=
  ∃ (ex : XD) (G : Gm) (F : Hp) (δ τ : Env) (ts : L2.St) (τ1 : Env) (ts1 : L2.St) (R : Str → Prop), Now K mg W u ex G F δ σ τ ts τ1 ts1 H ∧ m acc ex δ R ∧
    ∀ r, R r → ∀ F' H', Good (G.up u) F' (δ ++ τ ++ τ1) (σ ++ ts ++ ts1) H' → Q r H'
structure DFs (X : Cx) (W : WC) (es : List Expr) (m : MJ) (u : Nat) : Prop where
  ex : ∃ ts, PJ X es ts ∧ ∀ acc σ H Q, liftJ X.K X.mg W u m acc σ H Q → tJs ts acc σ H Q
variable {es : List Expr} {mj : MJ}
theorem vals_nil : vals [] = some [] := rfl
theorem vals_dc {x : PyData} {xs : List DV} : vals (.d x :: xs) = Option.map (x :: ·) (vals xs) := by
  show (match some x, vals xs with
    | some d, some ds => some (d :: ds)
    | _, _ => none) = _
  cases vals xs <;> rfl
theorem vals_oc {x : List PyData} {xs : List DV} : vals (.own x :: xs) = Option.map (.list x :: ·) (vals xs) := by
  show (match some (PyData.list x), vals xs with
    | some d, some ds => some (d :: ds)
    | _, _ => none) = _
  cases vals xs <;> rfl
theorem vals_kc {x : List (PyData × PyData)} {xs : List DV} : vals (.odk x :: xs) = Option.map (.dict x :: ·) (vals xs) := by
  show (match some (PyData.dict x), vals xs with
    | some d, some ds => some (d :: ds)
    | _, _ => none) = _
  cases vals xs <;> rfl
end
end DL
local macro_rules | `(tactic| walk_at "dl") => `(tactic| first | (simp only [DL.mSeq, DL.mNext, DL.mAsg, DL.mAug, DL.mBin, DL.mB, DL.mUn, DL.mTup, DL.mLst, DL.mCons, DL.mC, DL.mNil, DL.mVar, DL.mIfS, DL.mCB, DL.mCall, DL.mRet, DL.mSl, DL.mPN, DL.mPS, DL.mAnd, DL.mOr, DL.mNot, DL.mAndV, DL.mOrV, DL.o1, DL.o2, DL.mSto, DL.mMut]; try simp only [DL.oSl_tx, DL.oIx_tx, DL.mDictT0, DL.mIEnumL, DL.enumD, DL.num_i, DL.mDPut, DL.mTPut, DL.dct_ot, DL.dct_bt, DL.keyT_t, DL.keyL_nil, DL.keyL_i, DL.keyL_s, DL.isOdt_0, DL.isOdt_s, DL.seen_lt, DL.isBor_lt, DL.oDGet, DL.oDIn, DL.keyD, DL.seen_ot, DL.seen_bt, DL.isBor_ot, DL.isBor_bt, DL.seen_k, DL.seen_bk, DL.seen_lk, DL.seen_bl, DL.seen_ld, DL.fix_k, DL.fix_bk, DL.isBor_k, DL.isBor_bk, DL.isBor_ld, DL.dic_d, DL.isObj_0, DL.isObj_s, DL.isObj_i, DL.dic_k, DL.dic_bk, DL.dic_bl, DL.dic_ld, DL.key_i, DL.key_s, DL.isOdk_0, DL.isOdk_s, Bool.false_bne, Bool.true_bne, DL.dr_nil, DL.dr_n, DL.dr_d, DL.dr_c, DL.dr_o, DL.dr_b, DL.dr_r, DL.dr_s, DL.mRaise1, DL.seen_e, DL.isBor_e, DL.oMaxA_t, DL.oMaxA_l, DL.oMaxA_o, DL.oMaxA_b, DL.oMinA_t, DL.oMinA_l, DL.oMinA_o, DL.oMinA_b,
  DL.bodyD, DL.startD, DL.mSeq, DL.mNext, DL.mFrz, DL.mRet, DL.mDrop, DL.mIfS, DL.gN, DL.gsN, DL.gT, DL.mAsg, DL.mPar2, DL.mPar3, DL.mAug, 
  DL.mMut, DL.mutRun, DL.isOwnAt, DL.mSto, DL.mCall, DL.argsD, DL.mVar, DL.mC, DL.mRaw, DL.mBin, DL.mB, DL.mChain, DL.mAnd, DL.mOr, DL.mNot, DL.mAndV, DL.mOrV, DL.mNotV, 
  DL.mNil, DL.mCons, DL.mCB, DL.mTup, DL.mLst, DL.vals_nil, DL.vals_dc, DL.vals_oc, DL.vals_kc, DL.mIL, DL.mIT, DL.mR1, DL.mR2, DL.mR3, DL.mRev, DL.mFor, DL.mForN, DL.mLc, DL.oLt, DL.oLe, DL.oGt, DL.oGe, DL.mUn, 
  DL.o1, DL.o2, DL.mSl, DL.mPN, DL.mPS, DL.mYes, DL.uApp, DL.uIns, DL.uExt, DL.mKL, DL.val_odk, DL.mDict0, DL.wipeD, DL.seenD, DL.oSub_i, DL.val_d, DL.val_o, 
  DL.seen_d, DL.seen_o, DL.seen_b, DL.seen_c, DL.seen_s, DL.fix_d, DL.fix_o, DL.fix_b, DL.fix_c, DL.isBor_d, DL.isBor_o, DL.isBor_b, DL.isBor_c, DL.isBor_s, DL.tru_b, DL.lst_dl, 
  DL.rd_dl, DL.lst_o, DL.rd_o, DL.lst_b, DL.rd_b, DL.seq_dl, DL.seq_dt, DL.seq_o, DL.seq_b, DL.rd_s, DL.pd_d, DL.pd_o, DL.pd_b, DL.oI_T, DL.oEq_ssf, DL.oEq_ndf, DL.oEq_nof, 
  DL.oEq_nrf, DL.oEq_dnf, DL.oEq_bdf, DL.oEq_bof, DL.oEq_brf, DL.oEq_dbf, DL.oEq_idf, DL.oEq_iof, DL.oEq_irf, DL.oEq_dif, DL.oEq_ldf, DL.oEq_lof, DL.oEq_lrf, DL.oEq_dlf, DL.oEq_tdf, 
  DL.oEq_tof, DL.oEq_trf, DL.oEq_dtf, DL.oEq_kdf, DL.oEq_kof, DL.oEq_krf, DL.oEq_dkf, DL.oEq_odf, DL.oEq_oof, DL.oEq_orf, DL.oEq_dof, DL.oEq_rdf, DL.oEq_rof, DL.oEq_rrf, DL.oEq_drf, 
  DL.oEq_sst, DL.oEq_ndt, DL.oEq_not, DL.oEq_nrt, DL.oEq_dnt, DL.oEq_bdt, DL.oEq_bot, DL.oEq_brt, DL.oEq_dbt, DL.oEq_idt, DL.oEq_iot, DL.oEq_irt, DL.oEq_dit, DL.oEq_ldt, DL.oEq_lot, 
  DL.oEq_lrt, DL.oEq_dlt, DL.oEq_tdt, DL.oEq_tot, DL.oEq_trt, DL.oEq_dtt, DL.oEq_kdt, DL.oEq_kot, DL.oEq_krt, DL.oEq_dkt, DL.oEq_odt, DL.oEq_oot, DL.oEq_ort, DL.oEq_dot, DL.oEq_rdt, 
  DL.oEq_rot, DL.oEq_rrt, DL.oEq_drt, DL.oI_i, DL.oC_i, DL.oAdd_i, DL.oAdd_s, DL.oAdd_t, DL.oAdd_ll, DL.oAdd_lo, DL.oAdd_lb, DL.oAdd_ol, 
  DL.oAdd_oo, DL.oAdd_ob, DL.oAdd_bl, DL.oAdd_bo, DL.oAdd_bb, DL.oMul_i, DL.oMul_l, DL.oMul_o, DL.oMul_b, DL.oNeg_i, DL.oIn_dtf, DL.oIn_dtt, DL.oIn_dlf, DL.oIn_dlt, DL.oIn_dof, 
  DL.oIn_dot, DL.oIn_dbf, DL.oIn_dbt, DL.oIn_otf, DL.oIn_ott, DL.oIn_olf, DL.oIn_olt, DL.oIn_oof, DL.oIn_oot, DL.oIn_obf, DL.oIn_obt, DL.oIn_btf, DL.oIn_btt, DL.oIn_blf, DL.oIn_blt, 
  DL.oIn_bof, DL.oIn_bot, DL.oIn_bbf, DL.oIn_bbt, DL.oIx_t, DL.oLen_t, DL.oList_t, DL.oIx_l, DL.oLen_l, DL.oList_l, DL.oIx_o, DL.oLen_o, DL.oList_o, DL.oIx_b, DL.oLen_b, 
  DL.oList_b, DL.oLen_s, DL.oLen_x, DL.oMax2_i, DL.oMin2_i, DL.oTuple_t, DL.oTuple_l, DL.oTuple_o, DL.oTuple_b, DL.oIsi_d, DL.oIsi_o, DL.oIsi_b, DL.oSl_t, DL.oSl_l, DL.oSl_o, DL.oSl_b, DL.oSl_s, DL.oBack_t, DL.oBack_l, DL.oBack_o, DL.oBack_b, List.map_cons, List.map_nil, List.length_cons, 
  List.length_nil, List.replicate_succ, List.replicate_zero, List.cons_append, List.nil_append, List.append_nil, DL.ge0, DL.ges, List.set_cons_zero, List.set_cons_succ, Nat.reduceAdd, 
  Nat.reduceSub, Nat.reduceLT, Option.map_some, Option.map_none, and_true, true_and, List.getElem?_nil, forall_const, Bool.not_true, Bool.not_false, DL.at0, DL.at1, DL.at2, DL.at3, DL.at4, DL.at5, 
  Int.toNat_natCast, Int.toNat_one, Int.toNat_zero, DL.all_nil', DL.tf_t, DL.tf_f, DL.tf1, DL.tf2, DL.tf3, DL.tf4]) | simp only [DL.oSl_tx, DL.oIx_tx, DL.mDictT0, DL.mIEnumL, DL.enumD, DL.num_i, DL.mDPut, DL.mTPut, DL.dct_ot, DL.dct_bt, DL.keyT_t, DL.keyL_nil, DL.keyL_i, DL.keyL_s, DL.isOdt_0, DL.isOdt_s, DL.seen_lt, DL.isBor_lt, DL.oDGet, DL.oDIn, DL.keyD, DL.seen_ot, DL.seen_bt, DL.isBor_ot, DL.isBor_bt, DL.seen_k, DL.seen_bk, DL.seen_lk, DL.seen_bl, DL.seen_ld, DL.fix_k, DL.fix_bk, DL.isBor_k, DL.isBor_bk, DL.isBor_ld, DL.dic_d, DL.isObj_0, DL.isObj_s, DL.isObj_i, DL.dic_k, DL.dic_bk, DL.dic_bl, DL.dic_ld, DL.key_i, DL.key_s, DL.isOdk_0, DL.isOdk_s, Bool.false_bne, Bool.true_bne, DL.dr_nil, DL.dr_n, DL.dr_d, DL.dr_c, DL.dr_o, DL.dr_b, DL.dr_r, DL.dr_s, DL.mRaise1, DL.seen_e, DL.isBor_e, DL.oMaxA_t, DL.oMaxA_l, DL.oMaxA_o, DL.oMaxA_b, DL.oMinA_t, DL.oMinA_l, DL.oMinA_o, DL.oMinA_b,
  DL.bodyD, DL.startD, DL.mSeq, DL.mNext, DL.mFrz, DL.mRet, DL.mDrop, DL.mIfS, DL.gN, DL.gsN, DL.gT, DL.mAsg, DL.mPar2, DL.mPar3, DL.mAug, 
  DL.mMut, DL.mutRun, DL.isOwnAt, DL.mSto, DL.mCall, DL.argsD, DL.mVar, DL.mC, DL.mRaw, DL.mBin, DL.mB, DL.mChain, DL.mAnd, DL.mOr, DL.mNot, DL.mAndV, DL.mOrV, DL.mNotV, 
  DL.mNil, DL.mCons, DL.mCB, DL.mTup, DL.mLst, DL.vals_nil, DL.vals_dc, DL.vals_oc, DL.vals_kc, DL.mIL, DL.mIT, DL.mR1, DL.mR2, DL.mR3, DL.mRev, DL.mFor, DL.mForN, DL.mLc, DL.oLt, DL.oLe, DL.oGt, DL.oGe, DL.mUn, 
  DL.o1, DL.o2, DL.mSl, DL.mPN, DL.mPS, DL.mYes, DL.uApp, DL.uIns, DL.uExt, DL.mKL, DL.val_odk, DL.mDict0, DL.wipeD, DL.seenD, DL.oSub_i, DL.val_d, DL.val_o, 
  DL.seen_d, DL.seen_o, DL.seen_b, DL.seen_c, DL.seen_s, DL.fix_d, DL.fix_o, DL.fix_b, DL.fix_c, DL.isBor_d, DL.isBor_o, DL.isBor_b, DL.isBor_c, DL.isBor_s, DL.tru_b, DL.lst_dl, 
  DL.rd_dl, DL.lst_o, DL.rd_o, DL.lst_b, DL.rd_b, DL.seq_dl, DL.seq_dt, DL.seq_o, DL.seq_b, DL.rd_s, DL.pd_d, DL.pd_o, DL.pd_b, DL.oI_T, DL.oEq_ssf, DL.oEq_ndf, DL.oEq_nof, 
  DL.oEq_nrf, DL.oEq_dnf, DL.oEq_bdf, DL.oEq_bof, DL.oEq_brf, DL.oEq_dbf, DL.oEq_idf, DL.oEq_iof, DL.oEq_irf, DL.oEq_dif, DL.oEq_ldf, DL.oEq_lof, DL.oEq_lrf, DL.oEq_dlf, DL.oEq_tdf, 
  DL.oEq_tof, DL.oEq_trf, DL.oEq_dtf, DL.oEq_kdf, DL.oEq_kof, DL.oEq_krf, DL.oEq_dkf, DL.oEq_odf, DL.oEq_oof, DL.oEq_orf, DL.oEq_dof, DL.oEq_rdf, DL.oEq_rof, DL.oEq_rrf, DL.oEq_drf, 
  DL.oEq_sst, DL.oEq_ndt, DL.oEq_not, DL.oEq_nrt, DL.oEq_dnt, DL.oEq_bdt, DL.oEq_bot, DL.oEq_brt, DL.oEq_dbt, DL.oEq_idt, DL.oEq_iot, DL.oEq_irt, DL.oEq_dit, DL.oEq_ldt, DL.oEq_lot, 
  DL.oEq_lrt, DL.oEq_dlt, DL.oEq_tdt, DL.oEq_tot, DL.oEq_trt, DL.oEq_dtt, DL.oEq_kdt, DL.oEq_kot, DL.oEq_krt, DL.oEq_dkt, DL.oEq_odt, DL.oEq_oot, DL.oEq_ort, DL.oEq_dot, DL.oEq_rdt, 
  DL.oEq_rot, DL.oEq_rrt, DL.oEq_drt, DL.oI_i, DL.oC_i, DL.oAdd_i, DL.oAdd_s, DL.oAdd_t, DL.oAdd_ll, DL.oAdd_lo, DL.oAdd_lb, DL.oAdd_ol, 
  DL.oAdd_oo, DL.oAdd_ob, DL.oAdd_bl, DL.oAdd_bo, DL.oAdd_bb, DL.oMul_i, DL.oMul_l, DL.oMul_o, DL.oMul_b, DL.oNeg_i, DL.oIn_dtf, DL.oIn_dtt, DL.oIn_dlf, DL.oIn_dlt, DL.oIn_dof, 
  DL.oIn_dot, DL.oIn_dbf, DL.oIn_dbt, DL.oIn_otf, DL.oIn_ott, DL.oIn_olf, DL.oIn_olt, DL.oIn_oof, DL.oIn_oot, DL.oIn_obf, DL.oIn_obt, DL.oIn_btf, DL.oIn_btt, DL.oIn_blf, DL.oIn_blt, 
  DL.oIn_bof, DL.oIn_bot, DL.oIn_bbf, DL.oIn_bbt, DL.oIx_t, DL.oLen_t, DL.oList_t, DL.oIx_l, DL.oLen_l, DL.oList_l, DL.oIx_o, DL.oLen_o, DL.oList_o, DL.oIx_b, DL.oLen_b, 
  DL.oList_b, DL.oLen_s, DL.oLen_x, DL.oMax2_i, DL.oMin2_i, DL.oTuple_t, DL.oTuple_l, DL.oTuple_o, DL.oTuple_b, DL.oIsi_d, DL.oIsi_o, DL.oIsi_b, DL.oSl_t, DL.oSl_l, DL.oSl_o, DL.oSl_b, DL.oSl_s, DL.oBack_t, DL.oBack_l, DL.oBack_o, DL.oBack_b, List.map_cons, List.map_nil, List.length_cons, 
  List.length_nil, List.replicate_succ, List.replicate_zero, List.cons_append, List.nil_append, List.append_nil, DL.ge0, DL.ges, List.set_cons_zero, List.set_cons_succ, Nat.reduceAdd, 
  Nat.reduceSub, Nat.reduceLT, Option.map_some, Option.map_none, and_true, true_and, List.getElem?_nil, forall_const, Bool.not_true, Bool.not_false, DL.at0, DL.at1, DL.at2, DL.at3, DL.at4, DL.at5, 
  Int.toNat_natCast, Int.toNat_one, Int.toNat_zero, DL.all_nil', DL.tf_t, DL.tf_f, DL.tf1, DL.tf2, DL.tf3, DL.tf4])
local macro_rules | `(tactic| walk_at "dx") => `(tactic| first | (simp only [DL.mSeq, DL.mNext, DL.mAsg, DL.mAug, DL.mBin, DL.mB, DL.mUn, DL.mTup, DL.mLst, DL.mCons, DL.mC, DL.mNil, DL.mVar, DL.mIfS, DL.mCB, DL.mCall, DL.mRet, DL.mSl, DL.mPN, DL.mPS, DL.mAnd, DL.mOr, DL.mNot, DL.mAndV, DL.mOrV, DL.o1, DL.o2, DL.mSto, DL.mMut]; try simp only [DL.oSl_tx, DL.oIx_tx, DL.mDictT0, DL.eqv_lr, DL.eqv_rl, DL.eqv_ll, DL.eqv_rr, DL.mIEnumL, DL.enumD, DL.cp2, DL.pw2, DL.cp3, DL.pw3, DL.cp4, DL.pw4, DL.cp5, DL.pw5, DL.cp6, DL.pw6, DL.cp7, DL.pw7, DL.cp8, DL.pw8, DL.cp9, DL.pw9, DL.cp10, DL.pw10, DL.cp11, DL.pw11, DL.cp12, DL.pw12, DL.cp13, DL.pw13, DL.cp14, DL.pw14, DL.cp15, DL.pw15, DL.cp16, DL.pw16, DL.cp17, DL.pw17, DL.cp18, DL.pw18, DL.cp19, DL.pw19, DL.cp20, DL.pw20, DL.cp21, DL.pw21, DL.cp22, DL.pw22, DL.cp23, DL.pw23, DL.cp24, DL.pw24, DL.cp25, DL.pw25, DL.cp26, DL.pw26, DL.cp27, DL.pw27, DL.cp28, DL.pw28, DL.cp29, DL.pw29, DL.cp30, DL.pw30, DL.cp31, DL.pw31, DL.cp32, DL.pw32, DL.cp33, DL.pw33, DL.cp34, DL.pw34, DL.cp35, DL.pw35, DL.cp36, DL.pw36, DL.cp37, DL.pw37, DL.cp38, DL.pw38, DL.cp39, DL.pw39, DL.cp40, DL.pw40,
  DL.eqv_ii, DL.eqv_bb, DL.shaped_i, DL.shaped_b, DL.shaped_n, DL.shaped_nil, DL.shaped_nilt, DL.if_tt, DL.if_ff, decide_eq_true_eq, decide_eq_false_iff_not, Bool.not_eq_true', Bool.not_eq_false', Int.zero_add, Int.add_zero, ite_true, ite_false, eq_self_iff_true,
  DL.num_i, DL.mDPut, DL.mTPut, DL.dct_ot, DL.dct_bt, DL.keyT_t, DL.keyL_nil, DL.keyL_i, DL.keyL_s, DL.isOdt_0, DL.isOdt_s, DL.seen_lt, DL.isBor_lt, DL.oDGet, DL.oDIn, DL.keyD, DL.seen_ot, DL.seen_bt, DL.isBor_ot, DL.isBor_bt, DL.seen_k, DL.seen_bk, DL.seen_lk, DL.seen_bl, DL.seen_ld, DL.fix_k, DL.fix_bk, DL.isBor_k, DL.isBor_bk, DL.isBor_ld, DL.dic_d, DL.isObj_0, DL.isObj_s, DL.isObj_i, DL.dic_k, DL.dic_bk, DL.dic_bl, DL.dic_ld, DL.key_i, DL.key_s, DL.isOdk_0, DL.isOdk_s, Bool.false_bne, Bool.true_bne, DL.dr_nil, DL.dr_n, DL.dr_d, DL.dr_c, DL.dr_o, DL.dr_b, DL.dr_r, DL.dr_s, DL.mRaise1, DL.seen_e, DL.isBor_e, DL.oMaxA_t, DL.oMaxA_l, DL.oMaxA_o, DL.oMaxA_b, DL.oMinA_t, DL.oMinA_l, DL.oMinA_o, DL.oMinA_b,
  DL.bodyD, DL.startD, DL.mSeq, DL.mNext, DL.mFrz, DL.mRet, DL.mDrop, DL.mIfS, DL.gN, DL.gsN, DL.gT, DL.mAsg, DL.mPar2, DL.mPar3, DL.mAug, 
  DL.mMut, DL.mutRun, DL.isOwnAt, DL.mSto, DL.mCall, DL.argsD, DL.mVar, DL.mC, DL.mRaw, DL.mBin, DL.mB, DL.mChain, DL.mAnd, DL.mOr, DL.mNot, DL.mAndV, DL.mOrV, DL.mNotV, 
  DL.mNil, DL.mCons, DL.mCB, DL.mTup, DL.mLst, DL.vals_nil, DL.vals_dc, DL.vals_oc, DL.vals_kc, DL.mIL, DL.mIT, DL.mR1, DL.mR2, DL.mR3, DL.mRev, DL.mFor, DL.mForN, DL.mLc, DL.oLt, DL.oLe, DL.oGt, DL.oGe, DL.mUn, 
  DL.o1, DL.o2, DL.mSl, DL.mPN, DL.mPS, DL.mYes, DL.uApp, DL.uIns, DL.uExt, DL.mKL, DL.val_odk, DL.mDict0, DL.wipeD, DL.seenD, DL.oSub_i, DL.val_d, DL.val_o, 
  DL.seen_d, DL.seen_o, DL.seen_b, DL.seen_c, DL.seen_s, DL.fix_d, DL.fix_o, DL.fix_b, DL.fix_c, DL.isBor_d, DL.isBor_o, DL.isBor_b, DL.isBor_c, DL.isBor_s, DL.tru_b, DL.lst_dl, 
  DL.rd_dl, DL.lst_o, DL.rd_o, DL.lst_b, DL.rd_b, DL.seq_dl, DL.seq_dt, DL.seq_o, DL.seq_b, DL.rd_s, DL.pd_d, DL.pd_o, DL.pd_b, DL.oI_T, DL.oEq_ssf, DL.oEq_ndf, DL.oEq_nof, 
  DL.oEq_nrf, DL.oEq_dnf, DL.oEq_bdf, DL.oEq_bof, DL.oEq_brf, DL.oEq_dbf, DL.oEq_idf, DL.oEq_iof, DL.oEq_irf, DL.oEq_dif, DL.oEq_ldf, DL.oEq_lof, DL.oEq_lrf, DL.oEq_dlf, DL.oEq_tdf, 
  DL.oEq_tof, DL.oEq_trf, DL.oEq_dtf, DL.oEq_kdf, DL.oEq_kof, DL.oEq_krf, DL.oEq_dkf, DL.oEq_odf, DL.oEq_oof, DL.oEq_orf, DL.oEq_dof, DL.oEq_rdf, DL.oEq_rof, DL.oEq_rrf, DL.oEq_drf, 
  DL.oEq_sst, DL.oEq_ndt, DL.oEq_not, DL.oEq_nrt, DL.oEq_dnt, DL.oEq_bdt, DL.oEq_bot, DL.oEq_brt, DL.oEq_dbt, DL.oEq_idt, DL.oEq_iot, DL.oEq_irt, DL.oEq_dit, DL.oEq_ldt, DL.oEq_lot, 
  DL.oEq_lrt, DL.oEq_dlt, DL.oEq_tdt, DL.oEq_tot, DL.oEq_trt, DL.oEq_dtt, DL.oEq_kdt, DL.oEq_kot, DL.oEq_krt, DL.oEq_dkt, DL.oEq_odt, DL.oEq_oot, DL.oEq_ort, DL.oEq_dot, DL.oEq_rdt, 
  DL.oEq_rot, DL.oEq_rrt, DL.oEq_drt, DL.oI_i, DL.oC_i, DL.oAdd_i, DL.oAdd_s, DL.oAdd_t, DL.oAdd_ll, DL.oAdd_lo, DL.oAdd_lb, DL.oAdd_ol, 
  DL.oAdd_oo, DL.oAdd_ob, DL.oAdd_bl, DL.oAdd_bo, DL.oAdd_bb, DL.oMul_i, DL.oMul_l, DL.oMul_o, DL.oMul_b, DL.oNeg_i, DL.oIn_dtf, DL.oIn_dtt, DL.oIn_dlf, DL.oIn_dlt, DL.oIn_dof, 
  DL.oIn_dot, DL.oIn_dbf, DL.oIn_dbt, DL.oIn_otf, DL.oIn_ott, DL.oIn_olf, DL.oIn_olt, DL.oIn_oof, DL.oIn_oot, DL.oIn_obf, DL.oIn_obt, DL.oIn_btf, DL.oIn_btt, DL.oIn_blf, DL.oIn_blt, 
  DL.oIn_bof, DL.oIn_bot, DL.oIn_bbf, DL.oIn_bbt, DL.oIx_t, DL.oLen_t, DL.oList_t, DL.oIx_l, DL.oLen_l, DL.oList_l, DL.oIx_o, DL.oLen_o, DL.oList_o, DL.oIx_b, DL.oLen_b, 
  DL.oList_b, DL.oLen_s, DL.oLen_x, DL.oMax2_i, DL.oMin2_i, DL.oTuple_t, DL.oTuple_l, DL.oTuple_o, DL.oTuple_b, DL.oIsi_d, DL.oIsi_o, DL.oIsi_b, DL.oSl_t, DL.oSl_l, DL.oSl_o, DL.oSl_b, DL.oSl_s, DL.oBack_t, DL.oBack_l, DL.oBack_o, DL.oBack_b, List.map_cons, List.map_nil, List.length_cons, 
  List.length_nil, List.replicate_succ, List.replicate_zero, List.cons_append, List.nil_append, List.append_nil, DL.ge0, DL.ges, List.set_cons_zero, List.set_cons_succ, Nat.reduceAdd, 
  Nat.reduceSub, Nat.reduceLT, Option.map_some, Option.map_none, and_true, true_and, List.getElem?_nil, forall_const, Bool.not_true, Bool.not_false, DL.at0, DL.at1, DL.at2, DL.at3, DL.at4, DL.at5, 
  Int.toNat_natCast, Int.toNat_one, Int.toNat_zero, DL.all_nil', DL.tf_t, DL.tf_f, DL.tf1, DL.tf2, DL.tf3, DL.tf4]) | simp only [DL.oSl_tx, DL.oIx_tx, DL.mDictT0, DL.eqv_lr, DL.eqv_rl, DL.eqv_ll, DL.eqv_rr, DL.mIEnumL, DL.enumD, DL.cp2, DL.pw2, DL.cp3, DL.pw3, DL.cp4, DL.pw4, DL.cp5, DL.pw5, DL.cp6, DL.pw6, DL.cp7, DL.pw7, DL.cp8, DL.pw8, DL.cp9, DL.pw9, DL.cp10, DL.pw10, DL.cp11, DL.pw11, DL.cp12, DL.pw12, DL.cp13, DL.pw13, DL.cp14, DL.pw14, DL.cp15, DL.pw15, DL.cp16, DL.pw16, DL.cp17, DL.pw17, DL.cp18, DL.pw18, DL.cp19, DL.pw19, DL.cp20, DL.pw20, DL.cp21, DL.pw21, DL.cp22, DL.pw22, DL.cp23, DL.pw23, DL.cp24, DL.pw24, DL.cp25, DL.pw25, DL.cp26, DL.pw26, DL.cp27, DL.pw27, DL.cp28, DL.pw28, DL.cp29, DL.pw29, DL.cp30, DL.pw30, DL.cp31, DL.pw31, DL.cp32, DL.pw32, DL.cp33, DL.pw33, DL.cp34, DL.pw34, DL.cp35, DL.pw35, DL.cp36, DL.pw36, DL.cp37, DL.pw37, DL.cp38, DL.pw38, DL.cp39, DL.pw39, DL.cp40, DL.pw40,
  DL.eqv_ii, DL.eqv_bb, DL.shaped_i, DL.shaped_b, DL.shaped_n, DL.shaped_nil, DL.shaped_nilt, DL.if_tt, DL.if_ff, decide_eq_true_eq, decide_eq_false_iff_not, Bool.not_eq_true', Bool.not_eq_false', Int.zero_add, Int.add_zero, ite_true, ite_false, eq_self_iff_true,
  DL.num_i, DL.mDPut, DL.mTPut, DL.dct_ot, DL.dct_bt, DL.keyT_t, DL.keyL_nil, DL.keyL_i, DL.keyL_s, DL.isOdt_0, DL.isOdt_s, DL.seen_lt, DL.isBor_lt, DL.oDGet, DL.oDIn, DL.keyD, DL.seen_ot, DL.seen_bt, DL.isBor_ot, DL.isBor_bt, DL.seen_k, DL.seen_bk, DL.seen_lk, DL.seen_bl, DL.seen_ld, DL.fix_k, DL.fix_bk, DL.isBor_k, DL.isBor_bk, DL.isBor_ld, DL.dic_d, DL.isObj_0, DL.isObj_s, DL.isObj_i, DL.dic_k, DL.dic_bk, DL.dic_bl, DL.dic_ld, DL.key_i, DL.key_s, DL.isOdk_0, DL.isOdk_s, Bool.false_bne, Bool.true_bne, DL.dr_nil, DL.dr_n, DL.dr_d, DL.dr_c, DL.dr_o, DL.dr_b, DL.dr_r, DL.dr_s, DL.mRaise1, DL.seen_e, DL.isBor_e, DL.oMaxA_t, DL.oMaxA_l, DL.oMaxA_o, DL.oMaxA_b, DL.oMinA_t, DL.oMinA_l, DL.oMinA_o, DL.oMinA_b,
  DL.bodyD, DL.startD, DL.mSeq, DL.mNext, DL.mFrz, DL.mRet, DL.mDrop, DL.mIfS, DL.gN, DL.gsN, DL.gT, DL.mAsg, DL.mPar2, DL.mPar3, DL.mAug, 
  DL.mMut, DL.mutRun, DL.isOwnAt, DL.mSto, DL.mCall, DL.argsD, DL.mVar, DL.mC, DL.mRaw, DL.mBin, DL.mB, DL.mChain, DL.mAnd, DL.mOr, DL.mNot, DL.mAndV, DL.mOrV, DL.mNotV, 
  DL.mNil, DL.mCons, DL.mCB, DL.mTup, DL.mLst, DL.vals_nil, DL.vals_dc, DL.vals_oc, DL.vals_kc, DL.mIL, DL.mIT, DL.mR1, DL.mR2, DL.mR3, DL.mRev, DL.mFor, DL.mForN, DL.mLc, DL.oLt, DL.oLe, DL.oGt, DL.oGe, DL.mUn, 
  DL.o1, DL.o2, DL.mSl, DL.mPN, DL.mPS, DL.mYes, DL.uApp, DL.uIns, DL.uExt, DL.mKL, DL.val_odk, DL.mDict0, DL.wipeD, DL.seenD, DL.oSub_i, DL.val_d, DL.val_o, 
  DL.seen_d, DL.seen_o, DL.seen_b, DL.seen_c, DL.seen_s, DL.fix_d, DL.fix_o, DL.fix_b, DL.fix_c, DL.isBor_d, DL.isBor_o, DL.isBor_b, DL.isBor_c, DL.isBor_s, DL.tru_b, DL.lst_dl, 
  DL.rd_dl, DL.lst_o, DL.rd_o, DL.lst_b, DL.rd_b, DL.seq_dl, DL.seq_dt, DL.seq_o, DL.seq_b, DL.rd_s, DL.pd_d, DL.pd_o, DL.pd_b, DL.oI_T, DL.oEq_ssf, DL.oEq_ndf, DL.oEq_nof, 
  DL.oEq_nrf, DL.oEq_dnf, DL.oEq_bdf, DL.oEq_bof, DL.oEq_brf, DL.oEq_dbf, DL.oEq_idf, DL.oEq_iof, DL.oEq_irf, DL.oEq_dif, DL.oEq_ldf, DL.oEq_lof, DL.oEq_lrf, DL.oEq_dlf, DL.oEq_tdf, 
  DL.oEq_tof, DL.oEq_trf, DL.oEq_dtf, DL.oEq_kdf, DL.oEq_kof, DL.oEq_krf, DL.oEq_dkf, DL.oEq_odf, DL.oEq_oof, DL.oEq_orf, DL.oEq_dof, DL.oEq_rdf, DL.oEq_rof, DL.oEq_rrf, DL.oEq_drf, 
  DL.oEq_sst, DL.oEq_ndt, DL.oEq_not, DL.oEq_nrt, DL.oEq_dnt, DL.oEq_bdt, DL.oEq_bot, DL.oEq_brt, DL.oEq_dbt, DL.oEq_idt, DL.oEq_iot, DL.oEq_irt, DL.oEq_dit, DL.oEq_ldt, DL.oEq_lot, 
  DL.oEq_lrt, DL.oEq_dlt, DL.oEq_tdt, DL.oEq_tot, DL.oEq_trt, DL.oEq_dtt, DL.oEq_kdt, DL.oEq_kot, DL.oEq_krt, DL.oEq_dkt, DL.oEq_odt, DL.oEq_oot, DL.oEq_ort, DL.oEq_dot, DL.oEq_rdt, 
  DL.oEq_rot, DL.oEq_rrt, DL.oEq_drt, DL.oI_i, DL.oC_i, DL.oAdd_i, DL.oAdd_s, DL.oAdd_t, DL.oAdd_ll, DL.oAdd_lo, DL.oAdd_lb, DL.oAdd_ol, 
  DL.oAdd_oo, DL.oAdd_ob, DL.oAdd_bl, DL.oAdd_bo, DL.oAdd_bb, DL.oMul_i, DL.oMul_l, DL.oMul_o, DL.oMul_b, DL.oNeg_i, DL.oIn_dtf, DL.oIn_dtt, DL.oIn_dlf, DL.oIn_dlt, DL.oIn_dof, 
  DL.oIn_dot, DL.oIn_dbf, DL.oIn_dbt, DL.oIn_otf, DL.oIn_ott, DL.oIn_olf, DL.oIn_olt, DL.oIn_oof, DL.oIn_oot, DL.oIn_obf, DL.oIn_obt, DL.oIn_btf, DL.oIn_btt, DL.oIn_blf, DL.oIn_blt, 
  DL.oIn_bof, DL.oIn_bot, DL.oIn_bbf, DL.oIn_bbt, DL.oIx_t, DL.oLen_t, DL.oList_t, DL.oIx_l, DL.oLen_l, DL.oList_l, DL.oIx_o, DL.oLen_o, DL.oList_o, DL.oIx_b, DL.oLen_b, 
  DL.oList_b, DL.oLen_s, DL.oLen_x, DL.oMax2_i, DL.oMin2_i, DL.oTuple_t, DL.oTuple_l, DL.oTuple_o, DL.oTuple_b, DL.oIsi_d, DL.oIsi_o, DL.oIsi_b, DL.oSl_t, DL.oSl_l, DL.oSl_o, DL.oSl_b, DL.oSl_s, DL.oBack_t, DL.oBack_l, DL.oBack_o, DL.oBack_b, List.map_cons, List.map_nil, List.length_cons, 
  List.length_nil, List.replicate_succ, List.replicate_zero, List.cons_append, List.nil_append, List.append_nil, DL.ge0, DL.ges, List.set_cons_zero, List.set_cons_succ, Nat.reduceAdd, 
  Nat.reduceSub, Nat.reduceLT, Option.map_some, Option.map_none, and_true, true_and, List.getElem?_nil, forall_const, Bool.not_true, Bool.not_false, DL.at0, DL.at1, DL.at2, DL.at3, DL.at4, DL.at5, 
  Int.toNat_natCast, Int.toNat_one, Int.toNat_zero, DL.all_nil', DL.tf_t, DL.tf_f, DL.tf1, DL.tf2, DL.tf3, DL.tf4])
local macro_rules | `(tactic| walk_at "db") => `(tactic| simp only [DL.bodyD, DL.startD, List.map_cons, List.map_nil, List.length_cons, List.length_nil, List.replicate_succ, List.replicate_zero, List.cons_append, List.nil_append, List.append_nil, Nat.reduceAdd, Nat.reduceSub])
namespace Lk58
open PySem PySem.Spec L2 DL
def top (i : Nat) : Stmt := PySem.Challenge.pw_toppleline_k58_whole_many_copies.main.body.getD i (.Pass ⟨0, 0, 0, 0⟩)
abbrev s_is_integer : Stmt := top 8
abbrev s_is_side : Stmt := top 9
abbrev s_check_push : Stmt := top 10
abbrev s_right_ends : Stmt := top 11
abbrev s_mirrored : Stmt := top 12
abbrev s_repeated : Stmt := top 15
abbrev s_end_to_right : Stmt := top 16
abbrev s_copies_stretch : Stmt := top 17
abbrev s_both_ends : Stmt := top 18
abbrev s_farthest : Stmt := top 19
abbrev s_fewest_of : Stmt := top 20
abbrev s_is_endless : Stmt := top 21
abbrev s_next_stones : Stmt := top 22
abbrev s_copies_fewest : Stmt := top 23
abbrev s__law_horn : Stmt := top 25
abbrev s__law_blow : Stmt := top 26
abbrev s__law_row : Stmt := top 27
abbrev s__law_copies : Stmt := top 28
abbrev s__law_repeated : Stmt := top 29
abbrev s__law_ends : Stmt := top 30
abbrev s__law_turned : Stmt := top 31
abbrev s__law_starts : Stmt := top 32
abbrev s__law_fewest : Stmt := top 33
abbrev s__law_is_endless : Stmt := top 34
abbrev s_law : Stmt := top 35
theorem sc_is_integer : FnScope ["value", "low", "high"] ["value", "low", "high"] (defScope s_is_integer) := ⟨rfl, rfl, rfl, by decide +kernel, rfl, by decide +kernel, by decide +kernel⟩
theorem sc_is_side : FnScope ["value"] ["value"] (defScope s_is_side) := ⟨rfl, rfl, rfl, by decide +kernel, rfl, by decide +kernel, by decide +kernel⟩
theorem sc_check_push : FnScope ["row", "stone", "side"] ["row", "stone", "side"] (defScope s_check_push) := ⟨rfl, rfl, rfl, by decide +kernel, rfl, by decide +kernel, by decide +kernel⟩
theorem sc_right_ends : FnScope ["row", "found", "stone", "last"] ["row"] (defScope s_right_ends) := ⟨rfl, rfl, rfl, by decide +kernel, rfl, by decide +kernel, by decide +kernel⟩
theorem sc_mirrored : FnScope ["row", "total", "place", "height"] ["row"] (defScope s_mirrored) := ⟨rfl, rfl, rfl, by decide +kernel, rfl, by decide +kernel, by decide +kernel⟩
theorem sc_repeated : FnScope ["row", "period", "times", "found", "copy", "place", "height"] ["row", "period", "times"] (defScope s_repeated) := ⟨rfl, rfl, rfl, by decide +kernel, rfl, by decide +kernel, by decide +kernel⟩
theorem sc_end_to_right : FnScope ["row", "period", "times", "index", "stone", "size", "many", "last"] ["row", "period", "times", "index", "stone"] (defScope s_end_to_right) := ⟨rfl, rfl, rfl, by decide +kernel, rfl, by decide +kernel, by decide +kernel⟩
theorem sc_copies_stretch : FnScope ["row", "period", "times", "index", "stone", "side", "copy", "other"] ["row", "period", "times", "index", "stone", "side"] (defScope s_copies_stretch) := ⟨rfl, rfl, rfl, by decide +kernel, rfl, by decide +kernel, by decide +kernel⟩
theorem sc_both_ends : FnScope ["row", "lefts", "stone"] ["row"] (defScope s_both_ends) := ⟨rfl, rfl, rfl, by decide +kernel, rfl, by decide +kernel, by decide +kernel⟩
theorem sc_farthest : FnScope ["lefts", "rights", "stone", "ahead", "last", "behind", "other", "low"] ["lefts", "rights", "stone"] (defScope s_farthest) := ⟨rfl, rfl, rfl, by decide +kernel, rfl, by decide +kernel, by decide +kernel⟩
theorem sc_fewest_of : FnScope ["row", "lefts", "rights", "found", "stone"] ["row"] (defScope s_fewest_of) := ⟨rfl, rfl, rfl, by decide +kernel, rfl, by decide +kernel, by decide +kernel⟩
theorem sc_is_endless : FnScope ["row", "period", "size", "lefts", "rights"] ["row", "period"] (defScope s_is_endless) := ⟨rfl, rfl, rfl, by decide +kernel, rfl, by decide +kernel, by decide +kernel⟩
theorem sc_next_stones : FnScope ["row", "period", "before", "after", "size", "lefts", "rights", "found", "stone", "following"] ["row", "period", "before", "after"] (defScope s_next_stones) := ⟨rfl, rfl, rfl, by decide +kernel, rfl, by decide +kernel, by decide +kernel⟩
theorem sc_copies_fewest : FnScope ["row", "period", "times", "tables", "seen", "sides", "count", "copy", "stone", "passed", "done", "rounds", "way"] ["row", "period", "times"] (defScope s_copies_fewest) := ⟨rfl, rfl, rfl, by decide +kernel, rfl, by decide +kernel, by decide +kernel⟩
theorem sc__law_horn : FnScope ["_law_script", "_law_mixed", "_law_large", "_law_cell"] ["_law_script"] (defScope s__law_horn) := ⟨rfl, rfl, rfl, by decide +kernel, rfl, by decide +kernel, by decide +kernel⟩
theorem sc__law_blow : FnScope ["_law_horn_here", "_law_many", "_law_cell"] ["_law_horn_here", "_law_many"] (defScope s__law_blow) := ⟨rfl, rfl, rfl, by decide +kernel, rfl, by decide +kernel, by decide +kernel⟩
theorem sc__law_row : FnScope ["_law_horn_here", "_law_size", "_law_wide", "_law_many", "_law_found", "_law_place", "_law_tall", "_law_k", "_law_some"] ["_law_horn_here", "_law_size", "_law_wide"] (defScope s__law_row) := ⟨rfl, rfl, rfl, by decide +kernel, rfl, by decide +kernel, by decide +kernel⟩
theorem sc__law_copies : FnScope ["_law_horn_here", "_law_size", "_law_wide", "_law_row_here", "_law_period", "_law_place", "_law_height"] ["_law_horn_here", "_law_size", "_law_wide"] (defScope s__law_copies) := ⟨rfl, rfl, rfl, by decide +kernel, rfl, by decide +kernel, by decide +kernel⟩
theorem sc__law_repeated : FnScope ["_law_row_here", "_law_period", "_law_times", "_law_found", "_law_k", "_law_place", "_law_height"] ["_law_row_here", "_law_period", "_law_times"] (defScope s__law_repeated) := ⟨rfl, rfl, rfl, by decide +kernel, rfl, by decide +kernel, by decide +kernel⟩
theorem sc__law_ends : FnScope ["_law_row_here", "_law_found", "_law_stone", "_law_last", "_law_reach"] ["_law_row_here"] (defScope s__law_ends) := ⟨rfl, rfl, rfl, by decide +kernel, rfl, by decide +kernel, by decide +kernel⟩
theorem sc__law_turned : FnScope ["_law_row_here", "_law_place", "_law_height"] ["_law_row_here"] (defScope s__law_turned) := ⟨rfl, rfl, rfl, by decide +kernel, rfl, by decide +kernel, by decide +kernel⟩
theorem sc__law_starts : FnScope ["_law_row_here", "_law_period", "_law_times", "_law_whole", "_law_rights", "_law_lefts", "_law_last", "_law_far", "_law_found", "_law_at", "_law_stone", "_law_low"] ["_law_row_here", "_law_period", "_law_times"] (defScope s__law_starts) := ⟨rfl, rfl, rfl, by decide +kernel, rfl, by decide +kernel, by decide +kernel⟩
theorem sc__law_fewest : FnScope ["_law_row_here", "_law_period", "_law_times", "_law_starts_here", "_law_seen", "_law_size", "_law_k", "_law_at", "_law_before", "_law_passed", "_law_done", "_law_rest"] ["_law_row_here", "_law_period", "_law_times"] (defScope s__law_fewest) := ⟨rfl, rfl, rfl, by decide +kernel, rfl, by decide +kernel, by decide +kernel⟩
theorem sc__law_is_endless : FnScope ["_law_row_here", "_law_period", "_law_stone", "_law_ahead", "_law_after"] ["_law_row_here", "_law_period"] (defScope s__law_is_endless) := ⟨rfl, rfl, rfl, by decide +kernel, rfl, by decide +kernel, by decide +kernel⟩
theorem sc_law : FnScope ["_law_script", "_law_horn_here", "_law_turn", "_law_row_here", "_law_period", "_law_one", "_law_two", "_law_found", "_law_times"] ["_law_script"] (defScope s_law) := ⟨rfl, rfl, rfl, by decide +kernel, rfl, by decide +kernel, by decide +kernel⟩
abbrev i_NoStone : Stmt := inClass (top 2) 0
theorem si_NoStone : FnScope ["self", "value"] ["self", "value"] (defScope i_NoStone) := ⟨rfl, rfl, rfl, by decide +kernel, rfl, by decide +kernel, by decide +kernel⟩
theorem ini_NoStone {P : Program} {w : World} {K : PySem.W.Frag} {mg : Str → Option Value} {base : Heap} {C f : Addr} {fd : FuncData} (F : L2.Fun K "__init__" "NoStone.__init__" i_NoStone f fd) (hO : OexC K C) (hno : PySem.W.findIn K (.ref C) "value" = some none) : FnOk P w K mg base L2.CX0 1 f fd ["self", "value"] (spInit K C "value") :=
  F.ok si_NoStone (fun vs H Q E h => by obtain ⟨a, y, rfl, _⟩ := h; rfl) fun cdv A outer s H vs Q E hr h => ⟨_, pss_one (ps_ost (pv 0) (pv 1)), init_read hO hno rfl h⟩
abbrev i_NoSide : Stmt := inClass (top 3) 0
theorem si_NoSide : FnScope ["self", "value"] ["self", "value"] (defScope i_NoSide) := ⟨rfl, rfl, rfl, by decide +kernel, rfl, by decide +kernel, by decide +kernel⟩
theorem ini_NoSide {P : Program} {w : World} {K : PySem.W.Frag} {mg : Str → Option Value} {base : Heap} {C f : Addr} {fd : FuncData} (F : L2.Fun K "__init__" "NoSide.__init__" i_NoSide f fd) (hO : OexC K C) (hno : PySem.W.findIn K (.ref C) "value" = some none) : FnOk P w K mg base L2.CX0 1 f fd ["self", "value"] (spInit K C "value") :=
  F.ok si_NoSide (fun vs H Q E h => by obtain ⟨a, y, rfl, _⟩ := h; rfl) fun cdv A outer s H vs Q E hr h => ⟨_, pss_one (ps_ost (pv 0) (pv 1)), init_read hO hno rfl h⟩
abbrev i_NoIndex : Stmt := inClass (top 4) 0
theorem si_NoIndex : FnScope ["self", "index"] ["self", "index"] (defScope i_NoIndex) := ⟨rfl, rfl, rfl, by decide +kernel, rfl, by decide +kernel, by decide +kernel⟩
theorem ini_NoIndex {P : Program} {w : World} {K : PySem.W.Frag} {mg : Str → Option Value} {base : Heap} {C f : Addr} {fd : FuncData} (F : L2.Fun K "__init__" "NoIndex.__init__" i_NoIndex f fd) (hO : OexC K C) (hno : PySem.W.findIn K (.ref C) "index" = some none) : FnOk P w K mg base L2.CX0 1 f fd ["self", "index"] (spInit K C "index") :=
  F.ok si_NoIndex (fun vs H Q E h => by obtain ⟨a, y, rfl, _⟩ := h; rfl) fun cdv A outer s H vs Q E hr h => ⟨_, pss_one (ps_ost (pv 0) (pv 1)), init_read hO hno rfl h⟩
structure Txt (K : PySem.W.Frag) (mg : Str → Option Value) : Prop where
  n_bool : mg "bool" = none
  n_enumerate : mg "enumerate" = none
  n_int : mg "int" = none
  n_isinstance : mg "isinstance" = none
  n_len : mg "len" = none
  n_list : mg "list" = none
  n_max : mg "max" = none
  n_min : mg "min" = none
  n_range : mg "range" = none
  n_reversed : mg "reversed" = none
  n_str : mg "str" = none
  n_tuple : mg "tuple" = none
  c_FEW : ∃ t, mg "FEW" = some (.int (6) t)
  c_LEFT : ∃ t, mg "LEFT" = some (.str "left" t)
  c_RIGHT : ∃ t, mg "RIGHT" = some (.str "right" t)
/-- the horn stands at c: a number and what is left of the large ones -/
def HornAt (c l : Addr) (n : Nat) (H : Hp) : Prop := ∃ (m : Int) (gs : List Int), H c = some (.lst [.int m, .ref l]) ∧ H l = some (.lst (gs.map V.int)) ∧ 0 ≤ m ∧ m < 2 ^ 64 ∧ gs.length ≤ 64
def CK : CKT := fun C cv J lim => ∃ c l, c ≠ l ∧ C = (fun p => p = c ∨ p = l) ∧ cv = .ref c ∧ J = HornAt c l ∧ lim = 2 ^ 40
def spHorn (K : PySem.W.Frag) : Sp := fun vs H Q _ => ∃ (a : Addr) (ns : List Int), vs = [.ref a] ∧ ns.length ≤ 63 ∧ SqL K H a (ns.map V.int) ∧ ∀ c l H', c ≠ l → HornAt c l 0 H' → Q (.ref c) H'
def mf__law_blow : MF := fun as R _ => ∃ m : Int, as = [.cask, .d (.int m)] ∧ m ≤ 2 ^ 100 ∧ ∀ r, 0 ≤ r → r < max m 1 → R (.d (.int r))
def spLaw (K : PySem.W.Frag) : Sp := fun vs H Q _ => ∃ (a : Addr) (ns : List Int), vs = [.ref a] ∧ ns.length ≤ 63 ∧ SqL K H a (ns.map V.int) ∧ ∀ H', Q (.bl true) H'
theorem law_ok {K : PySem.W.Frag} {H : Hp} {a : Addr} {ns : List Int} (hl : ns.length ≤ 63) (hS : SqL K H a (ns.map V.int)) : spLaw K [.ref a] H (fun v _ => v = .bl true) fun _ _ _ => False := ⟨a, ns, rfl, hl, hS, fun _ => rfl⟩
structure DHorn (P : Program) (w : World) (K : PySem.W.Frag) (mg : Str → Option Value) (base : Heap) : Prop where
  ex : ∃ f fd ps, mg "_law_horn" = some (.ref f) ∧ PySem.W.keepIn K (.ref f) = true ∧ Binds K fd ps [] ∧ ps.length = 1 ∧ FnG P w K mg base 1 f fd ps (spHorn K)
section
variable {P : Program} {w : World} {K : PySem.W.Frag} {mg : Str → Option Value} {base : Heap} 
def isInt (v : PyData) (lo hi : Int) : Bool := match v with
  | .int i => decide (lo ≤ i) && decide (i ≤ hi)
  | _ => false
def mf_is_integer : MF := fun as R _ => ∃ (v : PyData) (lo hi : Int), as = [.d v, .d (.int lo), .d (.int hi)] ∧ R (.d (.bool (isInt v lo hi)))
theorem d_is_integer {f : Addr} {fd : FuncData} (T : Txt K mg) (hm : mg "is_integer" = some (.ref f)) (F0 : L2.Fun K "is_integer" "is_integer" s_is_integer f fd) (hb : Binds K fd ["value", "low", "high"] []) : DFn P w K mg base CK "is_integer" 1 0 3 mf_is_integer :=
  (dfn_of hm F0 hb sc_is_integer (fun cdv A outer s H E cx =>
 (dss_one (ds_ret (de_and (de_isi (by rfl) T.n_isinstance (da_cons (de_pv 0) (da_cons (de_ty (T := "int") (by rfl) T.n_int (by decide +kernel)) da_nil))) (de_and (de_not (de_isi (by rfl) T.n_isinstance (da_cons (de_pv 0) (da_cons (de_ty (T := "bool") (by rfl) T.n_bool (by decide +kernel)) da_nil)))) (de_one (de_ch op_le op_le (de_pv 1) (de_pv 0) (de_pv 2))))))))
  (by
    rintro as R ex hl ⟨v, lo, hi, rfl, h⟩
    walk_at "dl"
    refine ⟨by decide, fun c => ⟨by decide, fun c2 => ?_, fun c2 => ?_⟩, fun c => ?_⟩
    · cases v with
      | int i =>
        walk_at "dl"
        refine if_dec (fun c3 => ?_) fun c3 => ?_
        · have e : isInt (.int i) lo hi = decide (i ≤ hi) := by simp [isInt, c3]
          rw [e] at h; exact h
        · have e : isInt (.int i) lo hi = false := by simp [isInt, c3]
          rw [e] at h; exact h
      | bool b => simp [isTy] at c2
      | none => simp [isTy] at c
      | str _ => simp [isTy] at c
      | list _ => simp [isTy] at c
      | tuple _ => simp [isTy] at c
      | dict _ => simp [isTy] at c
    · cases v with
      | int i => simp [isTy] at c2
      | bool b => exact h
      | none => simp [isTy] at c
      | str _ => simp [isTy] at c
      | list _ => simp [isTy] at c
      | tuple _ => simp [isTy] at c
      | dict _ => simp [isTy] at c
    · cases v with
      | int i => simp [isTy] at c
      | bool b => exact h
      | none => exact h
      | str _ => exact h
      | list _ => exact h
      | tuple _ => exact h
      | dict _ => exact h)).le (by decide +kernel)
def isSide (v : PyData) : Bool := match v with
  | .str x => decide (x = "left") || decide (x = "right")
  | _ => false
def mf_is_side : MF := fun as R _ => ∃ v : PyData, as = [.d v] ∧ (∀ x, v = .str x → SeqAt.shaped (.str x) = true) ∧ R (.d (.bool (isSide v)))
theorem d_is_side {f : Addr} {fd : FuncData} (T : Txt K mg) (hm : mg "is_side" = some (.ref f)) (F0 : L2.Fun K "is_side" "is_side" s_is_side f fd) (hb : Binds K fd ["value"] []) : DFn P w K mg base CK "is_side" 1 0 1 mf_is_side :=
  (dfn_of hm F0 hb sc_is_side (fun cdv A outer s H E cx =>
 (dss_one (ds_ret (de_and (de_isi (by rfl) T.n_isinstance (da_cons (de_pv 0) (da_cons (de_ty (T := "str") (by rfl) T.n_str (by decide +kernel)) da_nil))) (de_one (de_in cx.u (de_pv 0) (de_tup (da_cons (de_gs (by rfl) T.c_LEFT) (da_cons (de_gs (by rfl) T.c_RIGHT) da_nil)))))))))
  (by
    rintro as R ex hl ⟨v, rfl, hv, h⟩
    walk_at "dl"
    refine ⟨by decide, fun c => ?_, fun c => ?_⟩
    · cases v with
      | str x =>
        refine ⟨by decide, hv x rfl, by decide +kernel, ?_⟩
        have e : (([.str "left", .str "right"] : List PyData).any fun z => PyData.eqv z (.str x)) = isSide (.str x) := by
          simp only [List.any_cons, List.any_nil, Bool.or_false, PyData.eqv, isSide]
          have e1 : ∀ a : Str, (a == x) = decide (x = a) := fun a => by
            by_cases q : a = x
            · subst q; simp
            · have q' : ¬ x = a := fun z => q z.symm
              simp [q, q']
          rw [e1, e1]
        rw [e]; exact h
      | int i => simp [isTy] at c
      | bool b => simp [isTy] at c
      | none => simp [isTy] at c
      | list _ => simp [isTy] at c
      | tuple _ => simp [isTy] at c
      | dict _ => simp [isTy] at c
    · cases v with
      | str x => simp [isTy] at c
      | int i => exact h
      | bool b => exact h
      | none => exact h
      | list _ => exact h
      | tuple _ => exact h
      | dict _ => exact h)).le (by decide +kernel)
def noStoneP (v : PyData) : DExc := ⟨"NoStone", some ("value", v)⟩
def noSideP (v : PyData) : DExc := ⟨"NoSide", some ("value", v)⟩
/-- what a push of v to x comes to -/
def Judged (l : SRow) (v x : PyData) (ex : DExc → Prop) (ok : Prop) : Prop := (isInt v 0 ((l.length : Nat) - 1) = false → ex (noStoneP v)) ∧ (isInt v 0 ((l.length : Nat) - 1) = true → isSide x = false → ex (noSideP x)) ∧ (isInt v 0 ((l.length : Nat) - 1) = true → isSide x = true → ok)
def mf_check_push : MF := fun as R ex => ∃ (l : SRow) (v x : PyData), as = [.d (rowD l), .d v, .d x] ∧ (∀ y, x = .str y → SeqAt.shaped (.str y) = true) ∧ Judged l v x ex (R (.d .none))
theorem isInt_int {v : PyData} {lo hi : Int} (h : isInt v lo hi = true) : (∃ i, v = .int i ∧ lo ≤ i ∧ i ≤ hi) := by
  cases v with
  | int i =>
    simp only [isInt, Bool.and_eq_true, decide_eq_true_eq] at h
    exact ⟨i, rfl, h⟩
  | _ => simp [isInt] at h
theorem side_bool {v : PyData} (hs : isSide v = true) : ∃ b : Bool, v = .str (if b then "right" else "left") := by
  cases v with
  | str x =>
    simp only [isSide, Bool.or_eq_true, decide_eq_true_eq] at hs
    rcases hs with rfl | rfl
    · exact ⟨false, rfl⟩
    · exact ⟨true, rfl⟩
  | _ => cases hs
/-- a good push: a stone and a side -/
theorem good_push {l : SRow} {v x : PyData} (h1 : isInt v 0 ((l.length : Nat) - 1) = true) (h2 : isSide x = true) : ∃ (s : Nat) (b : Bool), v = .int (s : Nat) ∧ s < l.length ∧ x = .str (if b then "right" else "left") := by
  obtain ⟨i, rfl, i0, i1⟩ := isInt_int h1
  obtain ⟨b, rfl⟩ := side_bool h2
  exact ⟨i.toNat, b, by rw [Int.toNat_of_nonneg i0], by omega, rfl⟩
theorem side_bool_str (b : Bool) : isSide (.str (if b then "right" else "left")) = true := by cases b <;> decide +kernel
theorem side_bool_inj {b c : Bool} (e : PyData.str (if b then "right" else "left") = .str (if c then "right" else "left")) : c = b := by
  cases b <;> cases c <;> first | rfl | exact absurd (PyData.str.inj e) (by decide +kernel)
theorem d_check_push {f : Addr} {fd : FuncData} (T : Txt K mg) (hm : mg "check_push" = some (.ref f)) (F0 : L2.Fun K "check_push" "check_push" s_check_push f fd) (hb : Binds K fd ["row", "stone", "side"] []) (F_is_integer : DFn P w K mg base CK "is_integer" 1 0 3 mf_is_integer) (F_is_side : DFn P w K mg base CK "is_side" 1 0 1 mf_is_side) (X_NoStone : XMk P w K mg base "NoStone" "value") (X_NoSide : XMk P w K mg base "NoSide" "value") : DFn P w K mg base CK "check_push" 3 0 3 mf_check_push :=
  (dfn_of hm F0 hb sc_check_push (fun cdv A outer s H E cx =>
 (dss_cons (ds_if (dt_not (dt_val (de_call cx F_is_integer (by decide) (by rfl) (da_cons (de_pv 1) (da_cons de_int (da_cons (de_sub (de_len (by rfl) T.n_len (da_cons (de_pv 0) da_nil)) de_int) da_nil)))))) (dss_one (ds_raise1 cx X_NoStone (by decide) (by rfl) (by rfl) (da_cons (de_pv 1) da_nil))) dss_nil)
 (dss_one (ds_if (dt_not (dt_val (de_call cx F_is_side (by decide) (by rfl) (da_cons (de_pv 2) da_nil)))) (dss_one (ds_raise1 cx X_NoSide (by decide) (by rfl) (by rfl) (da_cons (de_pv 2) da_nil))) dss_nil))))
  (by
    rintro as R ex hl ⟨l, v, x, rfl, hx, h1, h2, h3⟩
    unfold rowD
    walk_at "dx"
    refine ⟨v, 0, _, rfl, ?_⟩
    rw [List.length_map]
    cases hi : isInt v 0 ((l.length : Nat) - 1) with
    | false =>
      walk_at "dx"
      exact h1 hi
    | true =>
      walk_at "dx"
      refine ⟨x, rfl, hx, ?_⟩
      cases hs : isSide x with
      | false =>
        walk_at "dx"
        exact h2 hi hs
      | true =>
        walk_at "dx"
        exact h3 hi hs)).le (by decide +kernel)
def mf_right_ends : MF := fun as R _ => ∃ l : SRow, as = [.d (rowD l)] ∧ Inc l ∧ R (.d (.list ((ends l).map natD)))
theorem d_right_ends {f : Addr} {fd : FuncData} (T : Txt K mg) (hm : mg "right_ends" = some (.ref f)) (F0 : L2.Fun K "right_ends" "right_ends" s_right_ends f fd) (hb : Binds K fd ["row"] []) : DFn P w K mg base CK "right_ends" 1 0 1 mf_right_ends :=
  (dfn_of hm F0 hb sc_right_ends (fun cdv A outer s H E cx =>
 (dss_cons (ds_set (i := 1) sc_right_ends.nd rfl (by first | exact Or.inl rfl | exact Or.inr rfl) (de_mul (de_lst (da_cons de_int da_nil)) (de_len (by rfl) T.n_len (da_cons (de_pv 0) da_nil))))
 (dss_cons (ds_for (Ctx.passes rfl) (by rfl) (di_range3 (by rfl) T.n_range (da_cons (de_sub (de_len (by rfl) T.n_len (da_cons (de_pv 0) da_nil)) de_int) (da_cons (de_neg de_int) (da_cons (de_neg de_int) da_nil)))) (dg_name (i := 2) sc_right_ends.nd rfl (by first | exact Or.inl rfl | exact Or.inr rfl)) (dss_cons (ds_set (i := 3) sc_right_ends.nd rfl (by first | exact Or.inl rfl | exact Or.inr rfl) (de_pv 2))
 (dss_cons (ds_while (Ctx.passes rfl) (DW.dt (dw_and (dt_lt (de_add (de_pv 3) de_int) (de_len (by rfl) T.n_len (da_cons (de_pv 0) da_nil))) (dw_and1 (dt_le (de_ix (de_ix (de_pv 0) (de_add (de_pv 3) de_int)) de_int) (de_add (de_ix (de_ix (de_pv 0) (de_pv 2)) de_int) (de_ix (de_ix (de_pv 0) (de_pv 2)) de_int)))))) (dss_one (ds_set (i := 3) sc_right_ends.nd rfl (by first | exact Or.inl rfl | exact Or.inr rfl) (de_ix (de_pv 1) (de_add (de_pv 3) de_int)))))
 (dss_one (ds_sto (pv 1) (de_pv 2) (de_pv 3))))))
 (dss_one (ds_ret (de_pv 1))))))
  (by
    rintro as R ex hl ⟨l, rfl, I, h⟩
    unfold rowD
    walk_at "dl"
    have hn1 := I.n1
    have hn0 := I.n0
    rw [List.length_map]
    refine ⟨by walk_at "lim", by walk_at "lim", by walk_at "lim", ?_⟩
    have hdown : ((l.length : Nat) : Int) - 1 - -1 = (l.length : Nat) := by omega
    rw [hdown]
    walk_at "dl"
    refine ⟨by walk_at "lim", by walk_at "lim", ?_⟩
    refine for_down (fun k δ => ∃ (fs : List Nat) (a b : Option DV), δ = [some (.d (.tuple (l.map stD))), some (.own (fs.map natD)), a, b] ∧ fs.length = l.length ∧ ∀ s m, l.length - k ≤ s → fs[s]? = some m → IsEnd l s m) ?_ ?_ ?_
    · refine ⟨List.replicate l.length 0, none, none, ?_, by simp, fun s m hs e => ?_⟩
      · have : (List.replicate l.length [PyData.int 0]).flatten = (List.replicate l.length 0).map natD := by
          rw [List.map_replicate]
          generalize l.length = n
          induction n with
          | zero => rfl
          | succ n ih => rw [List.replicate_succ, List.flatten_cons, ih, List.replicate_succ]; rfl
        rw [this]
      · rw [List.getElem?_replicate] at e
        split at e
        · omega
        · cases e
    · rintro δ ⟨fs, a, b, rfl, hf, hs⟩
      walk_at "dl"
      rw [AllEnds.eq I (fs := fs) ⟨hf, fun s m e => hs s m (by omega) e⟩]
      exact h
    · rintro k δ K hk ⟨fs, a, b, rfl, hf, hs⟩ hK
      walk_at "dl"
      obtain ⟨s, hs'⟩ : ∃ s : Nat, s = l.length - 1 - k := ⟨_, rfl⟩
      have es : ((l.length : Nat) : Int) - 1 - (k : Nat) = (s : Nat) := by omega
      rw [es]
      refine ⟨fun n δ => ∃ m : Nat, δ = [some (.d (.tuple (l.map stD))), some (.own (fs.map natD)), some (.d (.int (s : Nat))), some (.d (.int (m : Nat)))] ∧ Seek l s m ∧ n = l.length - m, ⟨_, s, rfl, Seek.start (by omega), rfl⟩, ?_⟩
      rintro n δ ⟨m, rfl, hsk, rfl⟩
      have hm := hsk.lt
      have fin : (m + 1 < l.length → pl l s + ht l s < pl l (m + 1)) → K [some (.d (.tuple (l.map stD))), some (.own ((fs.map natD).set s (.int (m : Nat)))), some (.d (.int (s : Nat))), some (.d (.int (m : Nat)))] := fun hq => by
        refine hK _ ⟨fs.set s m, _, _, by rw [List.map_set]; rfl, by simpa using hf, fun s' m' h1 e => ?_⟩
        rcases Nat.lt_or_ge s s' with q | q
        · rw [List.getElem?_set_ne (by omega)] at e
          exact hs s' m' (by omega) e
        · have : s' = s := by omega
          subst this
          rw [List.getElem?_set_self (by omega)] at e
          cases e
          exact hsk.done hq
      have hss : s < (fs.map natD).length := by rw [List.length_map]; omega
      walk_at "dl"
      rw [List.length_map, ixN_nat hss]
      refine if_dec (fun c1 => ?_) fun c1 => ?_
      · have hm1 : m + 1 < l.length := by omega
        rw [atI_row (m + 1) (by omega) hm1, atI_row s rfl (by omega)]
        walk_at "dl"
        refine if_dec (fun c2 => ?_) fun c2 => fin fun _ => by omega
        obtain ⟨e, he⟩ : ∃ e, fs[m + 1]? = some e := ⟨_, List.getElem?_eq_getElem (by omega)⟩
        rw [atI_map (m + 1) (by omega) he]
        have hE := hs (m + 1) e (by have := hsk.le; omega) he
        exact ⟨l.length - e, by have := hE.le; have := hE.lt; omega, e, rfl, hsk.step I c2 hE, rfl⟩
      · walk_at "dl"
        exact fin fun hq => absurd hq (by omega))).le (by decide +kernel)
def mf_mirrored : MF := fun as R _ => ∃ l : SRow, as = [.d (rowD l)] ∧ 0 < l.length ∧ l.length ≤ 2000 ∧ R (.d (rowD (mirror l)))
theorem d_mirrored {f : Addr} {fd : FuncData} (T : Txt K mg) (hm : mg "mirrored" = some (.ref f)) (F0 : L2.Fun K "mirrored" "mirrored" s_mirrored f fd) (hb : Binds K fd ["row"] []) : DFn P w K mg base CK "mirrored" 1 0 1 mf_mirrored :=
  (dfn_of hm F0 hb sc_mirrored (fun cdv A outer s H E cx =>
 (dss_cons (ds_set (i := 1) sc_mirrored.nd rfl (by first | exact Or.inl rfl | exact Or.inr rfl) (de_add (de_ix (de_ix (de_pv 0) de_int) de_int) (de_ix (de_ix (de_pv 0) (de_neg de_int)) de_int)))
 (dss_one (ds_ret (de_tupleC (by rfl) T.n_tuple (da_cons (de_lc (own := [("place", 2), ("height", 3)]) (dom := [2, 3]) (by rfl) sc_mirrored.nd (di_tup (de_back (de_pv 0))) (blkOk_by (by kernel_rfl)) (by decide) (fun _ _ _ _ _ => (dg_tup (by rfl) (dgs_cons (dg_name (i := 2) sc_mirrored.nd rfl (by first | exact Or.inl rfl | exact Or.inr rfl)) (dgs_cons (dg_name (i := 3) sc_mirrored.nd rfl (by first | exact Or.inl rfl | exact Or.inr rfl)) dgs_nil)))) (fun _ _ _ _ _ => dts_nil) (fun _ _ _ _ _ => (de_tup (da_cons (de_sub (de_pv 1) (de_pv 2)) (da_cons (de_pv 3) da_nil))))) da_nil))))))
  (by
    rintro as R ex hl ⟨l, rfl, hn0, hn1, h⟩
    unfold rowD
    walk_at "dl"
    have hlast : l[l.length - 1]? = some (pl l (l.length - 1), ht l (l.length - 1)) := by
      unfold pl ht
      rw [List.getD_eq_getElem?_getD, List.getElem?_eq_getElem (by omega)]
      rfl
    rw [atI_row (i := 0) 0 rfl (by omega), atI_end hlast]
    unfold stD
    walk_at "dl"
    refine lc_ind (fun d => match d with
      | .tuple [.int a, .int b] => some (stD (pl l 0 + pl l (l.length - 1) - a, b))
      | _ => none) _ _ (fun d hd K1 K0 h1 h0 => ?_) (by walk_at "lim") ?_
    · obtain ⟨p, hp, rfl⟩ := List.mem_map.mp (List.mem_reverse.mp hd)
      walk_at "dl"
      refine ⟨by decide, ?_⟩
      exact h1 _ rfl
    · walk_at "dl"
      have e : ((l.map fun p => PyData.tuple [.int p.1, .int p.2]).reverse.filterMap fun d => match d with
          | .tuple [.int a, .int b] => some (stD (pl l 0 + pl l (l.length - 1) - a, b))
          | _ => none) = (mirror l).map stD := by
        unfold mirror
        rw [← List.map_reverse, List.filterMap_map, List.map_map]
        generalize l.reverse = r
        induction r with
        | nil => rfl
        | cons a r ih => simp only [List.filterMap_cons, List.map_cons, Function.comp] at ih ⊢; rw [ih]
      rw [e]
      exact h)).le (by decide +kernel)
def movL (l : SRow) (b : Int) : SRow := l.map fun p => (p.1 + b, p.2)
def repL (l : SRow) (per : Int) : Nat → SRow
  | 0 => []
  | n + 1 => repL l per n ++ movL l (n * per)
theorem rep_len (l : SRow) (per : Int) (n : Nat) : (repL l per n).length = n * l.length := by
  induction n with
  | zero => simp [repL]
  | succ n ih => rw [repL, List.length_append, ih, movL, List.length_map, Nat.succ_mul]
def mf_repeated : MF := fun as R _ => ∃ (l : SRow) (per : Int) (n : Nat), as = [.d (rowD l), .d (.int per), .d (.int (n : Nat))] ∧ n * l.length ≤ 100000 ∧ n ≤ 100000 ∧ l.length ≤ 1000 ∧ 0 ≤ per ∧ per ≤ 100000000000000 ∧ R (.d (rowD (repL l per n)))
theorem d_repeated {f : Addr} {fd : FuncData} (T : Txt K mg) (hm : mg "repeated" = some (.ref f)) (F0 : L2.Fun K "repeated" "repeated" s_repeated f fd) (hb : Binds K fd ["row", "period", "times"] []) : DFn P w K mg base CK "repeated" 1 0 3 mf_repeated :=
  (dfn_of hm F0 hb sc_repeated (fun cdv A outer s H E cx =>
 (dss_cons (ds_set (i := 3) sc_repeated.nd rfl (by first | exact Or.inl rfl | exact Or.inr rfl) (de_lst da_nil))
 (dss_cons (ds_for (Ctx.passes rfl) (by rfl) (di_range1 (by rfl) T.n_range (da_cons (de_pv 2) da_nil)) (dg_name (i := 4) sc_repeated.nd rfl (by first | exact Or.inl rfl | exact Or.inr rfl)) (dss_one (ds_mut PySem.F.slot_list_extend PySem.F.type_list_extend mt_extend mut_ext (pv 3) (da_cons (de_lc (own := [("place", 5), ("height", 6)]) (dom := [5, 6]) (by rfl) sc_repeated.nd (di_tup (de_pv 0)) (blkOk_by (by kernel_rfl)) (by decide) (fun _ _ _ _ _ => (dg_tup (by rfl) (dgs_cons (dg_name (i := 5) sc_repeated.nd rfl (by first | exact Or.inl rfl | exact Or.inr rfl)) (dgs_cons (dg_name (i := 6) sc_repeated.nd rfl (by first | exact Or.inl rfl | exact Or.inr rfl)) dgs_nil)))) (fun _ _ _ _ _ => dts_nil) (fun _ _ _ _ _ => (de_tup (da_cons (de_add (de_pv 5) (de_mul (de_pv 4) (de_pv 1))) (da_cons (de_pv 6) da_nil))))) da_nil))))
 (dss_one (ds_ret (de_tupleC (by rfl) T.n_tuple (da_cons (de_pv 3) da_nil)))))))
  (by
    rintro as R ex hl ⟨l, per, n, rfl, hn, hn1, hn2, hp0, hp1, h⟩
    walk_at "dx"
    refine ⟨by walk_at "lim", by walk_at "lim", by walk_at "lim", ?_⟩
    refine for_range (fun k δ => ∃ a4 a5 a6, δ = [some (.d (rowD l)), some (.d (.int per)), some (.d (.int (n : Nat))), some (.own ((repL l per k).map stD)), a4, a5, a6]) ⟨_, _, _, rfl⟩ ?_ ?_
    · rintro δ ⟨a4, a5, a6, rfl⟩
      walk_at "dx"
      exact h
    · rintro k δ K hk ⟨a4, a5, a6, rfl⟩ hK
      unfold rowD
      walk_at "dx"
      have hkm : CMul (k : Int) per := .inl ⟨by omega, by omega⟩
      refine lc_ind (fun d => match d with
        | .tuple [.int a, .int b] => some (stD (a + (k : Int) * per, b))
        | _ => none) _ _ (fun d hd K1 K0 k1 k0 => ?_) (by walk_at "lim") ?_
      · obtain ⟨p, hp, rfl⟩ := List.mem_map.mp hd
        rw [show stD p = .tuple [.int p.1, .int p.2] from rfl] at k1 ⊢
        walk_at "dx"
        exact ⟨hkm, by walk_at "lim", k1 _ rfl⟩
      · have e : ((l.map stD).filterMap fun d => match d with
            | .tuple [.int a, .int b] => some (stD (a + (k : Int) * per, b))
            | _ => none) = (movL l (k * per)).map stD := by
          unfold movL
          rw [List.filterMap_map, List.map_map]
          generalize l = m
          induction m with
          | nil => rfl
          | cons a m ih => simp only [List.filterMap_cons, List.map_cons, Function.comp, stD] at ih ⊢; rw [ih]
        rw [List.nil_append, e]
        walk_at "dx"
        have hl2 : ((repL l per k).map stD).length + ((movL l (k * per)).map stD).length ≤ sizeLine := by
          rw [List.length_map, List.length_map, rep_len, movL, List.length_map, sizeLine_eq]
          have : (k + 1) * l.length ≤ n * l.length := Nat.mul_le_mul_right _ (by omega)
          rw [Nat.succ_mul] at this
          omega
        rw [if_pos hl2, ← List.map_append]
        exact hK _ ⟨_, _, _, rfl⟩)).le (by decide +kernel)
/-- a row with a period -/
structure Per (l : SRow) (per : Int) : Prop where
  i : Inc l
  n : l.length ≤ 64
  sp : pl l (l.length - 1) - pl l 0 < per
  h : ∀ i, i < l.length → ht l i < per
  p1 : per ≤ 100000000000000
theorem Per.pos {l : SRow} {per : Int} (Pd : Per l per) : 0 < per := by
  have := Pd.h 0 Pd.i.n0
  have := Pd.i.hp 0 Pd.i.n0
  omega
theorem rep_at {l : SRow} {per : Int} : ∀ {K i : Nat}, i < K * l.length → pl (repL l per K) i = pl l (i % l.length) + (i / l.length : Nat) * per ∧ ht (repL l per K) i = ht l (i % l.length)
  | 0, i, h => by simp at h
  | K + 1, i, h => by
    rw [Nat.succ_mul] at h
    have hn : 0 < l.length := by
      rcases Nat.eq_zero_or_pos l.length with q | q
      · rw [q] at h; simp at h
      · exact q
    rcases Nat.lt_or_ge i (K * l.length) with q | q
    · have h1 := rep_at (l := l) (per := per) q
      have e : (repL l per (K + 1))[i]? = (repL l per K)[i]? := by
        rw [repL, List.getElem?_append_left (by rw [rep_len]; exact q)]
      have e1 : pl (repL l per (K + 1)) i = pl (repL l per K) i := by unfold pl; rw [List.getD_eq_getElem?_getD, List.getD_eq_getElem?_getD, e]
      have e2 : ht (repL l per (K + 1)) i = ht (repL l per K) i := by unfold ht; rw [List.getD_eq_getElem?_getD, List.getD_eq_getElem?_getD, e]
      rw [e1, e2]
      exact h1
    · obtain ⟨t, rfl⟩ : ∃ t, i = K * l.length + t := ⟨i - K * l.length, by omega⟩
      have ht' : t < l.length := by omega
      have e : (repL l per (K + 1))[K * l.length + t]? = some (pl l t + K * per, ht l t) := by
        rw [repL, List.getElem?_append_right (by rw [rep_len]; omega), rep_len, Nat.add_sub_cancel_left]
        unfold movL
        rw [List.getElem?_map, row_get ht']
        rfl
      have e1 : (K * l.length + t) % l.length = t := by rw [Nat.mul_comm, Nat.mul_add_mod, Nat.mod_eq_of_lt ht']
      have e2 : (K * l.length + t) / l.length = K := by rw [Nat.mul_comm, Nat.mul_add_div hn, Nat.div_eq_of_lt ht', Nat.add_zero]
      rw [e1, e2]
      unfold pl ht
      rw [List.getD_eq_getElem?_getD, e]
      exact ⟨rfl, rfl⟩
section
variable {l : SRow} {per : Int} (Pd : Per l per) {K k i j s d e : Nat}
include Pd
theorem rep_inc (hK : 0 < K) (hK2 : K * l.length ≤ 2000) : Inc (repL l per K) := by
  have hn := Pd.i.n0
  have pos := Pd.pos
  refine ⟨by rw [rep_len]; exact Nat.mul_pos hK hn, by rw [rep_len]; exact hK2, fun i j hij hj => ?_, fun i hi => ?_⟩
  · rw [rep_len] at hj
    rw [(rep_at (show i < K * l.length by omega)).1, (rep_at hj).1]
    have hi1 := Nat.mod_lt i hn
    have hj1 := Nat.mod_lt j hn
    have hle : i / l.length ≤ j / l.length := Nat.div_le_div_right (by omega)
    rcases Nat.lt_or_ge (i / l.length) (j / l.length) with q | q
    · have h1 := Pd.i.le_end hi1
      have h2 := Pd.i.ge0 hj1
      have h3 := Pd.sp
      have h4 : ((i / l.length : Nat) : Int) * per + per ≤ ((j / l.length : Nat) : Int) * per := by
        have : (((i / l.length : Nat) : Int) + 1) * per ≤ ((j / l.length : Nat) : Int) * per := Int.mul_le_mul_of_nonneg_right (by omega) (by omega)
        rw [Int.add_mul, Int.one_mul] at this
        exact this
      omega
    · have e : i / l.length = j / l.length := by omega
      have h1 := Nat.div_add_mod i l.length
      have h2 := Nat.div_add_mod j l.length
      rw [e] at h1 ⊢
      have := Pd.i.inc (i % l.length) (j % l.length) (by omega) hj1
      omega
  · rw [rep_len] at hi
    rw [(rep_at hi).2]
    exact Pd.i.hp _ (Nat.mod_lt i hn)
theorem rep_shift (h : i + d * l.length < K * l.length) (h2 : i < k * l.length) : pl (repL l per K) (i + d * l.length) = pl (repL l per k) i + d * per ∧ ht (repL l per K) (i + d * l.length) = ht (repL l per k) i := by
  have hn := Pd.i.n0
  have e1 : (i + d * l.length) % l.length = i % l.length := Nat.add_mul_mod_self_right _ _ _
  have e2 : (i + d * l.length) / l.length = i / l.length + d := Nat.add_mul_div_right _ _ hn
  rw [(rep_at h).1, (rep_at h).2, (rep_at h2).1, (rep_at h2).2, e1, e2]
  refine ⟨?_, rfl⟩
  push_cast
  rw [Int.add_mul]
  omega
theorem rep_pre (h : i < k * l.length) (hk : k ≤ K) : pl (repL l per K) i = pl (repL l per k) i ∧ ht (repL l per K) i = ht (repL l per k) i := by
  have h2 : i < K * l.length := Nat.lt_of_lt_of_le h (Nat.mul_le_mul_right _ hk)
  rw [(rep_at h).1, (rep_at h).2, (rep_at h2).1, (rep_at h2).2]
  exact ⟨rfl, rfl⟩
/-- an end inside of the first copies is the end of more copies, too -/
theorem end_pre (hK2 : K * l.length ≤ 2000) (hk : k ≤ K) (hs : s < k * l.length) (he : IsEnd (repL l per k) s e) (h1 : e + 1 < k * l.length) : endOf (repL l per K) s = e := by
  have hK : 0 < K := by
    rcases Nat.eq_zero_or_pos K with q | q
    · subst q; have : k = 0 := by omega
      subst this; simp at hs
    · exact q
  have hle : k * l.length ≤ K * l.length := Nat.mul_le_mul_right _ hk
  refine end_of (rep_inc Pd hK hK2) ⟨he.le, by rw [rep_len]; omega, fun j j0 j1 => ?_, fun _ k' k0 k1 => ?_⟩
  · obtain ⟨k', a, b, c⟩ := he.ch j j0 j1
    refine ⟨k', a, b, ?_⟩
    rw [(rep_pre Pd (show j < k * l.length by omega) hk).1, (rep_pre Pd (show k' < k * l.length by omega) hk).1, (rep_pre Pd (show k' < k * l.length by omega) hk).2]
    exact c
  · rw [(rep_pre Pd h1 hk).1, (rep_pre Pd (show k' < k * l.length by omega) hk).1, (rep_pre Pd (show k' < k * l.length by omega) hk).2]
    exact he.st (by rw [rep_len]; exact h1) k' k0 k1
/-- a fall that comes to the fourth copy goes on to the end -/
theorem end_on (hK : 4 ≤ K) (hK2 : K * l.length ≤ 2000) (hs : s < l.length) (he : IsEnd (repL l per 4) s e) (h3 : 3 * l.length ≤ e) : endOf (repL l per K) s = K * l.length - 1 := by
  have hn := Pd.i.n0
  have hKn : 4 * l.length ≤ K * l.length := Nat.mul_le_mul_right _ hK
  have pos := Pd.pos
  refine end_of (rep_inc Pd (by omega) hK2) ⟨by omega, by rw [rep_len]; omega, fun j j0 j1 => ?_, fun h => by rw [rep_len] at h; omega⟩
  rcases Nat.lt_or_ge (3 * l.length) j with q | q
  · obtain ⟨d, hd⟩ : ∃ d, d = (j - 2 * l.length - 1) / l.length := ⟨_, rfl⟩
    have hdm := Nat.div_add_mod (j - 2 * l.length - 1) l.length
    have hml := Nat.mod_lt (j - 2 * l.length - 1) hn
    rw [← hd, Nat.mul_comm] at hdm
    obtain ⟨j', hj'⟩ : ∃ j', j = j' + d * l.length := ⟨j - d * l.length, by omega⟩
    have b1 : 2 * l.length < j' := by omega
    have b2 : j' ≤ 3 * l.length := by omega
    obtain ⟨k', k0, k1, k2⟩ := he.ch j' (by omega) (by omega)
    have hj4 : j' < 4 * l.length := by omega
    have hk4 : k' < 4 * l.length := by omega
    have kn : l.length ≤ k' := by
      rcases Nat.lt_or_ge k' l.length with z | z
      · rw [(rep_at hj4).1, (rep_at hk4).1, (rep_at hk4).2, Nat.mod_eq_of_lt z, Nat.div_eq_of_lt z] at k2
        have a1 := Pd.i.le_end z
        have a2 := Pd.i.ge0 (Nat.mod_lt j' hn)
        have a3 := Pd.sp
        have a4 := Pd.h k' z
        have a5 : 2 ≤ j' / l.length := (Nat.le_div_iff_mul_le hn).mpr (by omega)
        have a6 : (2 : Int) * per ≤ ((j' / l.length : Nat) : Int) * per := Int.mul_le_mul_of_nonneg_right (by omega) (by omega)
        omega
      · exact z
    refine ⟨k' + d * l.length, by omega, by omega, ?_⟩
    rw [hj', (rep_shift Pd (by omega) hj4).1, (rep_shift Pd (by omega) hk4).1, (rep_shift Pd (by omega) hk4).2]
    omega
  · obtain ⟨k', k0, k1, k2⟩ := he.ch j j0 (by omega)
    refine ⟨k', k0, k1, ?_⟩
    rw [(rep_pre Pd (show j < 4 * l.length by omega) hK).1, (rep_pre Pd (show k' < 4 * l.length by omega) hK).1, (rep_pre Pd (show k' < 4 * l.length by omega) hK).2]
    exact k2
/-- a fall from a later copy -/
theorem end_later (hi : i < K) (hK2 : K * l.length ≤ 2000) (hs : s < l.length) : endOf (repL l per K) (s + i * l.length) = endOf (repL l per (K - i)) s + i * l.length := by
  have hn := Pd.i.n0
  obtain ⟨m, rfl⟩ : ∃ m, K = m + i := ⟨K - i, by omega⟩
  rw [Nat.add_sub_cancel]
  have hm : 0 < m := by omega
  have hmn : 1 * l.length ≤ m * l.length := Nat.mul_le_mul_right _ hm
  have hsum : (m + i) * l.length = m * l.length + i * l.length := Nat.add_mul _ _ _
  have he := endOf_ok (rep_inc Pd hm (by omega)) (s := s) (by rw [rep_len]; omega)
  have hlt := he.lt
  rw [rep_len] at hlt
  refine end_of (rep_inc Pd (by omega) hK2) ⟨by have := he.le; omega, by rw [rep_len]; omega, fun j j0 j1 => ?_, fun h k k0 k1 => ?_⟩
  · obtain ⟨j', rfl⟩ : ∃ j', j = j' + i * l.length := ⟨j - i * l.length, by omega⟩
    obtain ⟨k, a, b, c⟩ := he.ch j' (by omega) (by omega)
    refine ⟨k + i * l.length, by omega, by omega, ?_⟩
    rw [(rep_shift Pd (by omega) (show j' < m * l.length by omega)).1, (rep_shift Pd (by omega) (show k < m * l.length by omega)).1, (rep_shift Pd (by omega) (show k < m * l.length by omega)).2]
    omega
  · rw [rep_len] at h
    obtain ⟨k', rfl⟩ : ∃ k', k = k' + i * l.length := ⟨k - i * l.length, by omega⟩
    have := he.st (by rw [rep_len]; omega) k' (by omega) (by omega)
    rw [show endOf (repL l per m) s + i * l.length + 1 = (endOf (repL l per m) s + 1) + i * l.length by omega]
    rw [(rep_shift Pd (by omega) (show endOf (repL l per m) s + 1 < m * l.length by omega)).1, (rep_shift Pd (by omega) (show k' < m * l.length by omega)).1, (rep_shift Pd (by omega) (show k' < m * l.length by omega)).2]
    omega
end
/-- (copy, stone) of the last stone that a push of the stone s of the copy i of t fells -/
noncomputable def eR (l : SRow) (per : Int) (t i s : Nat) : Int × Int :=
  if 3 * l.length ≤ endOf (repL l per (min 4 (t - i))) s then (((t - 1 : Nat) : Int), ((l.length - 1 : Nat) : Int)) else (((i + endOf (repL l per (min 4 (t - i))) s / l.length : Nat) : Int), ((endOf (repL l per (min 4 (t - i))) s % l.length : Nat) : Int))
/-- of m copies by all of them -/
theorem eR_all {l : SRow} {per : Int} (Pd : Per l per) {t i s : Nat} (hi : i < t) (hs : s < l.length) (h2 : (t - i) * l.length ≤ 2000) : eR l per t i s = (((i + endOf (repL l per (t - i)) s / l.length : Nat) : Int), ((endOf (repL l per (t - i)) s % l.length : Nat) : Int)) := by
  have hn := Pd.i.n0
  obtain ⟨m, rfl⟩ : ∃ m, t = i + m := ⟨t - i, by omega⟩
  rw [Nat.add_sub_cancel_left] at h2 ⊢
  unfold eR
  rw [Nat.add_sub_cancel_left]
  have last : ∀ m, 0 < m → (m * l.length - 1) / l.length = m - 1 ∧ (m * l.length - 1) % l.length = l.length - 1 := fun m hm => by
    obtain ⟨m', rfl⟩ : ∃ m', m = m' + 1 := ⟨m - 1, by omega⟩
    have e : (m' + 1) * l.length - 1 = (l.length - 1) + m' * l.length := by rw [Nat.add_mul]; omega
    rw [e, Nat.add_mul_div_right _ _ hn, Nat.add_mul_mod_self_right, Nat.div_eq_of_lt (by omega), Nat.mod_eq_of_lt (by omega)]
    omega
  rcases Nat.lt_or_ge m 4 with q | q
  · rw [Nat.min_eq_right (by omega)]
    have he := (endOf_ok (rep_inc Pd (K := m) (by omega) h2) (s := s) (by rw [rep_len]; have : 1 * l.length ≤ m * l.length := Nat.mul_le_mul_right _ (by omega); omega)).lt
    rw [rep_len] at he
    have : m * l.length ≤ 3 * l.length := Nat.mul_le_mul_right _ (by omega)
    rw [if_neg (by omega)]
  · rw [Nat.min_eq_left q]
    have h4 : 4 * l.length ≤ m * l.length := Nat.mul_le_mul_right _ q
    have he := endOf_ok (rep_inc Pd (K := 4) (by omega) (by omega)) (s := s) (by rw [rep_len]; omega)
    by_cases c : 3 * l.length ≤ endOf (repL l per 4) s
    · rw [if_pos c, end_on Pd q h2 hs he c, (last m (by omega)).1, (last m (by omega)).2]
      congr 2
      omega
    · rw [if_neg c, end_pre Pd h2 q (by omega) he (by omega)]
/-- of many copies by the first seven -/
theorem eR_seven {l : SRow} {per : Int} (Pd : Per l per) {t i s : Nat} (hi : i + 7 ≤ t) (hs : s < l.length) : (6 * l.length ≤ endOf (repL l per 7) s → eR l per t i s = (((t - 1 : Nat) : Int), ((l.length - 1 : Nat) : Int))) ∧ (¬ 6 * l.length ≤ endOf (repL l per 7) s → eR l per t i s = (((i + endOf (repL l per 7) s / l.length : Nat) : Int), ((endOf (repL l per 7) s % l.length : Nat) : Int))) := by
  have hn := Pd.i.n0
  have hn64 := Pd.n
  unfold eR
  rw [Nat.min_eq_left (by omega)]
  have he := endOf_ok (rep_inc Pd (K := 4) (by omega) (by omega)) (s := s) (by rw [rep_len]; omega)
  by_cases c : 3 * l.length ≤ endOf (repL l per 4) s
  · rw [if_pos c]
    have h7 := end_on Pd (K := 7) (by omega) (by omega) hs he c
    exact ⟨fun _ => rfl, fun z => absurd (by rw [h7]; omega) z⟩
  · rw [if_neg c]
    have h7 := end_pre Pd (K := 7) (by omega) (by omega) (by omega) he (by omega)
    rw [h7]
    exact ⟨fun z => absurd z (by omega), fun _ => rfl⟩
def mf_end_to_right : MF := fun as R _ => ∃ (l : SRow) (per : Int) (t i s : Nat), as = [.d (rowD l), .d (.int per), .d (.int (t : Nat)), .d (.int (i : Nat)), .d (.int (s : Nat))] ∧ Per l per ∧ i < t ∧ s < l.length ∧ R (.d (stD (eR l per t i s)))
theorem d_end_to_right {f : Addr} {fd : FuncData} (T : Txt K mg) (hm : mg "end_to_right" = some (.ref f)) (F0 : L2.Fun K "end_to_right" "end_to_right" s_end_to_right f fd) (hb : Binds K fd ["row", "period", "times", "index", "stone"] []) (F_right_ends : DFn P w K mg base CK "right_ends" 1 0 1 mf_right_ends) (F_repeated : DFn P w K mg base CK "repeated" 1 0 3 mf_repeated) : DFn P w K mg base CK "end_to_right" 2 0 5 mf_end_to_right :=
  (dfn_of hm F0 hb sc_end_to_right (fun cdv A outer s H E cx =>
 (dss_cons (ds_par2 (i := 5) (j := 6) (by rfl) sc_end_to_right.nd rfl rfl (by decide) rfl rfl (da_cons (de_len (by rfl) T.n_len (da_cons (de_pv 0) da_nil)) (da_cons (de_min2 (by rfl) (by rfl) T.n_min (da_cons de_int (da_cons (de_sub (de_pv 2) (de_pv 3)) da_nil))) da_nil)) (by rfl))
 (dss_cons (ds_set (i := 7) sc_end_to_right.nd rfl (by first | exact Or.inl rfl | exact Or.inr rfl) (de_ix (de_call cx F_right_ends (by decide) (by rfl) (da_cons (de_call cx F_repeated (by decide) (by rfl) (da_cons (de_pv 0) (da_cons (de_pv 1) (da_cons (de_pv 6) da_nil)))) da_nil)) (de_pv 4)))
 (dss_cons (ds_if (dt_ge (de_pv 7) (de_mul de_int (de_pv 5))) (dss_one (ds_ret (de_tup (da_cons (de_sub (de_pv 2) de_int) (da_cons (de_sub (de_pv 5) de_int) da_nil))))) dss_nil)
 (dss_one (ds_ret (de_tup (da_cons (de_add (de_pv 3) (de_div (de_pv 7) (de_pv 5))) (da_cons (de_mod (de_pv 7) (de_pv 5)) da_nil)))))))))
  (by
    rintro as R ex hl ⟨l, per, t, i, s, rfl, P, hi, hs, k⟩
    have hn0 := P.i.n0
    have hn1 := P.n
    have pos := P.pos
    have hp1 := P.p1
    have hlen : oLen (.d (rowD l)) = fun R => R (.d (.int (l.length : Nat))) := by
      unfold rowD
      funext R
      walk_at "dx"
      rw [List.length_map]
    walk_at "dx"
    rw [hlen]
    walk_at "dx"
    obtain ⟨m, hm⟩ : ∃ m, m = min 4 (t - i) := ⟨_, rfl⟩
    have e1 : (if ((t : Nat) : Int) - (i : Nat) < 4 then ((t : Nat) : Int) - (i : Nat) else 4) = (m : Nat) := by split <;> omega
    have hmn : m * l.length ≤ 4 * l.length := Nat.mul_le_mul_right _ (by omega)
    have hmn1 : 1 * l.length ≤ m * l.length := Nat.mul_le_mul_right _ (by omega)
    have I := rep_inc P (K := m) (by omega) (by omega)
    have hsl : s < (repL l per m).length := by rw [rep_len]; omega
    rw [e1]
    refine ⟨l, per, m, rfl, by omega, by omega, by omega, by omega, hp1, ?_⟩
    walk_at "dx"
    refine ⟨_, rfl, I, ?_⟩
    walk_at "dx"
    rw [show atI ((ends (repL l per m)).map natD) (s : Nat) = some (.int (endOf (repL l per m) s : Nat)) from atI_map (f := natD) s rfl (ends_get hsl)]
    walk_at "dx"
    unfold eR at k
    rw [← hm] at k
    refine ⟨.inl ⟨by decide, by decide⟩, fun c => ?_, fun c => ?_⟩
    · rw [if_pos (by omega)] at k
      unfold stD at k
      rw [show ((t : Nat) : Int) - 1 = ((t - 1 : Nat) : Int) by omega, show ((l.length : Nat) : Int) - 1 = ((l.length - 1 : Nat) : Int) by omega]
      exact ⟨by walk_at "lim", k⟩
    · rw [if_neg (by omega)] at k
      unfold stD at k
      refine ⟨cdiv (by omega) (by omega), by omega, ?_⟩
      push_cast at k
      exact ⟨by walk_at "lim", k⟩)).le (by decide +kernel)
def noIndex (v : PyData) : DExc := ⟨"NoIndex", some ("index", v)⟩
noncomputable def csD (l : SRow) (per : Int) (t i s : Nat) (b : Bool) : PyData :=
  if b then .tuple [stD (((i : Nat) : Int), ((s : Nat) : Int)), stD (eR l per t i s)]
  else .tuple [stD (((t : Nat) : Int) - 1 - (eR (mirror l) per t (t - 1 - i) (l.length - 1 - s)).1, ((l.length : Nat) : Int) - 1 - (eR (mirror l) per t (t - 1 - i) (l.length - 1 - s)).2), stD (((i : Nat) : Int), ((s : Nat) : Int))]
theorem Per.mirror {l : SRow} {per : Int} (Pd : Per l per) : Per (mirror l) per := by
  have hn := Pd.i.n0
  refine ⟨Pd.i.mirror, by rw [mirror_len]; exact Pd.n, ?_, fun i hi => ?_, Pd.p1⟩
  · rw [mirror_len, mirror_pl (by omega), mirror_pl hn]
    have := Pd.sp
    rw [show l.length - 1 - (l.length - 1) = 0 by omega, Nat.sub_zero]
    omega
  · rw [mirror_len] at hi
    rw [mirror_ht hi]
    exact Pd.h _ (by omega)
def mf_copies_stretch : MF := fun as R ex => ∃ (l : SRow) (per : Int) (t : Nat) (v x y : PyData), as = [.d (rowD l), .d (.int per), .d (.int (t : Nat)), .d v, .d x, .d y] ∧ Per l per ∧ (∀ z, y = .str z → SeqAt.shaped (.str z) = true) ∧
  (isInt v 0 ((t : Nat) - 1) = false → ex (noIndex v)) ∧ (isInt v 0 ((t : Nat) - 1) = true → isInt x 0 ((l.length : Nat) - 1) = false → ex (noStoneP x)) ∧ (isInt v 0 ((t : Nat) - 1) = true → isInt x 0 ((l.length : Nat) - 1) = true → isSide y = false → ex (noSideP y)) ∧
  (∀ (i s : Nat) (b : Bool), v = .int (i : Nat) → x = .int (s : Nat) → i < t → s < l.length → y = .str (if b then "right" else "left") → R (.d (csD l per t i s b)))
theorem d_copies_stretch {f : Addr} {fd : FuncData} (T : Txt K mg) (hm : mg "copies_stretch" = some (.ref f)) (F0 : L2.Fun K "copies_stretch" "copies_stretch" s_copies_stretch f fd) (hb : Binds K fd ["row", "period", "times", "index", "stone", "side"] []) (F_check_push : DFn P w K mg base CK "check_push" 3 0 3 mf_check_push) (F_end_to_right : DFn P w K mg base CK "end_to_right" 2 0 5 mf_end_to_right) (F_is_integer : DFn P w K mg base CK "is_integer" 1 0 3 mf_is_integer) (F_mirrored : DFn P w K mg base CK "mirrored" 1 0 1 mf_mirrored) (X_NoIndex : XMk P w K mg base "NoIndex" "index") : DFn P w K mg base CK "copies_stretch" 4 0 6 mf_copies_stretch :=
  (dfn_of hm F0 hb sc_copies_stretch (fun cdv A outer s H E cx =>
 (dss_cons (ds_if (dt_not (dt_val (de_call cx F_is_integer (by decide) (by rfl) (da_cons (de_pv 3) (da_cons de_int (da_cons (de_sub (de_pv 2) de_int) da_nil)))))) (dss_one (ds_raise1 cx X_NoIndex (by decide) (by rfl) (by rfl) (da_cons (de_pv 3) da_nil))) dss_nil)
 (dss_cons (ds_expr (de_call cx F_check_push (by decide) (by rfl) (da_cons (de_pv 0) (da_cons (de_pv 4) (da_cons (de_pv 5) da_nil)))))
 (dss_cons (ds_if (dt_eq cx.u (de_pv 5) (de_gs (by rfl) T.c_RIGHT)) (dss_one (ds_ret (de_tup (da_cons (de_tup (da_cons (de_pv 3) (da_cons (de_pv 4) da_nil))) (da_cons (de_call cx F_end_to_right (by decide) (by rfl) (da_cons (de_pv 0) (da_cons (de_pv 1) (da_cons (de_pv 2) (da_cons (de_pv 3) (da_cons (de_pv 4) da_nil)))))) da_nil))))) dss_nil)
 (dss_cons (ds_asg (de_call cx F_end_to_right (by decide) (by rfl) (da_cons (de_call cx F_mirrored (by decide) (by rfl) (da_cons (de_pv 0) da_nil)) (da_cons (de_pv 1) (da_cons (de_pv 2) (da_cons (de_sub (de_sub (de_pv 2) de_int) (de_pv 3)) (da_cons (de_sub (de_sub (de_len (by rfl) T.n_len (da_cons (de_pv 0) da_nil)) de_int) (de_pv 4)) da_nil)))))) (dg_tup (by rfl) (dgs_cons (dg_name (i := 6) sc_copies_stretch.nd rfl (by first | exact Or.inl rfl | exact Or.inr rfl)) (dgs_cons (dg_name (i := 7) sc_copies_stretch.nd rfl (by first | exact Or.inl rfl | exact Or.inr rfl)) dgs_nil))))
 (dss_one (ds_ret (de_tup (da_cons (de_tup (da_cons (de_sub (de_sub (de_pv 2) de_int) (de_pv 6)) (da_cons (de_sub (de_sub (de_len (by rfl) T.n_len (da_cons (de_pv 0) da_nil)) de_int) (de_pv 7)) da_nil))) (da_cons (de_tup (da_cons (de_pv 3) (da_cons (de_pv 4) da_nil))) da_nil))))))))))
  (by
    rintro as R ex hl ⟨l, per, t, v, x, y, rfl, P, hy, k1, k2, k3, k4⟩
    have hn0 := P.i.n0
    have hn1 := P.n
    have hlen : oLen (.d (rowD l)) = fun R => R (.d (.int (l.length : Nat))) := by
      unfold rowD
      funext R
      walk_at "dx"
      rw [List.length_map]
    walk_at "dx"
    refine ⟨v, 0, _, rfl, ?_⟩
    cases hv : isInt v 0 ((t : Nat) - 1) with
    | false =>
      walk_at "dx"
      exact k1 hv
    | true =>
      walk_at "dx"
      refine ⟨l, x, y, rfl, hy, k2 hv, k3 hv, fun hx hs => ?_⟩
      obtain ⟨s, b, rfl, hs', rfl⟩ := good_push hx hs
      obtain ⟨i', rfl, i0, i1⟩ := isInt_int hv
      obtain ⟨i, rfl⟩ : ∃ i : Nat, i' = (i : Nat) := ⟨i'.toNat, by omega⟩
      have hi : i < t := by omega
      have k := k4 i s b rfl rfl hi hs' rfl
      unfold csD at k
      cases b with
      | true =>
        rw [if_pos rfl] at k
        unfold stD at k
        walk_at "dx"
        refine ⟨by walk_at "lim", l, per, t, i, s, rfl, P, hi, hs', ?_⟩
        unfold stD
        walk_at "dx"
        exact ⟨by walk_at "lim", k⟩
      | false =>
        rw [if_neg (by decide)] at k
        unfold stD at k
        rw [hlen]
        walk_at "dx"
        refine ⟨l, rfl, hn0, by omega, ?_⟩
        walk_at "dx"
        refine ⟨mirror l, per, t, t - 1 - i, l.length - 1 - s, ?_, P.mirror, by omega, by rw [mirror_len]; omega, ?_⟩
        · rw [show ((t : Nat) : Int) - 1 - (i : Nat) = ((t - 1 - i : Nat) : Int) by omega, show ((l.length : Nat) : Int) - 1 - (s : Nat) = ((l.length - 1 - s : Nat) : Int) by omega]
        · unfold stD
          walk_at "dx"
          rw [hlen]
          walk_at "dx"
          exact ⟨by walk_at "lim", by walk_at "lim", by walk_at "lim", k⟩)).le (by decide +kernel)
/-! the greedy walk over far ends -/
def gr (f : Nat → Nat) (n : Nat) : Nat → Nat → Nat
  | 0, _ => 0
  | F + 1, i => if i < n then 1 + gr f n F (f i + 1) else 0
theorem gr_le {f f' : Nat → Nat} {n : Nat} (h1 : ∀ i, i < n → i ≤ f i) (h2 : ∀ i, i < n → i ≤ f' i) (hm : ∀ i j, i ≤ j → j < n → f i ≤ f' j) : ∀ (F F' i j : Nat), i ≤ j → n - i ≤ F → n - j ≤ F' → gr f' n F' j ≤ gr f n F i
  | 0, F', i, j, hij, hF, hF' => by
    cases F' with
    | zero => exact Nat.le_refl _
    | succ F' =>
      unfold gr
      rw [if_neg (by omega)]
      exact Nat.zero_le _
  | F + 1, F', i, j, hij, hF, hF' => by
    cases F' with
    | zero => exact Nat.zero_le _
    | succ F' =>
      unfold gr
      by_cases c : j < n
      · rw [if_pos c, if_pos (by omega)]
        have := h1 i (by omega)
        have := h2 j c
        have := hm i j hij c
        exact Nat.add_le_add_left (gr_le h1 h2 hm F F' _ _ (by omega) (by omega) (by omega)) 1
      · rw [if_neg c]
        exact Nat.zero_le _
/-- one stone more at p: behind it nothing is worse -/
theorem gr_ins1 {f f' : Nat → Nat} {n p : Nat} (h1 : ∀ i, i < n → i ≤ f i) (h2 : ∀ i, i < n + 1 → i ≤ f' i) (hm : ∀ i j, p ≤ i → i + 1 ≤ j → j < n + 1 → f i + 1 ≤ f' j) : ∀ (F F' i j : Nat), p ≤ i → i + 1 ≤ j → n - i ≤ F → n + 1 - j ≤ F' → gr f' (n + 1) F' j ≤ gr f n F i
  | 0, F', i, j, hp, hij, hF, hF' => by
    cases F' with
    | zero => exact Nat.le_refl _
    | succ F' =>
      unfold gr
      rw [if_neg (by omega)]
      exact Nat.zero_le _
  | F + 1, F', i, j, hp, hij, hF, hF' => by
    cases F' with
    | zero => exact Nat.zero_le _
    | succ F' =>
      unfold gr
      by_cases c : j < n + 1
      · rw [if_pos c, if_pos (by omega)]
        have := h1 i (by omega)
        have := h2 j c
        have := hm i j hp hij c
        exact Nat.add_le_add_left (gr_ins1 h1 h2 hm F F' _ _ (by omega) (by omega) (by omega) (by omega)) 1
      · rw [if_neg c]
        exact Nat.zero_le _
def iota (p i : Nat) : Nat := if i < p then i else i + 1
theorem gr_ins {f f' : Nat → Nat} {n p : Nat} (h1 : ∀ i, i < n → i ≤ f i) (h2 : ∀ i, i < n + 1 → i ≤ f' i) (hpn : p ≤ n) (hm : ∀ i j, i < n → iota p i ≤ j → j < n + 1 → iota p (f i) ≤ f' j) : ∀ (F F' i j : Nat), i ≤ p → i ≤ j → n - i ≤ F → n + 1 - j ≤ F' → gr f' (n + 1) F' j ≤ gr f n F i + 1 := by
  have hm1 : ∀ i j, p ≤ i → i + 1 ≤ j → j < n + 1 → f i + 1 ≤ f' j := fun i j a b c => by
    have h := hm i j (by omega) (by unfold iota; rw [if_neg (by omega)]; exact b) c
    have := h1 i (by omega)
    unfold iota at h
    rw [if_neg (by omega)] at h
    exact h
  intro F
  induction F with
  | zero =>
    intro F' i j hip hij hF hF'
    cases F' with
    | zero => exact Nat.zero_le _
    | succ F' =>
      unfold gr
      by_cases c : j < n + 1
      · rw [if_pos c]
        have := h2 j c
        have := gr_ins1 h1 h2 hm1 0 F' i (f' j + 1) (by omega) (by omega) (by omega) (by omega)
        rw [show gr f n 0 i = 0 from rfl] at this
        omega
      · rw [if_neg c]
        exact Nat.zero_le _
  | succ F ih =>
    intro F' i j hip hij hF hF'
    cases F' with
    | zero => exact Nat.zero_le _
    | succ F' =>
      by_cases c : j < n + 1
      · have hj := h2 j c
        rcases Nat.lt_or_ge i p with q | q
        · have e1 : gr f n (F + 1) i = 1 + gr f n F (f i + 1) := by
            conv => lhs; unfold gr
            rw [if_pos (by omega)]
          have e2 : gr f' (n + 1) (F' + 1) j = 1 + gr f' (n + 1) F' (f' j + 1) := by
            conv => lhs; unfold gr
            rw [if_pos c]
          have hi := h1 i (by omega)
          have h := hm i j (by omega) (by unfold iota; rw [if_pos q]; exact hij) c
          rw [e1, e2]
          rcases Nat.lt_or_ge (f i) p with r | r
          · unfold iota at h
            rw [if_pos r] at h
            have := ih F' (f i + 1) (f' j + 1) (by omega) (by omega) (by omega) (by omega)
            omega
          · unfold iota at h
            rw [if_neg (by omega)] at h
            have := gr_ins1 h1 h2 hm1 F F' (f i + 1) (f' j + 1) (by omega) (by omega) (by omega) (by omega)
            omega
        · have e2 : gr f' (n + 1) (F' + 1) j = 1 + gr f' (n + 1) F' (f' j + 1) := by
            conv => lhs; unfold gr
            rw [if_pos c]
          rw [e2]
          have := gr_ins1 h1 h2 hm1 (F + 1) F' i (f' j + 1) q (by omega) (by omega) (by omega)
          omega
      · unfold gr
        rw [if_neg c]
        exact Nat.zero_le _
/-! the stretches of a row, and the far end over a stone -/
noncomputable def spN (l : SRow) : List (Nat × Nat) := (List.range l.length).flatMap fun s => [(startOf l s, s), (s, endOf l s)]
noncomputable def overN (l : SRow) (i : Nat) : List Nat := ((spN l).filter fun q => decide (q.1 ≤ i) && decide (i ≤ q.2)).map (·.2)
noncomputable def farE (l : SRow) (i : Nat) : Nat := (overN l i).foldl max 0
noncomputable def fewN (l : SRow) : Nat := gr (farE l) l.length l.length 0
theorem fold_max : ∀ (xs : List Nat) (a : Nat), (∀ x ∈ xs, x ≤ xs.foldl max a) ∧ a ≤ xs.foldl max a ∧ (xs.foldl max a = a ∨ xs.foldl max a ∈ xs)
  | [], a => ⟨by simp, Nat.le_refl _, .inl rfl⟩
  | x :: xs, a => by
    obtain ⟨h1, h2, h3⟩ := fold_max xs (max a x)
    rw [List.foldl_cons]
    refine ⟨fun y hy => ?_, by omega, ?_⟩
    · rcases List.mem_cons.mp hy with rfl | hy
      · omega
      · exact h1 y hy
    · rcases h3 with h3 | h3
      · rcases Nat.le_total a x with q | q
        · exact .inr (by rw [h3, Nat.max_eq_right q]; exact List.mem_cons_self)
        · exact .inl (by rw [h3, Nat.max_eq_left q])
      · exact .inr (List.mem_cons_of_mem _ h3)
theorem sp_mem {l : SRow} {q : Nat × Nat} : q ∈ spN l ↔ ∃ s, s < l.length ∧ (q = (startOf l s, s) ∨ q = (s, endOf l s)) := by
  unfold spN
  simp only [List.mem_flatMap, List.mem_range, List.mem_cons, List.not_mem_nil, or_false]
theorem over_mem {l : SRow} {i m : Nat} : m ∈ overN l i ↔ ∃ q ∈ spN l, q.1 ≤ i ∧ i ≤ q.2 ∧ q.2 = m := by
  unfold overN
  simp only [List.mem_map, List.mem_filter, Bool.and_eq_true, decide_eq_true_eq]
  constructor
  · rintro ⟨q, ⟨h1, h2, h3⟩, h4⟩
    exact ⟨q, h1, h2, h3, h4⟩
  · rintro ⟨q, h1, h2, h3, h4⟩
    exact ⟨q, ⟨h1, h2, h3⟩, h4⟩
theorem far_ge {l : SRow} {i : Nat} {q : Nat × Nat} (hq : q ∈ spN l) (h1 : q.1 ≤ i) (h2 : i ≤ q.2) : q.2 ≤ farE l i :=
  (fold_max (overN l i) 0).1 _ (over_mem.mpr ⟨q, hq, h1, h2, rfl⟩)
theorem far_own {l : SRow} (I : Inc l) {i : Nat} (hi : i < l.length) : i ≤ farE l i := by
  have h := endOf_ok I hi
  exact Nat.le_trans h.le (far_ge (q := (i, endOf l i)) (sp_mem.mpr ⟨i, hi, .inr rfl⟩) (Nat.le_refl _) h.le)
theorem far_ex {l : SRow} (I : Inc l) {i : Nat} (hi : i < l.length) : ∃ q ∈ spN l, q.1 ≤ i ∧ i ≤ q.2 ∧ q.2 = farE l i := by
  have h := endOf_ok I hi
  have hm : endOf l i ∈ overN l i := over_mem.mpr ⟨(i, endOf l i), sp_mem.mpr ⟨i, hi, .inr rfl⟩, Nat.le_refl _, h.le, rfl⟩
  obtain ⟨h1, h2, h3⟩ := fold_max (overN l i) 0
  rcases h3 with h3 | h3
  · have := h1 _ hm
    have e : endOf l i = farE l i := by show _ = List.foldl max 0 (overN l i); omega
    exact ⟨(i, endOf l i), sp_mem.mpr ⟨i, hi, .inr rfl⟩, Nat.le_refl _, h.le, e⟩
  · exact over_mem.mp h3
theorem sp_bd {l : SRow} (I : Inc l) {q : Nat × Nat} (hq : q ∈ spN l) : q.1 ≤ q.2 ∧ q.2 < l.length := by
  obtain ⟨s, hs, rfl | rfl⟩ := sp_mem.mp hq
  · exact ⟨(startOf_ok I hs).le, hs⟩
  · exact ⟨(endOf_ok I hs).le, (endOf_ok I hs).lt⟩
theorem far_lt {l : SRow} (I : Inc l) {i : Nat} (hi : i < l.length) : farE l i < l.length := by
  obtain ⟨q, h1, _, _, h4⟩ := far_ex I hi
  have := (sp_bd I h1).2
  omega
/-- the greatest of the ends over a stone -/
theorem far_of {l : SRow} {i m : Nat} (hm : m ∈ overN l i) (h : ∀ x ∈ overN l i, x ≤ m) : m = farE l i := by
  obtain ⟨h1, h2, h3⟩ := fold_max (overN l i) 0
  have e := h1 m hm
  rcases h3 with h3 | h3
  · show m = List.foldl max 0 (overN l i)
    omega
  · have := h _ h3
    show m = List.foldl max 0 (overN l i)
    omega
noncomputable def sidesD (l : SRow) (s : Nat) : List PyData := [.tuple [.tuple [.int (s : Nat), .str "left"], .tuple [.int (startOf l s : Nat), .int (s : Nat)]], .tuple [.tuple [.int (s : Nat), .str "right"], .tuple [.int (s : Nat), .int (endOf l s : Nat)]]]
noncomputable def sidesL (l : SRow) (n : Nat) : List PyData := (List.range n).flatMap (sidesD l)
theorem sides_succ {l : SRow} {n : Nat} : sidesL l (n + 1) = sidesL l n ++ sidesD l n := by unfold sidesL; rw [List.range_succ, List.flatMap_append]; simp
theorem sides_len {l : SRow} : ∀ {n : Nat}, (sidesL l n).length = 2 * n
  | 0 => rfl
  | n + 1 => by rw [sides_succ, List.length_append, sides_len (n := n)]; simp [sidesD]; omega
def mf_spans_of : MF := fun as R _ => ∃ l : SRow, as = [.d (rowD l)] ∧ Inc l ∧ R (.d (.list (sidesL l l.length)))
/-! rows that repeat: stones by numbers, places and heights that come again -/
structure Pw (P H : Nat → Int) (n : Nat) (per : Int) : Prop where
  n0 : 0 < n
  p : ∀ i, P (i + n) = P i + per
  h : ∀ i, H (i + n) = H i
def ChR (P H : Nat → Int) (s m : Nat) : Prop := ∀ j, s < j → j ≤ m → ∃ k, s ≤ k ∧ k < j ∧ P j ≤ P k + H k
def ChL (P H : Nat → Int) (j m : Nat) : Prop := ∀ k, m ≤ k → k < j → ∃ x, k < x ∧ x ≤ j ∧ P x - H x ≤ P k
/-- some push fells i through m -/
def InA (P H : Nat → Int) (i m : Nat) : Prop := i ≤ m ∧ ((∃ s, s ≤ i ∧ ChR P H s m) ∨ ChL P H m i)
def IsFar (P H : Nat → Int) (N i m : Nat) : Prop := m < N ∧ InA P H i m ∧ ∀ x, x < N → InA P H i x → x ≤ m
open Classical in
noncomputable def farT (P H : Nat → Int) (N i : Nat) : Nat := ((List.range N).filter fun m => decide (InA P H i m)).foldl max 0
noncomputable def fewT (P H : Nat → Int) (N : Nat) : Nat := gr (farT P H N) N N 0
def EndR (P H : Nat → Int) (n : Nat) : Prop := ∃ s, s < n ∧ ChR P H s (2 * n)
def EndL (P H : Nat → Int) (n : Nat) : Prop := ∃ j, 2 * n ≤ j ∧ j < 3 * n ∧ ChL P H j (n - 1)
theorem gr_zero {f : Nat → Nat} {n i : Nat} (h : n ≤ i) : ∀ F, gr f n F i = 0
  | 0 => rfl
  | F + 1 => by
    unfold gr
    exact if_neg (by omega)
theorem gr_one {f : Nat → Nat} {n i F : Nat} (h : i < n) (hF : n - i ≤ F + 1) : gr f n (F + 1) i = 1 + gr f n F (f i + 1) := by
  show (if i < n then 1 + gr f n F (f i + 1) else 0) = _
  rw [if_pos h]
theorem gr_fuel {f : Nat → Nat} {n : Nat} (h1 : ∀ i, i < n → i ≤ f i) : ∀ (F F' i : Nat), n - i ≤ F → n - i ≤ F' → gr f n F i = gr f n F' i
  | 0, F', i, h, h' => by rw [gr_zero (by omega), gr_zero (by omega)]
  | F + 1, F', i, h, h' => by
    rcases Nat.lt_or_ge i n with c | c
    · obtain ⟨G, rfl⟩ : ∃ G, F' = G + 1 := ⟨F' - 1, by omega⟩
      have := h1 i c
      rw [gr_one c h, gr_one c h', gr_fuel h1 F G (f i + 1) (by omega) (by omega)]
    · rw [gr_zero c, gr_zero c]
section
variable {P H : Nat → Int} {n : Nat} {per : Int}
theorem ChR.dn {s m m' : Nat} (h : ChR P H s m) (hm : m' ≤ m) : ChR P H s m' := fun j h1 h2 => h j h1 (by omega)
theorem ChL.up {j m m' : Nat} (h : ChL P H j m) (hm : m ≤ m') : ChL P H j m' := fun k h1 h2 => h k (by omega) h2
theorem in_own (i : Nat) : InA P H i i := ⟨Nat.le_refl _, .inr fun k h1 h2 => by omega⟩
theorem far_is {N i : Nat} (h : i < N) : IsFar P H N i (farT P H N i) := by
  classical
  obtain ⟨h1, h2, h3⟩ := fold_max ((List.range N).filter fun m => decide (InA P H i m)) 0
  have key : ∀ x, x < N → InA P H i x → x ≤ farT P H N i := fun x hx hA => h1 x (List.mem_filter.mpr ⟨List.mem_range.mpr hx, decide_eq_true hA⟩)
  have hi := key i h (in_own i)
  rcases h3 with h3 | h3
  · have e : farT P H N i = 0 := h3
    have : i = 0 := by omega
    subst this
    rw [e]
    exact ⟨h, in_own _, fun x a b => by have := key x a b; omega⟩
  · have := List.mem_filter.mp h3
    exact ⟨List.mem_range.mp this.1, of_decide_eq_true this.2, key⟩
theorem IsFar.uniq {N i a b : Nat} (h1 : IsFar P H N i a) (h2 : IsFar P H N i b) : a = b := Nat.le_antisymm (h2.2.2 a h1.1 h1.2.1) (h1.2.2 b h2.1 h2.2.1)
theorem far_eq {N i a : Nat} (h : i < N) (h1 : IsFar P H N i a) : farT P H N i = a := (far_is h).uniq h1
theorem far_up {N i : Nat} (h : i < N) : i ≤ farT P H N i := (far_is h).2.1.1
theorem few_def {N : Nat} : fewT P H N = gr (farT P H N) N N 0 := rfl
/-- the walk by fuel enough -/
theorem gr_go {N i : Nat} (h : i < N) : gr (farT P H N) N N i = 1 + gr (farT P H N) N N (farT P H N i + 1) := by
  obtain ⟨F, rfl⟩ : ∃ F, N = F + 1 := ⟨N - 1, by omega⟩
  have := far_up (P := P) (H := H) h
  rw [gr_one h (by omega), gr_fuel (fun i hi => far_up hi) F (F + 1) _ (by omega) (by omega)]
variable (W : Pw P H n per)
include W
theorem chR_sh {s m : Nat} : ChR P H (s + n) (m + n) ↔ ChR P H s m := by
  constructor
  · intro h j h1 h2
    obtain ⟨k, a, b, c⟩ := h (j + n) (by omega) (by omega)
    obtain ⟨x, rfl⟩ : ∃ x, k = x + n := ⟨k - n, by omega⟩
    rw [W.p, W.p, W.h] at c
    exact ⟨x, by omega, by omega, by omega⟩
  · intro h j h1 h2
    obtain ⟨x, rfl⟩ : ∃ x, j = x + n := ⟨j - n, by omega⟩
    obtain ⟨k, a, b, c⟩ := h x (by omega) (by omega)
    refine ⟨k + n, by omega, by omega, ?_⟩
    rw [W.p, W.p, W.h]
    omega
theorem chL_sh {j m : Nat} : ChL P H (j + n) (m + n) ↔ ChL P H j m := by
  constructor
  · intro h k h1 h2
    obtain ⟨x, a, b, c⟩ := h (k + n) (by omega) (by omega)
    obtain ⟨y, rfl⟩ : ∃ y, x = y + n := ⟨x - n, by omega⟩
    rw [W.p, W.p, W.h] at c
    exact ⟨y, by omega, by omega, by omega⟩
  · intro h k h1 h2
    obtain ⟨y, rfl⟩ : ∃ y, k = y + n := ⟨k - n, by omega⟩
    obtain ⟨x, a, b, c⟩ := h y (by omega) (by omega)
    refine ⟨x + n, by omega, by omega, ?_⟩
    rw [W.p, W.p, W.h]
    omega
theorem chR_on {s m : Nat} (h : ChR P H s m) (hm : s + n ≤ m) : ∀ d, ChR P H s (m + d)
  | 0 => h
  | d + 1 => by
    have ih := chR_on h hm d
    intro j h1 h2
    rcases Nat.lt_or_ge (m + d) j with c | c
    · obtain rfl : j = m + d + 1 := by omega
      have n0 := W.n0
      obtain ⟨k, a, b, e⟩ := ih (m + d + 1 - n) (by omega) (by omega)
      refine ⟨k + n, by omega, by omega, ?_⟩
      have e2 := W.p (m + d + 1 - n)
      rw [show m + d + 1 - n + n = m + d + 1 by omega] at e2
      rw [W.p, W.h]
      omega
    · exact ih j h1 c
theorem chL_on {j : Nat} : ∀ {m : Nat}, ChL P H j m → m + n ≤ j → ChL P H j 0
  | 0, h, _ => h
  | m + 1, h, hm => by
    refine chL_on (m := m) (fun k h1 h2 => ?_) (by omega)
    rcases Nat.lt_or_ge m k with c | c
    · exact h k c h2
    · obtain rfl : k = m := by omega
      have n0 := W.n0
      obtain ⟨x, a, b, e⟩ := h (k + n) (by omega) (by omega)
      obtain ⟨y, rfl⟩ : ∃ y, x = y + n := ⟨x - n, by omega⟩
      rw [W.p, W.p, W.h] at e
      exact ⟨y, by omega, by omega, by omega⟩
/-- no push goes on: how far one comes -/
theorem no_R (hR : ¬ EndR P H n) : ∀ {c r m : Nat}, r < n → ChR P H (c * n + r) m → m < (c + 2) * n
  | 0, r, m, hr, h => by
    rcases Nat.lt_or_ge m (2 * n) with q | q
    · simpa using q
    · exact absurd ⟨r, hr, ChR.dn (by simpa using h) q⟩ hR
  | c + 1, r, m, hr, h => by
    rcases Nat.lt_or_ge m n with q | q
    · rw [show c + 1 + 2 = (c + 2) + 1 by omega, Nat.succ_mul]
      omega
    · obtain ⟨x, rfl⟩ : ∃ x, m = x + n := ⟨m - n, by omega⟩
      rw [show (c + 1) * n + r = (c * n + r) + n by rw [Nat.succ_mul]; omega] at h
      have := no_R hR hr ((chR_sh W).mp h)
      rw [show c + 1 + 2 = (c + 2) + 1 by omega, Nat.succ_mul]
      omega
theorem no_L (hL : ¬ EndL P H n) : ∀ {c r i : Nat}, r < n → i ≤ c * n + r → ChL P H (c * n + r) i → c * n ≤ i + n
  | 0, r, i, hr, _, h => by omega
  | 1, r, i, hr, _, h => by omega
  | 2, r, i, hr, _, h => by
    rcases Nat.lt_or_ge i n with q | q
    · exact absurd ⟨2 * n + r, by omega, by omega, h.up (by omega)⟩ hL
    · omega
  | c + 3, r, i, hr, hi, h => by
    have n0 := W.n0
    have e : (c + 3) * n + r = ((c + 2) * n + r) + n := by rw [show c + 3 = (c + 2) + 1 by omega, Nat.succ_mul]; omega
    rw [e] at h hi
    rcases Nat.lt_or_ge i n with q | q
    · have h0 : ChL P H ((c + 2) * n + r + n) (0 + n) := h.up (by omega)
      have := no_L hL hr (by omega) ((chL_sh W).mp h0)
      rw [show c + 2 = c + 1 + 1 by omega, Nat.succ_mul] at this
      rw [Nat.succ_mul] at this
      omega
    · obtain ⟨x, rfl⟩ : ∃ x, i = x + n := ⟨i - n, by omega⟩
      have := no_L hL hr (by omega) ((chL_sh W).mp h)
      rw [show c + 3 = (c + 2) + 1 by omega, Nat.succ_mul]
      omega
theorem in_bd (hR : ¬ EndR P H n) (hL : ¬ EndL P H n) {c r m : Nat} (hr : r < n) (h : InA P H (c * n + r) m) : m < (c + 2) * n := by
  have n0 := W.n0
  obtain ⟨hm, ⟨s, hs, h⟩ | h⟩ := h
  · have e := Nat.div_add_mod s n
    have hsr := Nat.mod_lt s n0
    rw [Nat.mul_comm] at e
    rw [← e] at h
    have := no_R W hR hsr h
    have hc : s / n ≤ c := by
      have : s / n < c + 1 := (Nat.div_lt_iff_lt_mul n0).mpr (by rw [Nat.succ_mul]; omega)
      omega
    have : (s / n + 2) * n ≤ (c + 2) * n := Nat.mul_le_mul_right _ (by omega)
    omega
  · have e := Nat.div_add_mod m n
    have hsr := Nat.mod_lt m n0
    rw [Nat.mul_comm] at e
    rw [← e] at h hm
    have := no_L W hL hsr hm h
    have hc : m / n < c + 2 := by
      rcases Nat.lt_or_ge (m / n) (c + 2) with q | q
      · exact q
      · have : (c + 2) * n ≤ m / n * n := Nat.mul_le_mul_right _ q
        rw [show c + 2 = c + 1 + 1 by omega, Nat.succ_mul, Nat.succ_mul] at this
        omega
    have : (m / n + 1) * n ≤ (c + 2) * n := Nat.mul_le_mul_right _ (by omega)
    rw [Nat.succ_mul] at this
    omega
theorem in_sh (hR : ¬ EndR P H n) {i m : Nat} (hi : n ≤ i) : InA P H (i + n) (m + n) ↔ InA P H i m := by
  constructor
  · rintro ⟨h0, ⟨s, hs, h⟩ | h⟩
    · refine ⟨by omega, .inl ?_⟩
      rcases Nat.lt_or_ge s n with q | q
      · have := no_R W hR (c := 0) (r := s) q (by simpa using h)
        simp at this
        omega
      · obtain ⟨x, rfl⟩ : ∃ x, s = x + n := ⟨s - n, by omega⟩
        exact ⟨x, by omega, (chR_sh W).mp h⟩
    · exact ⟨by omega, .inr ((chL_sh W).mp h)⟩
  · rintro ⟨h0, ⟨s, hs, h⟩ | h⟩
    · exact ⟨by omega, .inl ⟨s + n, by omega, (chR_sh W).mpr h⟩⟩
    · exact ⟨by omega, .inr ((chL_sh W).mpr h)⟩
theorem in_shd (hR : ¬ EndR P H n) {i m : Nat} : ∀ {d : Nat}, (n ≤ i ∨ d = 0) → (InA P H (i + d * n) (m + d * n) ↔ InA P H i m)
  | 0, _ => by simp
  | d + 1, h => by
    have hi : n ≤ i := h.resolve_right (by omega)
    rw [Nat.succ_mul, ← Nat.add_assoc, ← Nat.add_assoc, in_sh W hR (by omega)]
    exact in_shd hR (.inl hi)
/-- the far end over a stone is told by the copies next to it -/
theorem far_local (hR : ¬ EndR P H n) (hL : ¬ EndL P H n) {t c r b a : Nat} (hc : c < t) (hr : r < n) (hb : b = min 1 c) (ha : a = min 1 (t - 1 - c)) : farT P H (t * n) (c * n + r) = (c - b) * n + farT P H ((b + 1 + a) * n) (b * n + r) := by
  have n0 := W.n0
  have hcb : c = (c - b) + b := by omega
  have hlt : b * n + r < (b + 1 + a) * n := by
    have : (b + 1) * n ≤ (b + 1 + a) * n := Nat.mul_le_mul_right _ (by omega)
    rw [Nat.succ_mul] at this
    omega
  have hlt2 : c * n + r < t * n := by
    have : (c + 1) * n ≤ t * n := Nat.mul_le_mul_right _ (by omega)
    rw [Nat.succ_mul] at this
    omega
  have ei : c * n + r = (b * n + r) + (c - b) * n := by
    conv => lhs; rw [hcb, Nat.add_mul]
    omega
  have hd : n ≤ b * n + r ∨ c - b = 0 := by
    rcases Nat.eq_zero_or_pos c with q | q
    · exact .inr (by omega)
    · have : b = 1 := by omega
      subst this
      exact .inl (by omega)
  obtain ⟨f1, f2, f3⟩ := far_is (P := P) (H := H) hlt
  refine far_eq hlt2 ⟨?_, ?_, fun x hx hA => ?_⟩
  · have : (c - b + (b + 1 + a)) * n ≤ t * n := Nat.mul_le_mul_right _ (by omega)
    rw [Nat.add_mul] at this
    omega
  · rw [ei, Nat.add_comm ((c - b) * n)]
    exact (in_shd W hR hd).mpr f2
  · have hxi := hA.1
    obtain ⟨y, rfl⟩ : ∃ y, x = y + (c - b) * n := ⟨x - (c - b) * n, by omega⟩
    rw [ei] at hA
    have hy := (in_shd W hR hd).mp hA
    have hyb := in_bd W hR hL hr hy
    have := f3 y ?_ hy
    · omega
    · rcases Nat.lt_or_ge (t - 1 - c) 1 with q | q
      · have e : t = (c - b) + (b + 1 + a) := by omega
        rw [e, Nat.add_mul] at hx
        omega
      · have : a = 1 := by omega
        subst this
        exact hyb
theorem far_shift (hR : ¬ EndR P H n) (hL : ¬ EndL P H n) {t x d : Nat} (hx : n ≤ x) (h : x + d * n < (t - 1) * n) : farT P H (t * n) (x + d * n) = farT P H (t * n) x + d * n := by
  have n0 := W.n0
  have ht : 0 < t - 1 := Nat.pos_of_ne_zero fun q => by rw [q] at h; simp at h
  have e1 : (t - 1) * n + n = t * n := by rw [← Nat.succ_mul]; congr 1; omega
  obtain ⟨f1, f2, f3⟩ := far_is (P := P) (H := H) (show x < t * n by omega)
  have bd : ∀ z, z < (t - 1) * n → ∀ m, InA P H z m → m < t * n := fun z hz m hm => by
    have e := Nat.div_add_mod z n
    rw [Nat.mul_comm] at e
    rw [← e] at hm
    have h1 := in_bd W hR hL (Nat.mod_lt z n0) hm
    have h2 : z / n < t - 1 := (Nat.div_lt_iff_lt_mul n0).mpr hz
    have : (z / n + 2) * n ≤ t * n := Nat.mul_le_mul_right _ (by omega)
    omega
  refine far_eq (by omega) ⟨?_, ?_, fun y hy hA => ?_⟩
  · exact bd _ h _ ((in_shd W hR (.inl hx)).mpr f2)
  · exact (in_shd W hR (.inl hx)).mpr f2
  · have := hA.1
    obtain ⟨z, rfl⟩ : ∃ z, y = z + d * n := ⟨y - d * n, by omega⟩
    have := f3 z (by omega) ((in_shd W hR (.inl hx)).mp hA)
    omega
/-- in the first copy: what goes on comes again with each copy -/
theorem in_per {i m : Nat} (hi : i < n) (hm : 2 * n ≤ m) : InA P H i (m + n) ↔ InA P H i m := by
  constructor
  · rintro ⟨h0, ⟨s, hs, h⟩ | h⟩
    · exact ⟨by omega, .inl ⟨s, hs, h.dn (by omega)⟩⟩
    · have : ChL P H (m + n) (0 + n) := h.up (by omega)
      exact ⟨by omega, .inr (((chL_sh W).mp this).up (by omega))⟩
  · rintro ⟨h0, ⟨s, hs, h⟩ | h⟩
    · exact ⟨by omega, .inl ⟨s, hs, chR_on W h (by omega) n⟩⟩
    · have h1 := chL_on W h (by omega)
      have h2 := (chL_sh W).mpr h1
      exact ⟨by omega, .inr ((chL_on W h2 (by omega)).up (by omega))⟩
theorem far_step {t i : Nat} (hi : i < n) (ht : 3 ≤ t) : (farT P H (t * n) i < 2 * n ∧ farT P H ((t + 1) * n) i = farT P H (t * n) i) ∨ ((t - 1) * n ≤ farT P H (t * n) i ∧ farT P H ((t + 1) * n) i = farT P H (t * n) i + n) := by
  have n0 := W.n0
  have e1 : (t + 1) * n = t * n + n := Nat.succ_mul _ _
  have e2 : (t - 1) * n + n = t * n := by rw [← Nat.succ_mul]; congr 1; omega
  have e3 : 3 * n ≤ t * n := Nat.mul_le_mul_right _ ht
  obtain ⟨f1, f2, f3⟩ := far_is (P := P) (H := H) (show i < t * n by omega)
  rcases Nat.lt_or_ge (farT P H (t * n) i) (2 * n) with q | q
  · refine .inl ⟨q, far_eq (by omega) ⟨by omega, f2, fun x hx hA => ?_⟩⟩
    rcases Nat.lt_or_ge x (t * n) with p | p
    · exact f3 x p hA
    · obtain ⟨y, rfl⟩ : ∃ y, x = y + n := ⟨x - n, by omega⟩
      have := f3 y (by omega) ((in_per W hi (by omega)).mp hA)
      omega
  · refine .inr ⟨?_, far_eq (by omega) ⟨by omega, (in_per W hi q).mpr f2, fun x hx hA => ?_⟩⟩
    · rcases Nat.lt_or_ge (farT P H (t * n) i) ((t - 1) * n) with p | p
      · have := f3 _ (by omega) ((in_per W hi q).mpr f2)
        omega
      · exact p
    · rcases Nat.lt_or_ge x (3 * n) with p | p
      · have := f3 x (by omega) hA
        omega
      · obtain ⟨y, rfl⟩ : ∃ y, x = y + n := ⟨x - n, by omega⟩
        have := f3 y (by omega) ((in_per W hi (by omega)).mp hA)
        omega
theorem gr_last {t s i F : Nat} (hs : ∀ m, ChR P H s m) (h1 : s ≤ i) (h2 : i < t * n) (hF : t * n - i ≤ F) : gr (farT P H (t * n)) (t * n) F i = 1 := by
  obtain ⟨F, rfl⟩ : ∃ G, F = G + 1 := ⟨F - 1, by omega⟩
  have e : farT P H (t * n) i = t * n - 1 := far_eq h2 ⟨by omega, ⟨by omega, .inl ⟨s, h1, hs _⟩⟩, fun x hx _ => by omega⟩
  rw [gr_one h2 hF, e, gr_zero (by omega)]
theorem few_R {t s : Nat} (ht : 3 ≤ t) (hsn : s < n) (hs : ∀ m, ChR P H s m) : ∀ (F F' i : Nat), i ≤ s → t * n - i ≤ F → (t + 1) * n - i ≤ F' → gr (farT P H (t * n)) (t * n) F i = gr (farT P H ((t + 1) * n)) ((t + 1) * n) F' i
  | 0, F', i, hi, h, h' => by
    have e3 : 3 * n ≤ t * n := Nat.mul_le_mul_right _ ht
    omega
  | F + 1, F', i, hi, h, h' => by
    have n0 := W.n0
    have e1 : (t + 1) * n = t * n + n := Nat.succ_mul _ _
    have e2 : (t - 1) * n + n = t * n := by rw [← Nat.succ_mul]; congr 1; omega
    have e3 : 3 * n ≤ t * n := Nat.mul_le_mul_right _ ht
    obtain ⟨F', rfl⟩ : ∃ G, F' = G + 1 := ⟨F' - 1, by omega⟩
    have f0 := far_up (P := P) (H := H) (show i < t * n by omega)
    have f1 := (far_is (P := P) (H := H) (show i < t * n by omega)).1
    rw [gr_one (by omega) h, gr_one (by omega) h']
    congr 1
    rcases far_step W (t := t) (i := i) (by omega) ht with ⟨a, b⟩ | ⟨a, b⟩
    · rw [b]
      rcases Nat.lt_or_ge s (farT P H (t * n) i + 1) with q | q
      · rw [gr_last W hs (by omega) (by omega) (by omega), gr_last W hs (by omega) (by omega) (by omega)]
      · exact few_R ht hsn hs F F' _ q (by omega) (by omega)
    · rw [b]
      rcases Nat.lt_or_ge (farT P H (t * n) i + 1) (t * n) with q | q
      · rw [gr_last W hs (by omega) q (by omega), gr_last W hs (by omega) (by omega) (by omega)]
      · rw [gr_zero q, gr_zero (by omega)]
theorem few_S {t : Nat} (hR : ¬ EndR P H n) : ∀ (F F' i : Nat), n ≤ i → t * n - i ≤ F → (t + 1) * n - (i + n) ≤ F' → gr (farT P H (t * n)) (t * n) F i = gr (farT P H ((t + 1) * n)) ((t + 1) * n) F' (i + n)
  | 0, F', i, hi, h, h' => by
    have e1 : (t + 1) * n = t * n + n := Nat.succ_mul _ _
    rw [gr_zero (by omega), gr_zero (by omega)]
  | F + 1, F', i, hi, h, h' => by
    have n0 := W.n0
    have e1 : (t + 1) * n = t * n + n := Nat.succ_mul _ _
    rcases Nat.lt_or_ge i (t * n) with q | q
    · obtain ⟨F', rfl⟩ : ∃ G, F' = G + 1 := ⟨F' - 1, by omega⟩
      obtain ⟨f1, f2, f3⟩ := far_is (P := P) (H := H) q
      have e : farT P H ((t + 1) * n) (i + n) = farT P H (t * n) i + n := far_eq (by omega) ⟨by omega, (in_sh W hR hi).mpr f2, fun x hx hA => by
        have := hA.1
        obtain ⟨y, rfl⟩ : ∃ y, x = y + n := ⟨x - n, by omega⟩
        have := f3 y (by omega) ((in_sh W hR hi).mp hA)
        omega⟩
      rw [gr_one q h, gr_one (by omega) h', e, show farT P H (t * n) i + n + 1 = farT P H (t * n) i + 1 + n by omega]
      have := f2.1
      rw [few_S hR F F' _ (by omega) (by omega) (by omega)]
    · rw [gr_zero q, gr_zero (by omega)]
theorem few_next {t : Nat} (ht : 3 ≤ t) (h : EndR P H n ∨ EndL P H n) : fewT P H ((t + 1) * n) = fewT P H (t * n) := by
  have n0 := W.n0
  have e1 : (t + 1) * n = t * n + n := Nat.succ_mul _ _
  have e2 : (t - 1) * n + n = t * n := by rw [← Nat.succ_mul]; congr 1; omega
  have e3 : 3 * n ≤ t * n := Nat.mul_le_mul_right _ ht
  unfold fewT
  by_cases hR : EndR P H n
  · obtain ⟨s, hs, hc⟩ := hR
    have hall : ∀ m, ChR P H s m := fun m => (chR_on W hc (by omega) m).dn (by omega)
    exact (few_R W ht hs hall _ _ 0 (by omega) (by omega) (by omega)).symm
  · obtain ⟨j, j1, j2, hc⟩ := h.resolve_left hR
    have hj : InA P H 0 j := ⟨by omega, .inr (chL_on W hc (by omega))⟩
    have hf := (far_is (P := P) (H := H) (show 0 < t * n by omega)).2.2 j (by omega) hj
    rcases far_step W (t := t) (i := 0) n0 ht with ⟨a, b⟩ | ⟨a, b⟩
    · omega
    · rw [gr_go (show 0 < (t + 1) * n by omega), gr_go (show 0 < t * n by omega), b, show farT P H (t * n) 0 + n + 1 = farT P H (t * n) 0 + 1 + n by omega]
      rw [few_S W hR (t * n) ((t + 1) * n) (farT P H (t * n) 0 + 1) (by omega) (by omega) (by omega)]
theorem few_end (h : EndR P H n ∨ EndL P H n) {t : Nat} (ht : 3 ≤ t) : fewT P H (t * n) = fewT P H (3 * n) := by
  obtain ⟨d, rfl⟩ : ∃ d, t = 3 + d := ⟨t - 3, by omega⟩
  induction d with
  | zero => rfl
  | succ d ih => exact (few_next W (Nat.le_add_right 3 d) h).trans (ih (Nat.le_add_right 3 d))
end
/-! walks -/
def Path (f : Nat → Nat) (N : Nat) : Nat → Nat → Nat → Prop
  | 0, i, j => i = j
  | k + 1, i, j => ∃ x, Path f N k i x ∧ x < N ∧ j = f x + 1
section
variable {P H : Nat → Int} {n : Nat} {per : Int}
theorem path_le {N : Nat} : ∀ {k i j : Nat}, Path (farT P H N) N k i j → i + k ≤ j
  | 0, i, j, h => by cases h; exact Nat.le_refl _
  | k + 1, i, j, ⟨x, h, hx, e⟩ => by
    have := path_le h
    have := far_up (P := P) (H := H) hx
    omega
theorem path_gr {N : Nat} : ∀ {k i j : Nat}, Path (farT P H N) N k i j → gr (farT P H N) N N i = k + gr (farT P H N) N N j
  | 0, i, j, h => by cases h; omega
  | k + 1, i, j, ⟨x, h, hx, e⟩ => by
    rw [path_gr h, gr_go hx, e]
    omega
theorem path_add {f : Nat → Nat} {N : Nat} {k : Nat} : ∀ {m i j x : Nat}, Path f N k i x → Path f N m x j → Path f N (k + m) i j
  | 0, i, j, x, h, g => by cases g; exact h
  | m + 1, i, j, x, h, ⟨y, g, hy, e⟩ => ⟨y, path_add h g, hy, e⟩
theorem path_shift (W : Pw P H n per) (hR : ¬ EndR P H n) (hL : ¬ EndL P H n) {t d : Nat} : ∀ {k i j : Nat}, Path (farT P H (t * n)) (t * n) k i j → n ≤ i → j + d * n < (t - 1) * n → Path (farT P H (t * n)) (t * n) k (i + d * n) (j + d * n)
  | 0, i, j, h, _, _ => by cases h; rfl
  | k + 1, i, j, ⟨x, h, hx, e⟩, hi, hj => by
    have h1 := path_le h
    have h2 := far_up (P := P) (H := H) hx
    have h3 : (t - 1) * n ≤ t * n := Nat.mul_le_mul_right _ (by omega)
    refine ⟨x + d * n, path_shift W hR hL h hi (by omega), by omega, ?_⟩
    rw [far_shift W hR hL (by omega) (by omega), e]
    omega
/-- a round comes again -/
theorem path_rounds (W : Pw P H n per) (hR : ¬ EndR P H n) (hL : ¬ EndL P H n) {t k p i : Nat} (h : Path (farT P H (t * n)) (t * n) k i (i + p * n)) (hi : n ≤ i) : ∀ r, i + p * n + r * p * n < (t - 1) * n → Path (farT P H (t * n)) (t * n) (r * k) (i + p * n) (i + p * n + r * p * n)
  | 0, _ => by simp [Path]
  | r + 1, hr => by
    have e : (r + 1) * p * n = r * p * n + p * n := by rw [Nat.succ_mul, Nat.add_mul]
    have ih := path_rounds W hR hL h hi r (by omega)
    have sh := path_shift W hR hL (d := (r + 1) * p) h hi (by omega)
    rw [Nat.succ_mul]
    refine path_add ih ?_
    have e1 : i + p * n + r * p * n = i + (r + 1) * p * n := by omega
    have e2 : i + p * n + (r + 1) * p * n = i + p * n + (r + 1) * p * n := rfl
    rw [e1]
    exact sh
end
def pP (l : SRow) (per : Int) (i : Nat) : Int := pl l (i % l.length) + (i / l.length : Nat) * per
def pH (l : SRow) (i : Nat) : Int := ht l (i % l.length)
theorem pw_of {l : SRow} (per : Int) (h : 0 < l.length) : Pw (pP l per) (pH l) l.length per := by
  refine ⟨h, fun i => ?_, fun i => ?_⟩
  · unfold pP
    rw [Nat.add_mod_right, Nat.add_div_right _ h]
    push_cast
    rw [Int.add_mul]
    omega
  · unfold pH
    rw [Nat.add_mod_right]
theorem far_row {m : SRow} (I : Inc m) {P H : Nat → Int} (e : ∀ i, i < m.length → pl m i = P i ∧ ht m i = H i) {i : Nat} (hi : i < m.length) : farE m i = farT P H m.length i := by
  obtain ⟨f1, f2, f3⟩ := far_is (P := P) (H := H) hi
  have inn : ∀ x ∈ overN m i, x < m.length ∧ InA P H i x := fun x hx => by
    obtain ⟨q, hq, h1, h2, rfl⟩ := over_mem.mp hx
    obtain ⟨s, hs, rfl | rfl⟩ := sp_mem.mp hq
    · have S := startOf_ok I hs
      refine ⟨hs, h2, .inr fun k a b => ?_⟩
      have a : i ≤ k := a
      have b : k < s := b
      obtain ⟨x, y, z, w⟩ := S.ch k (by have : startOf m s ≤ i := h1; omega) b
      rw [(e x (by omega)).1, (e x (by omega)).2, (e k (by omega)).1] at w
      exact ⟨x, y, z, w⟩
    · have E := endOf_ok I hs
      refine ⟨E.lt, h2, .inl ⟨s, h1, fun j a b => ?_⟩⟩
      have hlt := E.lt
      have b : j ≤ endOf m s := b
      obtain ⟨x, y, z, w⟩ := E.ch j a b
      rw [(e x (by omega)).1, (e x (by omega)).2, (e j (by omega)).1] at w
      exact ⟨x, y, z, w⟩
  refine (far_of ?_ fun x hx => f3 x (inn x hx).1 (inn x hx).2).symm
  obtain ⟨h0, ⟨s, hs, h⟩ | h⟩ := f2
  · have hsl : s < m.length := by omega
    have hge := end_ge I hsl f1 fun j a b => by
      obtain ⟨k, y, z, w⟩ := h j a b
      rw [← (e j (by omega)).1, ← (e k (by omega)).1, ← (e k (by omega)).2] at w
      exact ⟨k, y, z, w⟩
    have hm : endOf m s ∈ overN m i := over_mem.mpr ⟨(s, endOf m s), sp_mem.mpr ⟨s, hsl, .inr rfl⟩, hs, by show i ≤ endOf m s; omega, rfl⟩
    have := f3 _ (inn _ hm).1 (inn _ hm).2
    rw [show farT P H m.length i = endOf m s by omega]
    exact hm
  · have hle := start_le I f1 fun j a b => by
      obtain ⟨k, y, z, w⟩ := h j a b
      rw [← (e j (by omega)).1, ← (e k (by omega)).1, ← (e k (by omega)).2] at w
      exact ⟨k, y, z, w⟩
    exact over_mem.mpr ⟨(startOf m _, _), sp_mem.mpr ⟨_, f1, .inl rfl⟩, hle, h0, rfl⟩
theorem gr_cong {f g : Nat → Nat} {n : Nat} (h : ∀ i, i < n → f i = g i) : ∀ F i, gr f n F i = gr g n F i
  | 0, i => rfl
  | F + 1, i => by
    unfold gr
    split
    · rename_i c
      rw [h i c, gr_cong h F]
    · rfl
theorem far_rep {l : SRow} {per : Int} {t i : Nat} (I : Inc (repL l per t)) (hi : i < t * l.length) : farE (repL l per t) i = farT (pP l per) (pH l) (t * l.length) i := by
  have := far_row I (P := pP l per) (H := pH l) (fun i hi => rep_at (by rwa [rep_len] at hi)) (i := i) (by rw [rep_len]; exact hi)
  rwa [rep_len] at this
theorem few_rep {l : SRow} {per : Int} {t : Nat} (I : Inc (repL l per t)) : fewN (repL l per t) = fewT (pP l per) (pH l) (t * l.length) := by
  unfold fewN fewT
  rw [rep_len]
  exact gr_cong (fun i hi => far_rep I hi) _ _
theorem endR_iff {l : SRow} {per : Int} (I : Inc (repL l per 3)) : EndR (pP l per) (pH l) l.length ↔ ∃ s, s < l.length ∧ 2 * l.length ≤ endOf (repL l per 3) s := by
  have hl : (repL l per 3).length = 3 * l.length := rep_len l per 3
  have e : ∀ i, i < 3 * l.length → pl (repL l per 3) i = pP l per i ∧ ht (repL l per 3) i = pH l i := fun i hi => rep_at hi
  constructor
  · rintro ⟨s, hs, h⟩
    refine ⟨s, hs, end_ge I (by omega) (by omega) fun j a b => ?_⟩
    obtain ⟨k, y, z, w⟩ := h j a b
    rw [← (e j (by omega)).1, ← (e k (by omega)).1, ← (e k (by omega)).2] at w
    exact ⟨k, y, z, w⟩
  · rintro ⟨s, hs, h⟩
    have E := endOf_ok I (s := s) (by omega)
    refine ⟨s, hs, fun j a b => ?_⟩
    obtain ⟨k, y, z, w⟩ := E.ch j a (by omega)
    rw [(e j (by omega)).1, (e k (by omega)).1, (e k (by omega)).2] at w
    exact ⟨k, y, z, w⟩
theorem endL_iff {l : SRow} {per : Int} (I : Inc (repL l per 3)) : EndL (pP l per) (pH l) l.length ↔ ∃ j, 2 * l.length ≤ j ∧ j < 3 * l.length ∧ startOf (repL l per 3) j < l.length := by
  have hl : (repL l per 3).length = 3 * l.length := rep_len l per 3
  have h0 := I.n0
  have e : ∀ i, i < 3 * l.length → pl (repL l per 3) i = pP l per i ∧ ht (repL l per 3) i = pH l i := fun i hi => rep_at hi
  constructor
  · rintro ⟨j, j1, j2, h⟩
    have := start_le I (s := j) (m := l.length - 1) (by omega) fun i a b => by
      obtain ⟨k, y, z, w⟩ := h i a b
      rw [← (e i (by omega)).1, ← (e k (by omega)).1, ← (e k (by omega)).2] at w
      exact ⟨k, y, z, w⟩
    exact ⟨j, j1, j2, by omega⟩
  · rintro ⟨j, j1, j2, h⟩
    have S := startOf_ok I (s := j) (by omega)
    refine ⟨j, j1, j2, fun i a b => ?_⟩
    obtain ⟨k, y, z, w⟩ := S.ch i (by omega) b
    rw [(e i (by omega)).1, (e k (by omega)).1, (e k (by omega)).2] at w
    exact ⟨k, y, z, w⟩
/-! the walk, step by step -/
def itT (f : Nat → Nat) (N : Nat) : Nat → Nat
  | 0 => 0
  | c + 1 => if itT f N c < N then f (itT f N c) + 1 else itT f N c
section
variable {f : Nat → Nat} {N : Nat} (h1 : ∀ i, i < N → i ≤ f i)
include h1
theorem it_gr : ∀ {c : Nat}, (c = 0 ∨ itT f N (c - 1) < N) → gr f N N 0 = c + gr f N N (itT f N c)
  | 0, _ => by rw [Nat.zero_add]; rfl
  | c + 1, h => by
    have hc : itT f N c < N := h.resolve_left (by omega)
    have ih := it_gr (c := c) (by
      cases c with
      | zero => exact .inl rfl
      | succ c =>
        refine .inr ?_
        rcases Nat.lt_or_ge (itT f N c) N with q | q
        · exact q
        · have : itT f N (c + 1) = itT f N c := if_neg (by omega)
          rw [Nat.add_sub_cancel]
          omega)
    have e : itT f N (c + 1) = f (itT f N c) + 1 := if_pos hc
    obtain ⟨M, rfl⟩ : ∃ M, N = M + 1 := ⟨N - 1, by omega⟩
    have := h1 _ hc
    rw [ih, e, gr_one hc (by omega), gr_fuel h1 M (M + 1) _ (by omega) (by omega)]
    omega
theorem it_few : N ≤ itT f N (gr f N N 0) := by
  rcases Nat.lt_or_ge (itT f N (gr f N N 0)) N with q | q
  · have h := it_gr h1 (c := gr f N N 0 + 1) (.inr (by rw [Nat.add_sub_cancel]; exact q))
    omega
  · exact q
theorem few_it : ∀ {c : Nat}, N ≤ itT f N c → gr f N N 0 ≤ c
  | 0, h => by
    have : N = 0 := by
      have : itT f N 0 = 0 := rfl
      omega
    subst this
    exact Nat.le_refl _
  | c + 1, h => by
    rcases Nat.lt_or_ge (itT f N c) N with q | q
    · have := it_gr h1 (c := c + 1) (.inr (by rw [Nat.add_sub_cancel]; exact q))
      rw [gr_zero h] at this
      omega
    · have := few_it q
      omega
end
/-- a comprehension over the images of a list -/
theorem lcE_map {α : Type} {f : α → PyData} {g : MG} {tt : MT} {te : ME} {δ : DL.Env} {R : DV → Prop} (out : α → Option PyData) : ∀ (xs : List α) (acc : List PyData),
    (∀ x ∈ xs, ∀ (K1 : PyData → Prop) (K0 : Prop), (∀ z, out x = some z → K1 z) → (out x = none → K0) → g (.d (f x)) δ fun δ' => tt ex0 δ' fun c => (c = true → te ex0 δ' fun y => match y.val with
      | some z => K1 z
      | none => False) ∧ (c = false → K0)) → acc.length + xs.length ≤ sizeLine → R (.own (acc ++ xs.filterMap out)) → lcRun g tt te δ R (xs.map f) acc
  | [], acc, _, _, h => by
    unfold lcRun
    simpa using h
  | d :: ds, acc, hs, hz, h => by
    rw [List.map_cons]
    unfold lcRun
    rw [List.length_cons] at hz
    refine hs d (by simp) (fun z => acc.length < sizeLine ∧ lcRun g tt te δ R (ds.map f) (acc ++ [z])) (lcRun g tt te δ R (ds.map f) acc) (fun z e => ⟨by omega, ?_⟩) fun e => ?_
    · refine lcE_map out ds (acc ++ [z]) (fun d' hd' => hs d' (by simp [hd'])) (by simp; omega) ?_
      simpa [List.filterMap_cons, e] using h
    · refine lcE_map out ds acc (fun d' hd' => hs d' (by simp [hd'])) (by omega) ?_
      simpa [List.filterMap_cons, e] using h
theorem fmE_keep {α β : Type} {keep : α → Bool} {h : α → β} : ∀ xs : List α, xs.filterMap (fun x => if keep x then some (h x) else none) = (xs.filter keep).map h
  | [] => rfl
  | x :: xs => by
    rw [List.filterMap_cons, List.filter_cons]
    cases keep x with
    | true => simp only [if_true, List.map_cons, fmE_keep xs]
    | false => simp only [Bool.false_eq_true, if_false, fmE_keep xs]
theorem fmE_all {α β : Type} {h : α → β} : ∀ xs : List α, xs.filterMap (fun x => some (h x)) = xs.map h
  | [] => rfl
  | x :: xs => by rw [List.filterMap_cons, List.map_cons, fmE_all xs]
/-- the comprehension keeps some and makes something of each -/
theorem lcE_keep {α : Type} {f : α → PyData} {g : MG} {tt : MT} {te : ME} {δ : DL.Env} {R : DV → Prop} (keep : α → Bool) (h : α → PyData) {xs : List α}
    (hs : ∀ x ∈ xs, ∀ (K1 : PyData → Prop) (K0 : Prop), (keep x = true → K1 (h x)) → (keep x = false → K0) → g (.d (f x)) δ fun δ' => tt ex0 δ' fun c => (c = true → te ex0 δ' fun y => match y.val with
      | some z => K1 z
      | none => False) ∧ (c = false → K0)) (hz : xs.length ≤ sizeLine) (hR : R (.own ((xs.filter keep).map h))) : lcRun g tt te δ R (xs.map f) [] := by
  refine lcE_map (fun x => if keep x then some (h x) else none) xs [] (fun x hx K1 K0 h1 h0 => hs x hx K1 K0 (fun e => h1 _ (if_pos e)) fun e => h0 (if_neg (by rw [e]; exact Bool.false_ne_true))) (by rw [List.length_nil]; omega) ?_
  rw [List.nil_append, fmE_keep]
  exact hR
/-- the comprehension makes something of each -/
theorem lcE_each {α : Type} {f : α → PyData} {g : MG} {tt : MT} {te : ME} {δ : DL.Env} {R : DV → Prop} (h : α → PyData) {xs : List α}
    (hs : ∀ x ∈ xs, ∀ (K1 : PyData → Prop) (K0 : Prop), K1 (h x) → g (.d (f x)) δ fun δ' => tt ex0 δ' fun c => (c = true → te ex0 δ' fun y => match y.val with
      | some z => K1 z
      | none => False) ∧ (c = false → K0)) (hz : xs.length ≤ sizeLine) (hR : R (.own (xs.map h))) : lcRun g tt te δ R (xs.map f) [] := by
  refine lcE_map (fun x => some (h x)) xs [] (fun x hx K1 K0 h1 _ => hs x hx K1 K0 (h1 _ rfl)) (by rw [List.length_nil]; omega) ?_
  rw [List.nil_append, fmE_all]
  exact hR
theorem natInts (ks : List Nat) : ks.map natD = (ks.map fun k : Nat => (k : Int)).map PyData.int := by rw [List.map_map]; rfl
theorem len_ltE {fs : List Nat} {n : Nat} (hn : fs.Nodup) (h : ∀ k ∈ fs, k < n) : fs.length ≤ n := by
  have p : fs.Perm ((List.range n).filter fun k => decide (k ∈ fs)) := (List.perm_ext_iff_of_nodup hn (List.Pairwise.filter _ List.nodup_range)).mpr fun a => by
    rw [List.mem_filter, List.mem_range]
    exact ⟨fun q => ⟨h a q, decide_eq_true q⟩, fun q => of_decide_eq_true q.2⟩
  rw [p.length_eq]
  exact Nat.le_trans (List.length_filter_le _ _) (by simp)
noncomputable def starts (l : SRow) : List Nat := (List.range l.length).map (startOf l)
theorem starts_rev {l : SRow} (I : Inc l) : (ends (mirror l)).reverse = (List.range l.length).map fun s => endOf (mirror l) (l.length - 1 - s) := by
  unfold ends
  rw [mirror_len]
  apply List.ext_getElem?
  intro i
  rcases Nat.lt_or_ge i l.length with c | c
  · rw [List.getElem?_reverse (by simpa using c), List.length_map, List.length_range, List.getElem?_map, List.getElem?_map, List.getElem?_range (by omega), List.getElem?_range c]
    rfl
  · rw [List.getElem?_eq_none (by simpa using c), List.getElem?_eq_none (by simpa using c)]
def mf_both_ends : MF := fun as R _ => ∃ l : SRow, as = [.d (rowD l)] ∧ Inc l ∧ R (.d (.tuple [.list ((starts l).map natD), .list ((ends l).map natD)]))
theorem d_both_ends {f : Addr} {fd : FuncData} (T : Txt K mg) (hm : mg "both_ends" = some (.ref f)) (F0 : L2.Fun K "both_ends" "both_ends" s_both_ends f fd) (hb : Binds K fd ["row"] []) (F_right_ends : DFn P w K mg base CK "right_ends" 1 0 1 mf_right_ends) (F_mirrored : DFn P w K mg base CK "mirrored" 1 0 1 mf_mirrored) : DFn P w K mg base CK "both_ends" 2 0 1 mf_both_ends :=
  (dfn_of hm F0 hb sc_both_ends (fun cdv A outer s H E cx =>
 (dss_cons (ds_setLc (i := 1) (own := [("stone", 2)]) (dom := [2]) (by rfl) sc_both_ends.nd rfl rfl (sw_true rfl rfl rfl (by decide +kernel)) (di_list (de_back (de_call cx F_right_ends (by decide) (by rfl) (da_cons (de_call cx F_mirrored (by decide) (by rfl) (da_cons (de_pv 0) da_nil)) da_nil)))) (blkOk_by (by kernel_rfl)) (by decide) (fun _ _ _ _ _ => (dg_name (i := 2) sc_both_ends.nd rfl (by first | exact Or.inl rfl | exact Or.inr rfl))) (fun _ _ _ _ _ => dts_nil) (fun _ _ _ _ _ => (de_sub (de_sub (de_len (by rfl) T.n_len (da_cons (de_pv 0) da_nil)) de_int) (de_pv 2))))
 (dss_one (ds_frz 1 (ds_ret (de_tup (da_cons (de_pv 1) (da_cons (de_call cx F_right_ends (by decide) (by rfl) (da_cons (de_pv 0) da_nil)) da_nil))))))))
  (by
    rintro as R ex hl ⟨l, rfl, I, h⟩
    have hn0 := I.n0
    have hn1 := I.n1
    walk_at "dx"
    refine ⟨l, rfl, hn0, hn1, ?_⟩
    dsimp only
    refine ⟨rfl, mirror l, rfl, I.mirror, ?_⟩
    walk_at "dx"
    rw [← List.map_reverse, starts_rev I, List.map_map]
    refine lcE_each (xs := List.range l.length) (f := fun s : Nat => natD (endOf (mirror l) (l.length - 1 - s))) (fun s => natD (startOf l s)) (fun s hs K1 K0 k1 => ?_) (by rw [List.length_range, sizeLine_eq]; omega) ?_
    · have hs := List.mem_range.mp hs
      have hE := (endOf_ok I.mirror (s := l.length - 1 - s) (by rw [mirror_len]; omega)).lt
      rw [mirror_len] at hE
      rw [show natD (endOf (mirror l) (l.length - 1 - s)) = .int ((endOf (mirror l) (l.length - 1 - s) : Nat) : Int) from rfl]
      unfold rowD
      walk_at "dx"
      rw [List.length_map]
      have e : natD (startOf l s) = .int (((l.length : Nat) : Int) - 1 - ((endOf (mirror l) (l.length - 1 - s) : Nat) : Int)) := by
        unfold startOf natD
        congr 1
        omega
      rw [← e]
      exact k1
    · refine ⟨rfl, l, rfl, I, ?_⟩
      walk_at "dx"
      refine ⟨by walk_at "lim", ?_⟩
      unfold starts at h
      rw [List.map_map] at h
      exact h)).le (by decide +kernel)
def mf_farthest : MF := fun as R _ => ∃ (l : SRow) (i : Nat), as = [.d (.list ((starts l).map natD)), .d (.list ((ends l).map natD)), .d (.int (i : Nat))] ∧ Inc l ∧ i < l.length ∧ R (.d (natD (farE l i)))
theorem d_farthest {f : Addr} {fd : FuncData} (T : Txt K mg) (hm : mg "farthest" = some (.ref f)) (F0 : L2.Fun K "farthest" "farthest" s_farthest f fd) (hb : Binds K fd ["lefts", "rights", "stone"] []) : DFn P w K mg base CK "farthest" 1 0 3 mf_farthest :=
  (dfn_of hm F0 hb sc_farthest (fun cdv A outer s H E cx =>
 (dss_cons (ds_setLc (i := 3) (own := [("last", 4)]) (dom := [4]) (by rfl) sc_farthest.nd rfl rfl (sw_true rfl rfl rfl (by decide +kernel)) (di_list (de_slice (de_pv 1) do_none (do_some (de_add (de_pv 2) de_int)))) (blkOk_by (by kernel_rfl)) (by decide) (fun _ _ _ _ _ => (dg_name (i := 4) sc_farthest.nd rfl (by first | exact Or.inl rfl | exact Or.inr rfl))) (fun _ _ _ _ _ => (dts_one (dt_ge (de_pv 4) (de_pv 2)))) (fun _ _ _ _ _ => (de_pv 4)))
 (dss_cons (ds_setLc (i := 5) (own := [("other", 6), ("low", 7)]) (dom := [6, 7]) (by rfl) sc_farthest.nd rfl rfl (sw_true rfl rfl rfl (by decide +kernel)) (di_enumL (by rfl) T.n_enumerate (da_cons (de_pv 0) da_nil)) (blkOk_by (by kernel_rfl)) (by decide) (fun _ _ _ _ _ => (dg_tup (by rfl) (dgs_cons (dg_name (i := 6) sc_farthest.nd rfl (by first | exact Or.inl rfl | exact Or.inr rfl)) (dgs_cons (dg_name (i := 7) sc_farthest.nd rfl (by first | exact Or.inl rfl | exact Or.inr rfl)) dgs_nil)))) (fun _ _ _ _ _ => (dts_one (dt_ch op_ge op_ge (de_pv 6) (de_pv 2) (de_pv 7)))) (fun _ _ _ _ _ => (de_pv 6)))
 (dss_one (ds_ret (de_maxA cx.u (by rfl) (by rfl) T.n_max (da_cons (de_add (de_pv 3) (de_pv 5)) da_nil)))))))
  (by
    rintro as R ex hl ⟨l, i, rfl, I, hi, h⟩
    have hn0 := I.n0
    have hn1 := I.n1
    walk_at "dx"
    rw [show (((i : Nat) : Int) + 1) = ((i + 1 : Nat) : Int) by push_cast; rfl, cut_pre (by omega), ← List.map_take, Int.toNat_natCast]
    refine lcE_keep (xs := (ends l).take (i + 1)) (f := natD) (fun e => decide (i ≤ e)) natD (fun e he K1 K0 k1 k0 => ?_) (by rw [List.length_take, sizeLine_eq]; omega) ?_
    · rw [show natD e = .int ((e : Nat) : Int) from rfl]
      walk_at "dx"
      exact ⟨fun c => k1 (decide_eq_true (by omega)), fun c => k0 (decide_eq_false (by omega))⟩
    · walk_at "dx"
      have en : enumD 0 ((starts l).map natD) = (List.range l.length).map fun m : Nat => .tuple [.int (m : Nat), natD (startOf l m)] := by
        unfold starts
        rw [List.map_map]
        apply List.ext_getElem?
        intro k
        rw [enumD_get, List.getElem?_map, List.getElem?_map, Nat.zero_add]
        rcases Nat.lt_or_ge k l.length with c | c
        · rw [List.getElem?_range c]
          rfl
        · rw [List.getElem?_eq_none (by simpa using c)]
          rfl
      rw [en]
      refine lcE_keep (xs := List.range l.length) (fun m => decide (startOf l m ≤ i ∧ i ≤ m)) natD (fun m hm K1 K0 k1 k0 => ?_) (by rw [List.length_range, sizeLine_eq]; omega) ?_
      · rw [show natD (startOf l m) = .int ((startOf l m : Nat) : Int) from rfl]
        walk_at "dx"
        refine ⟨fun c => ⟨fun c2 => k1 (decide_eq_true (by omega)), fun c2 => k0 (decide_eq_false (by omega))⟩, fun c => k0 (decide_eq_false (by omega))⟩
      · walk_at "dx"
        have z1 := List.length_filter_le (fun e => decide (i ≤ e)) ((ends l).take (i + 1))
        have z2 := List.length_filter_le (fun m => decide (startOf l m ≤ i ∧ i ≤ m)) (List.range l.length)
        rw [List.length_range] at z2
        rw [List.length_take] at z1
        refine ⟨by rw [List.length_map, List.length_map, sizeLine_eq]; omega, ?_⟩
        rw [← List.map_append, natInts, intsOf_map']
        dsimp only
        have key : ∀ m, m ∈ ((ends l).take (i + 1)).filter (fun e => decide (i ≤ e)) ++ (List.range l.length).filter (fun m => decide (startOf l m ≤ i ∧ i ≤ m)) ↔ m ∈ overN l i := fun m => by
          rw [List.mem_append, List.mem_filter, List.mem_filter, List.mem_range, over_mem, decide_eq_true_eq, decide_eq_true_eq]
          constructor
          · rintro (⟨h1, h2⟩ | ⟨h1, h2, h3⟩)
            · obtain ⟨s, hs, e⟩ := List.getElem_of_mem h1
              rw [List.length_take] at hs
              rw [List.getElem_take] at e
              have hsl : s < l.length := by unfold ends at hs; simp at hs; omega
              have e2 := ends_get hsl
              rw [List.getElem?_eq_getElem (by unfold ends; simpa using hsl)] at e2
              have e3 := (Option.some.inj e2).symm.trans e
              subst e3
              exact ⟨(s, endOf l s), sp_mem.mpr ⟨s, hsl, .inr rfl⟩, by show s ≤ i; omega, h2, rfl⟩
            · exact ⟨(startOf l m, m), sp_mem.mpr ⟨m, h1, .inl rfl⟩, h2, h3, rfl⟩
          · rintro ⟨q, hq, h1, h2, rfl⟩
            obtain ⟨s, hs, rfl | rfl⟩ := sp_mem.mp hq
            · exact .inr ⟨hs, h1, h2⟩
            · refine .inl ⟨?_, h2⟩
              have h1 : s ≤ i := h1
              have e2 := ends_get hs
              exact List.mem_of_getElem? (i := s) (by rw [List.getElem?_take, if_pos (by omega)]; exact e2)
        obtain ⟨q, q1, q2, q3, q4⟩ := far_ex I hi
        have hm := over_mem.mpr ⟨q, q1, q2, q3, q4⟩
        refine ⟨?_, fun m h1 h2 => ?_⟩
        · rw [List.length_map]
          exact List.length_pos_of_mem ((key _).mpr hm)
        · obtain ⟨a, ha, rfl⟩ := List.mem_map.mp h1
          have ha := (key a).mp ha
          have hle := h2 _ (List.mem_map.mpr ⟨_, (key _).mpr hm, rfl⟩)
          have e : a = farE l i := far_of ha fun x hx => by
            have := h2 _ (List.mem_map.mpr ⟨x, (key x).mpr hx, rfl⟩)
            omega
          rw [e]
          exact h)).le (by decide +kernel)
def mf_fewest_of : MF := fun as R _ => ∃ l : SRow, as = [.d (rowD l)] ∧ Inc l ∧ R (.d (natD (fewN l)))
theorem gr_goE {l : SRow} (I : Inc l) {i : Nat} (h : i < l.length) : gr (farE l) l.length l.length i = 1 + gr (farE l) l.length l.length (farE l i + 1) := by
  have hf := far_own I h
  obtain ⟨F, hF⟩ : ∃ F, l.length = F + 1 := ⟨l.length - 1, by omega⟩
  have e1 : gr (farE l) l.length (F + 1) i = 1 + gr (farE l) l.length F (farE l i + 1) := gr_one h (by omega)
  have e2 := gr_fuel (f := farE l) (n := l.length) (fun i hi => far_own I hi) F l.length (farE l i + 1) (by omega) (by omega)
  have e3 : gr (farE l) l.length l.length i = gr (farE l) l.length (F + 1) i := by rw [← hF]
  rw [e3, e1, e2]
theorem d_fewest_of {f : Addr} {fd : FuncData} (T : Txt K mg) (hm : mg "fewest_of" = some (.ref f)) (F0 : L2.Fun K "fewest_of" "fewest_of" s_fewest_of f fd) (hb : Binds K fd ["row"] []) (F_both_ends : DFn P w K mg base CK "both_ends" 2 0 1 mf_both_ends) (F_farthest : DFn P w K mg base CK "farthest" 1 0 3 mf_farthest) : DFn P w K mg base CK "fewest_of" 3 0 1 mf_fewest_of :=
  (dfn_of hm F0 hb sc_fewest_of (fun cdv A outer s H E cx =>
 (dss_cons (ds_asg (de_call cx F_both_ends (by decide) (by rfl) (da_cons (de_pv 0) da_nil)) (dg_tup (by rfl) (dgs_cons (dg_name (i := 1) sc_fewest_of.nd rfl (by first | exact Or.inl rfl | exact Or.inr rfl)) (dgs_cons (dg_name (i := 2) sc_fewest_of.nd rfl (by first | exact Or.inl rfl | exact Or.inr rfl)) dgs_nil))))
 (dss_cons (ds_tup2 (i := 3) (j := 4) (by rfl) sc_fewest_of.nd rfl rfl (by decide) (by first | exact Or.inl rfl | exact Or.inr rfl) (by first | exact Or.inl rfl | exact Or.inr rfl) (da_cons de_int (da_cons de_int da_nil)))
 (dss_cons (ds_while (Ctx.passes rfl) (dt_lt (de_pv 4) (de_len (by rfl) T.n_len (da_cons (de_pv 0) da_nil))) (dss_cons (ds_set (i := 4) sc_fewest_of.nd rfl (by first | exact Or.inl rfl | exact Or.inr rfl) (de_add (de_call cx F_farthest (by decide) (by rfl) (da_cons (de_pv 1) (da_cons (de_pv 2) (da_cons (de_pv 4) da_nil)))) de_int))
 (dss_one (ds_aug (i := 3) sc_fewest_of.nd rfl (by first | exact Or.inl rfl | exact Or.inr rfl) de_int ip_add))))
 (dss_one (ds_ret (de_pv 3)))))))
  (by
    rintro as R ex hl ⟨l, rfl, I, h⟩
    have hn0 := I.n0
    have hn1 := I.n1
    walk_at "dx"
    refine ⟨l, rfl, I, ?_⟩
    walk_at "dx"
    refine ⟨fun n δ => ∃ (c i : Nat), c + gr (farE l) l.length l.length i = fewN l ∧ i ≤ l.length ∧ c ≤ i ∧ n = l.length - i ∧ δ = [some (.d (rowD l)), some (.d (.list (List.map natD (starts l)))), some (.d (.list (List.map natD (ends l)))), some (.d (.int (c : Nat))), some (.d (.int (i : Nat)))], ⟨_, 0, 0, by unfold fewN; omega, Nat.zero_le _, Nat.le_refl _, rfl, rfl⟩, ?_⟩
    rintro n δ ⟨c, i, hc, hi, hci, rfl, rfl⟩
    walk_at "dx"
    unfold rowD
    walk_at "dx"
    rw [List.length_map]
    refine ⟨fun q => ?_, fun q => ?_⟩
    · have q : i < l.length := by omega
      have hf := far_own I q
      have hf2 := far_lt I q
      rw [gr_goE I q] at hc
      refine ⟨l, i, rfl, I, q, ?_⟩
      rw [show natD (farE l i) = .int ((farE l i : Nat) : Int) from rfl]
      walk_at "dx"
      exact ⟨l.length - (farE l i + 1), by omega, c + 1, farE l i + 1, by omega, by omega, by omega, rfl, by push_cast; rfl⟩
    · have : i = l.length := by omega
      subst this
      rw [gr_zero (Nat.le_refl _)] at hc
      rw [show fewN l = c by omega] at h
      exact h)).le (by decide +kernel)
def mf_is_endless : MF := fun as R _ => ∃ (l : SRow) (per : Int), as = [.d (rowD l), .d (.int per)] ∧ Per l per ∧ ∀ b : Bool, (b = true ↔ EndR (pP l per) (pH l) l.length ∨ EndL (pP l per) (pH l) l.length) → R (.d (.bool b))
theorem d_is_endless {f : Addr} {fd : FuncData} (T : Txt K mg) (hm : mg "is_endless" = some (.ref f)) (F0 : L2.Fun K "is_endless" "is_endless" s_is_endless f fd) (hb : Binds K fd ["row", "period"] []) (F_both_ends : DFn P w K mg base CK "both_ends" 2 0 1 mf_both_ends) (F_repeated : DFn P w K mg base CK "repeated" 1 0 3 mf_repeated) : DFn P w K mg base CK "is_endless" 3 0 2 mf_is_endless :=
  (dfn_of hm F0 hb sc_is_endless (fun cdv A outer s H E cx =>
 (dss_cons (ds_set (i := 2) sc_is_endless.nd rfl (by first | exact Or.inl rfl | exact Or.inr rfl) (de_len (by rfl) T.n_len (da_cons (de_pv 0) da_nil)))
 (dss_cons (ds_asg (de_call cx F_both_ends (by decide) (by rfl) (da_cons (de_call cx F_repeated (by decide) (by rfl) (da_cons (de_pv 0) (da_cons (de_pv 1) (da_cons de_int da_nil)))) da_nil)) (dg_tup (by rfl) (dgs_cons (dg_name (i := 3) sc_is_endless.nd rfl (by first | exact Or.inl rfl | exact Or.inr rfl)) (dgs_cons (dg_name (i := 4) sc_is_endless.nd rfl (by first | exact Or.inl rfl | exact Or.inr rfl)) dgs_nil))))
 (dss_one (ds_ret (de_or (de_ge (de_maxA cx.u (by rfl) (by rfl) T.n_max (da_cons (de_slice (de_pv 4) do_none (do_some (de_pv 2))) da_nil)) (de_mul de_int (de_pv 2))) (de_one (de_lt (de_minA cx.u (by rfl) (by rfl) T.n_min (da_cons (de_slice (de_pv 3) (do_some (de_mul de_int (de_pv 2))) do_none) da_nil)) (de_pv 2)))))))))
  (by
    rintro as R ex hl ⟨l, per, rfl, Pd, h⟩
    have hn0 := Pd.i.n0
    have hn1 := Pd.n
    have pos := Pd.pos
    have I3 : Inc (repL l per 3) := rep_inc Pd (by decide) (by omega)
    walk_at "dx"
    unfold rowD
    walk_at "dx"
    rw [List.length_map]
    refine ⟨l, per, 3, rfl, by omega, by omega, by omega, by omega, Pd.p1, ?_⟩
    walk_at "dx"
    refine ⟨_, rfl, I3, ?_⟩
    walk_at "dx"
    have hlen : (repL l per 3).length = 3 * l.length := rep_len l per 3
    rw [cut_pre (by omega), ← List.map_take, natInts, intsOf_map', cut_from (by omega), ← List.map_drop, natInts (List.drop _ _), intsOf_map']
    dsimp only
    have hm1 : ∀ x, x ∈ (ends (repL l per 3)).take l.length ↔ ∃ s, s < l.length ∧ endOf (repL l per 3) s = x := fun x => by
      constructor
      · intro hx
        obtain ⟨s, hs, e⟩ := List.getElem_of_mem hx
        rw [List.length_take] at hs
        rw [List.getElem_take] at e
        have hsl : s < (repL l per 3).length := by omega
        have e2 := ends_get hsl
        rw [List.getElem?_eq_getElem (by unfold ends; simpa using hsl)] at e2
        exact ⟨s, by omega, (Option.some.inj e2).symm.trans e⟩
      · rintro ⟨s, hs, rfl⟩
        exact List.mem_of_getElem? (i := s) (by rw [List.getElem?_take, if_pos hs]; exact ends_get (by omega))
    have hm2 : ∀ x, x ∈ (starts (repL l per 3)).drop (2 * (l.length : Int)).toNat ↔ ∃ s, 2 * l.length ≤ s ∧ s < 3 * l.length ∧ startOf (repL l per 3) s = x := fun x => by
      have e0 : (2 * (l.length : Int)).toNat = 2 * l.length := by omega
      have eg : ∀ s, s < 3 * l.length → (starts (repL l per 3))[s]? = some (startOf (repL l per 3) s) := fun s hs => by
        unfold starts
        rw [List.getElem?_map, List.getElem?_range (by omega)]
        rfl
      rw [e0]
      constructor
      · intro hx
        obtain ⟨s, hs⟩ := List.getElem?_of_mem hx
        rw [List.getElem?_drop] at hs
        have hlt : 2 * l.length + s < 3 * l.length := by
          have := (List.getElem?_eq_some_iff.mp hs).1
          unfold starts at this
          simpa [hlen] using this
        rw [eg _ hlt] at hs
        exact ⟨_, by omega, hlt, Option.some.inj hs⟩
      · rintro ⟨s, h1, h2, rfl⟩
        exact List.mem_of_getElem? (i := s - 2 * l.length) (by rw [List.getElem?_drop, show 2 * l.length + (s - 2 * l.length) = s by omega]; exact eg s h2)
    have hmul : CMul 2 (l.length : Nat) := .inl ⟨by decide, by decide⟩
    refine ⟨?_, fun m h1 h2 => ⟨hmul, fun c => ?_, fun c => ⟨hmul, ?_, fun m' h1' h2' => ?_⟩⟩⟩
    · rw [List.length_map]
      exact List.length_pos_of_mem ((hm1 _).mpr ⟨0, hn0, rfl⟩)
    · obtain ⟨x, hx, rfl⟩ := List.mem_map.mp h1
      obtain ⟨s, hs, rfl⟩ := (hm1 x).mp hx
      exact h true ⟨fun _ => .inl ((endR_iff I3).mpr ⟨s, hs, by omega⟩), fun _ => rfl⟩
    · rw [List.length_map]
      exact List.length_pos_of_mem ((hm2 _).mpr ⟨2 * l.length, Nat.le_refl _, by omega, rfl⟩)
    · obtain ⟨x, hx, rfl⟩ := List.mem_map.mp h1'
      obtain ⟨s, hs1, hs2, rfl⟩ := (hm2 x).mp hx
      refine h _ ⟨fun z => .inr ((endL_iff I3).mpr ⟨s, hs1, hs2, by have := of_decide_eq_true z; omega⟩), fun z => decide_eq_true ?_⟩
      rcases z with z | z
      · obtain ⟨q, hq, hq2⟩ := (endR_iff I3).mp z
        have := h2 _ (List.mem_map.mpr ⟨_, (hm1 _).mpr ⟨q, hq, rfl⟩, rfl⟩)
        omega
      · obtain ⟨q, q1, q2, q3⟩ := (endL_iff I3).mp z
        have := h2' _ (List.mem_map.mpr ⟨_, (hm2 _).mpr ⟨q, q1, q2, rfl⟩, rfl⟩)
        omega)).le (by decide +kernel)
/-- where a walk goes on from each stone: copies passed, and the stone there -/
noncomputable def nxtD (l : SRow) (per : Int) (b a s : Nat) : PyData := .tuple [.int ((((farT (pP l per) (pH l) ((b + 1 + a) * l.length) (b * l.length + s) + 1) / l.length : Nat) : Int) - (b : Nat)), .int (((farT (pP l per) (pH l) ((b + 1 + a) * l.length) (b * l.length + s) + 1) % l.length : Nat) : Int)]
noncomputable def nxtL (l : SRow) (per : Int) (b a : Nat) : List PyData := (List.range l.length).map (nxtD l per b a)
def mf_next_stones : MF := fun as R _ => ∃ (l : SRow) (per : Int) (b a : Nat), as = [.d (rowD l), .d (.int per), .d (.int (b : Nat)), .d (.int (a : Nat))] ∧ Per l per ∧ b ≤ 1 ∧ a ≤ 1 ∧ R (.d (.list (nxtL l per b a)))
theorem d_next_stones {f : Addr} {fd : FuncData} (T : Txt K mg) (hm : mg "next_stones" = some (.ref f)) (F0 : L2.Fun K "next_stones" "next_stones" s_next_stones f fd) (hb : Binds K fd ["row", "period", "before", "after"] []) (F_both_ends : DFn P w K mg base CK "both_ends" 2 0 1 mf_both_ends) (F_repeated : DFn P w K mg base CK "repeated" 1 0 3 mf_repeated) (F_farthest : DFn P w K mg base CK "farthest" 1 0 3 mf_farthest) : DFn P w K mg base CK "next_stones" 3 0 4 mf_next_stones :=
  (dfn_of hm F0 hb sc_next_stones (fun cdv A outer s H E cx =>
 (dss_cons (ds_set (i := 4) sc_next_stones.nd rfl (by first | exact Or.inl rfl | exact Or.inr rfl) (de_len (by rfl) T.n_len (da_cons (de_pv 0) da_nil)))
 (dss_cons (ds_asg (de_call cx F_both_ends (by decide) (by rfl) (da_cons (de_call cx F_repeated (by decide) (by rfl) (da_cons (de_pv 0) (da_cons (de_pv 1) (da_cons (de_add (de_add (de_pv 2) de_int) (de_pv 3)) da_nil)))) da_nil)) (dg_tup (by rfl) (dgs_cons (dg_name (i := 5) sc_next_stones.nd rfl (by first | exact Or.inl rfl | exact Or.inr rfl)) (dgs_cons (dg_name (i := 6) sc_next_stones.nd rfl (by first | exact Or.inl rfl | exact Or.inr rfl)) dgs_nil))))
 (dss_cons (ds_set (i := 7) sc_next_stones.nd rfl (by first | exact Or.inl rfl | exact Or.inr rfl) (de_lst da_nil))
 (dss_cons (ds_for (Ctx.passes rfl) (by rfl) (di_range1 (by rfl) T.n_range (da_cons (de_pv 4) da_nil)) (dg_name (i := 8) sc_next_stones.nd rfl (by first | exact Or.inl rfl | exact Or.inr rfl)) (dss_cons (ds_set (i := 9) sc_next_stones.nd rfl (by first | exact Or.inl rfl | exact Or.inr rfl) (de_add (de_call cx F_farthest (by decide) (by rfl) (da_cons (de_pv 5) (da_cons (de_pv 6) (da_cons (de_add (de_mul (de_pv 2) (de_pv 4)) (de_pv 8)) da_nil)))) de_int))
 (dss_one (ds_mut PySem.F.slot_list_append PySem.F.type_list_append mt_append mut_app (pv 7) (da_cons (de_tup (da_cons (de_sub (de_div (de_pv 9) (de_pv 4)) (de_pv 2)) (da_cons (de_mod (de_pv 9) (de_pv 4)) da_nil))) da_nil)))))
 (dss_one (ds_ret (de_pv 7))))))))
  (by
    rintro as R ex hl ⟨l, per, b, a, rfl, Pd, hb, ha, h⟩
    have hn0 := Pd.i.n0
    have hn1 := Pd.n
    have pos := Pd.pos
    have I3 : Inc (repL l per (b + 1 + a)) := rep_inc Pd (by omega) (by
      have : (b + 1 + a) * l.length ≤ 3 * l.length := Nat.mul_le_mul_right _ (by omega)
      omega)
    walk_at "dx"
    unfold rowD
    walk_at "dx"
    rw [List.length_map]
    refine ⟨l, per, b + 1 + a, by push_cast; rfl, by
      have : (b + 1 + a) * l.length ≤ 3 * l.length := Nat.mul_le_mul_right _ (by omega)
      omega, by omega, by omega, by omega, Pd.p1, ?_⟩
    walk_at "dx"
    refine ⟨_, rfl, I3, ?_⟩
    walk_at "dx"
    refine ⟨by walk_at "lim", by omega, by omega, ?_⟩
    have hlen : (repL l per (b + 1 + a)).length = (b + 1 + a) * l.length := rep_len l per (b + 1 + a)
    refine for_range (fun k δ => ∃ (x8 x9 : Option DV), δ = [some (.d (rowD l)), some (.d (.int per)), some (.d (.int (b : Nat))), some (.d (.int (a : Nat))), some (.d (.int (l.length : Nat))), some (.d (.list (List.map natD (starts (repL l per (b + 1 + a)))))), some (.d (.list (List.map natD (ends (repL l per (b + 1 + a)))))), some (.own ((List.range k).map (nxtD l per b a))), x8, x9]) ⟨none, none, rfl⟩ ?_ ?_
    · rintro δ ⟨x8, x9, rfl⟩
      walk_at "dx"
      exact h
    rintro k δ K hk ⟨x8, x9, rfl⟩ hK
    have hlt : b * l.length + k < (b + 1 + a) * l.length := by
      have : (b + 1) * l.length ≤ (b + 1 + a) * l.length := Nat.mul_le_mul_right _ (by omega)
      rw [Nat.succ_mul] at this
      omega
    have hle : b * l.length ≤ 1 * l.length := Nat.mul_le_mul_right _ hb
    walk_at "dx"
    refine ⟨.inl ⟨by omega, by omega⟩, repL l per (b + 1 + a), b * l.length + k, by push_cast; rfl, I3, by omega, ?_⟩
    rw [far_rep I3 hlt]
    rw [show natD (farT (pP l per) (pH l) ((b + 1 + a) * l.length) (b * l.length + k)) = .int ((farT (pP l per) (pH l) ((b + 1 + a) * l.length) (b * l.length + k) : Nat) : Int) from rfl]
    walk_at "dx"
    have f1 := (far_is (P := pP l per) (H := pH l) hlt).1
    refine ⟨cdiv (by omega) (by omega), by omega, by walk_at "lim", ?_⟩
    rw [if_pos (by rw [List.length_map, List.length_range, sizeLine_eq]; omega)]
    have e : (List.range k).map (nxtD l per b a) ++ [.tuple [.int ((((farT (pP l per) (pH l) ((b + 1 + a) * l.length) (b * l.length + k) : Nat) : Int) + 1) / (l.length : Nat) - (b : Nat)), .int ((((farT (pP l per) (pH l) ((b + 1 + a) * l.length) (b * l.length + k) : Nat) : Int) + 1) % (l.length : Nat))]] = (List.range (k + 1)).map (nxtD l per b a) := by
      rw [List.range_succ, List.map_append]
      rfl
    rw [e]
    exact hK _ ⟨_, _, rfl⟩)).le (by decide +kernel)
def mf_copies_fewest : MF := fun as R _ => ∃ (l : SRow) (per : Int) (t : Nat), as = [.d (rowD l), .d (.int per), .d (.int (t : Nat))] ∧ Per l per ∧ 1 ≤ t ∧ t ≤ 2000000000000 ∧ R (.d (natD (fewT (pP l per) (pH l) (t * l.length))))
def enS (e : Nat × Nat × Nat) : PyData × PyData := (natD e.1, .tuple [.int (e.2.1 : Nat), .int (e.2.2 : Nat)])
theorem lk_enS (k : Nat) : ∀ es : List (Nat × Nat × Nat), lkD (es.map enS) (.inl (k : Nat)) = (es.find? fun e => decide (e.1 = k)).map fun e => (enS e).2
  | [] => rfl
  | e :: es => by
    rw [List.map_cons, List.find?_cons]
    show (if keyQ (.inl ((k : Nat) : Int)) (.int ((e.1 : Nat) : Int)) = true then some (enS e).2 else lkD (es.map enS) (.inl (k : Nat))) = _
    have q : keyQ (.inl ((k : Nat) : Int)) (.int ((e.1 : Nat) : Int)) = decide (e.1 = k) := decide_eq_decide.mpr (by omega)
    rw [q]
    by_cases c : e.1 = k
    · rw [decide_eq_true c]
      rfl
    · rw [decide_eq_false c, if_neg Bool.false_ne_true, lk_enS k es]
/-- what was seen: keys are different stones, and from each a walk leads here -/
structure Seen (f : Nat → Nat) (N n : Nat) (es : List (Nat × Nat × Nat)) (cnt j : Nat) : Prop where
  nd : (es.map (·.1)).Nodup
  lt : ∀ e ∈ es, e.1 < n ∧ 0 < e.2.1 ∧ e.2.2 ≤ cnt ∧ Path f N (cnt - e.2.2) (e.2.1 * n + e.1) j
theorem Seen.nil {f : Nat → Nat} {N n cnt j : Nat} : Seen f N n [] cnt j := ⟨List.nodup_nil, fun e he => by cases he⟩
theorem Seen.step {f : Nat → Nat} {N n cnt j : Nat} {es : List (Nat × Nat × Nat)} (h : Seen f N n es cnt j) (hj : j < N) : Seen f N n es (cnt + 1) (f j + 1) := ⟨h.nd, fun e he => by
  obtain ⟨a, b, c, d⟩ := h.lt e he
  refine ⟨a, b, by omega, ?_⟩
  rw [show cnt + 1 - e.2.2 = (cnt - e.2.2) + 1 by omega]
  exact ⟨j, d, hj, rfl⟩⟩
theorem Seen.len {f : Nat → Nat} {N n cnt j : Nat} {es : List (Nat × Nat × Nat)} (h : Seen f N n es cnt j) : es.length ≤ n := by
  have := len_ltE h.nd (n := n) fun k hk => by
    obtain ⟨e, he, rfl⟩ := List.mem_map.mp hk
    exact (h.lt e he).1
  rwa [List.length_map] at this
/-- one more is seen -/
theorem Seen.put {f : Nat → Nat} {N n cnt c s : Nat} {es : List (Nat × Nat × Nat)} (h : Seen f N n es cnt (c * n + s)) (hc : 0 < c) (hs : s < n) : ∃ es', putD (es.map enS) (.inl (s : Nat)) (.tuple [.int (c : Nat), .int (cnt : Nat)]) = es'.map enS ∧ Seen f N n es' cnt (c * n + s) := by
  unfold putD
  rw [lk_enS]
  cases hf : es.find? fun e => decide (e.1 = s) with
  | none =>
    refine ⟨es ++ [(s, c, cnt)], by rw [List.map_append]; rfl, ?_, fun e he => ?_⟩
    · rw [List.map_append, List.nodup_append]
      refine ⟨h.nd, by simp, fun a ha b hb => ?_⟩
      obtain ⟨e, he, rfl⟩ := List.mem_map.mp ha
      have hb : b = s := by simpa using hb
      subst hb
      have := List.find?_eq_none.mp hf e he
      simpa using this
    · rcases List.mem_append.mp he with he | he
      · exact h.lt e he
      · cases List.mem_singleton.mp he
        refine ⟨hs, hc, Nat.le_refl _, ?_⟩
        rw [Nat.sub_self]
        rfl
  | some e0 =>
    refine ⟨es.map fun e => if e.1 = s then (s, c, cnt) else e, ?_, ?_, fun e he => ?_⟩
    · rw [if_pos (show (Option.map (fun e => (enS e).2) (some e0)).isSome = true from rfl), List.map_map, List.map_map]
      refine List.map_congr_left fun e _ => ?_
      show (if keyQ (.inl ((s : Nat) : Int)) (.int ((e.1 : Nat) : Int)) = true then ((enS e).1, PyData.tuple [.int (c : Nat), .int (cnt : Nat)]) else enS e) = enS (if e.1 = s then (s, c, cnt) else e)
      have qq : keyQ (.inl ((s : Nat) : Int)) (.int ((e.1 : Nat) : Int)) = decide (e.1 = s) := decide_eq_decide.mpr (by omega)
      rw [qq]
      by_cases q : e.1 = s
      · rw [decide_eq_true q, if_pos rfl, if_pos q]
        unfold enS
        rw [q]
      · rw [decide_eq_false q, if_neg Bool.false_ne_true, if_neg q]
    · rw [List.map_map]
      have e1 : (es.map ((·.1) ∘ fun e : Nat × Nat × Nat => if e.1 = s then (s, c, cnt) else e)) = es.map (·.1) := List.map_congr_left fun e _ => by
        show (if e.1 = s then (s, c, cnt) else e).1 = e.1
        split
        · rename_i q; exact q.symm
        · rfl
      rw [e1]
      exact h.nd
    · obtain ⟨e1, h1, rfl⟩ := List.mem_map.mp he
      split
      · refine ⟨hs, hc, Nat.le_refl _, ?_⟩
        rw [Nat.sub_self]
        rfl
      · exact h.lt e1 h1
theorem d_copies_fewest {f : Addr} {fd : FuncData} (T : Txt K mg) (hm : mg "copies_fewest" = some (.ref f)) (F0 : L2.Fun K "copies_fewest" "copies_fewest" s_copies_fewest f fd) (hb : Binds K fd ["row", "period", "times"] []) (F_is_endless : DFn P w K mg base CK "is_endless" 3 0 2 mf_is_endless) (F_fewest_of : DFn P w K mg base CK "fewest_of" 3 0 1 mf_fewest_of) (F_next_stones : DFn P w K mg base CK "next_stones" 3 0 4 mf_next_stones) (F_repeated : DFn P w K mg base CK "repeated" 1 0 3 mf_repeated) : DFn P w K mg base CK "copies_fewest" 4 0 3 mf_copies_fewest :=
  (dfn_of hm F0 hb sc_copies_fewest (fun cdv A outer s H E cx =>
 (dss_cons (ds_if (DW.dt (dw_or (dt_le (de_pv 2) (de_gi (by rfl) T.c_FEW)) (dw_or1 (dt_val (de_call cx F_is_endless (by decide) (by rfl) (da_cons (de_pv 0) (da_cons (de_pv 1) da_nil))))))) (dss_one (ds_ret (de_call cx F_fewest_of (by decide) (by rfl) (da_cons (de_call cx F_repeated (by decide) (by rfl) (da_cons (de_pv 0) (da_cons (de_pv 1) (da_cons (de_min2 (by rfl) (by rfl) T.n_min (da_cons (de_pv 2) (da_cons (de_gi (by rfl) T.c_FEW) da_nil))) da_nil)))) da_nil)))) dss_nil)
 (dss_cons (ds_par2 (i := 3) (j := 4) (by rfl) sc_copies_fewest.nd rfl rfl (by decide) rfl rfl (da_cons de_dictT0 (da_cons de_dict0 da_nil)) (by rfl))
 (dss_cons (ds_for (Ctx.passes rfl) (by rfl) (di_list (de_lst (da_cons (de_tup (da_cons de_int (da_cons de_int da_nil))) (da_cons (de_tup (da_cons de_int (da_cons de_int da_nil))) (da_cons (de_tup (da_cons de_int (da_cons de_int da_nil))) da_nil))))) (dg_name (i := 5) sc_copies_fewest.nd rfl (by first | exact Or.inl rfl | exact Or.inr rfl)) (dss_one (ds_tput cx.u (pv 3) (de_pv 5) (de_call cx F_next_stones (by decide) (by rfl) (da_cons (de_pv 0) (da_cons (de_pv 1) (da_cons (de_ix (de_pv 5) de_int) (da_cons (de_ix (de_pv 5) de_int) da_nil))))))))
 (dss_cons (ds_tup3 (i := 6) (j := 7) (l := 8) (by rfl) sc_copies_fewest.nd rfl rfl rfl (by decide) (by decide) (by decide) (by first | exact Or.inl rfl | exact Or.inr rfl) (by first | exact Or.inl rfl | exact Or.inr rfl) (by first | exact Or.inl rfl | exact Or.inr rfl) (da_cons de_int (da_cons de_int (da_cons de_int da_nil))))
 (dss_cons (ds_while (Ctx.passes rfl) (dt_lt (de_pv 7) (de_pv 2)) (dss_cons (ds_if (DW.dt (dw_and (dt_ch op_lt op_lt de_int (de_pv 7) (de_sub (de_pv 2) de_int)) (dw_and1 (dt_din cx.u (de_pv 8) (de_pv 4))))) (dss_cons (ds_par2 (i := 9) (j := 10) (by rfl) sc_copies_fewest.nd rfl rfl (by decide) rfl rfl (da_cons (de_sub (de_pv 7) (de_ix (de_dget cx.u (de_pv 4) (de_pv 8)) de_int)) (da_cons (de_sub (de_pv 6) (de_ix (de_dget cx.u (de_pv 4) (de_pv 8)) de_int)) da_nil)) (by rfl))
 (dss_cons (ds_set (i := 11) sc_copies_fewest.nd rfl (by first | exact Or.inl rfl | exact Or.inr rfl) (de_div (de_sub (de_sub (de_pv 2) de_int) (de_pv 7)) (de_pv 9)))
 (dss_cons (ds_aug (i := 7) sc_copies_fewest.nd rfl (by first | exact Or.inl rfl | exact Or.inr rfl) (de_mul (de_pv 11) (de_pv 9)) ip_add)
 (dss_cons (ds_aug (i := 6) sc_copies_fewest.nd rfl (by first | exact Or.inl rfl | exact Or.inr rfl) (de_mul (de_pv 11) (de_pv 10)) ip_add)
 (dss_one (ds_set (i := 4) sc_copies_fewest.nd rfl (by first | exact Or.inl rfl | exact Or.inr rfl) de_dict0)))))) (dss_one (ds_if (dt_gt (de_pv 7) de_int) (dss_one (ds_dput cx.u (pv 4) (de_pv 8) (de_tup (da_cons (de_pv 7) (da_cons (de_pv 6) da_nil))))) dss_nil)))
 (dss_cons (ds_set (i := 5) sc_copies_fewest.nd rfl (by first | exact Or.inl rfl | exact Or.inr rfl) (de_tup (da_cons (de_min2 (by rfl) (by rfl) T.n_min (da_cons de_int (da_cons (de_pv 7) da_nil))) (da_cons (de_min2 (by rfl) (by rfl) T.n_min (da_cons de_int (da_cons (de_sub (de_sub (de_pv 2) de_int) (de_pv 7)) da_nil))) da_nil))))
 (dss_cons (ds_asg (de_ix (de_tget cx.u (de_pv 3) (de_pv 5)) (de_pv 8)) (dg_tup (by rfl) (dgs_cons (dg_name (i := 12) sc_copies_fewest.nd rfl (by first | exact Or.inl rfl | exact Or.inr rfl)) (dgs_cons (dg_name (i := 8) sc_copies_fewest.nd rfl (by first | exact Or.inl rfl | exact Or.inr rfl)) dgs_nil))))
 (dss_cons (ds_aug (i := 7) sc_copies_fewest.nd rfl (by first | exact Or.inl rfl | exact Or.inr rfl) (de_pv 12) ip_add)
 (dss_one (ds_aug (i := 6) sc_copies_fewest.nd rfl (by first | exact Or.inl rfl | exact Or.inr rfl) de_int ip_add)))))))
 (dss_one (ds_ret (de_pv 6)))))))))
  (by
    rintro as R ex hl ⟨l, per, t, rfl, Pd, ht0, ht1, h⟩
    have hn0 := Pd.i.n0
    have hn1 := Pd.n
    have pos := Pd.pos
    have W := pw_of per hn0
    refine seq_gen (fun δ => 6 < t ∧ ¬ EndR (pP l per) (pH l) l.length ∧ ¬ EndL (pP l per) (pH l) l.length ∧ δ = [some (.d (rowD l)), some (.d (.int per)), some (.d (.int (t : Nat))), none, none, none, none, none, none, none, none, none, none]) ?_ fun K hK => ?_
    rotate_left
    · have fin : ∀ (c : Nat), 1 ≤ c → c ≤ 6 → fewT (pP l per) (pH l) (c * l.length) = fewT (pP l per) (pH l) (t * l.length) → mf_repeated [.d (rowD l), .d (.int per), .d (.int (c : Nat))] (fun x => match argsD [x] with
          | some as => as.length = 1 ∧ mf_fewest_of as (fun r => R r.fix) fun e => ex e
          | none => False) fun e => ex e := fun c c0 c1 e => by
        have hc : c * l.length ≤ 6 * l.length := Nat.mul_le_mul_right _ c1
        have Ic : Inc (repL l per c) := rep_inc Pd c0 (by omega)
        refine ⟨l, per, c, rfl, by omega, by omega, by omega, by omega, Pd.p1, ?_⟩
        refine ⟨rfl, _, rfl, Ic, ?_⟩
        rw [few_rep Ic, e]
        exact h
      walk_at "dx"
      refine ⟨fun c => ?_, fun c => ?_⟩
      · have := fin t (by omega) (by omega) rfl
        rw [if_neg (by omega)]
        exact this
      · refine ⟨l, per, rfl, Pd, fun b hb => ?_⟩
        walk_at "dx"
        refine ⟨fun z => ?_, fun z => ?_⟩
        · rw [if_pos (by omega)]
          exact fin 6 (by omega) (by omega) (((few_end W (hb.mp z) (t := 6) (by omega))).trans (few_end W (hb.mp z) (t := t) (by omega)).symm)
        · have hn : ¬ (EndR (pP l per) (pH l) l.length ∨ EndL (pP l per) (pH l) l.length) := fun q => by
            rw [hb.mpr q] at z
            cases z
          exact hK _ ⟨by omega, fun q => hn (.inl q), fun q => hn (.inr q), rfl⟩
    rintro δ ⟨ht, hR, hL, rfl⟩
    walk_at "dx"
    refine fun da => ⟨by walk_at "lim", by walk_at "lim", by walk_at "lim", by walk_at "lim", fun x hx => by cases List.mem_singleton.mp hx; rfl, ?_⟩
    have nx : ∀ (b a : Nat) (ex : DExc → Prop) (R : DV → Prop), b ≤ 1 → a ≤ 1 → R (.d (.list (nxtL l per b a))) → mf_next_stones [.d (rowD l), .d (.int per), .d (.int (b : Nat)), .d (.int (a : Nat))] R ex := fun b a ex R hb ha hR => ⟨l, per, b, a, rfl, Pd, hb, ha, hR⟩
    unfold forRun
    walk_at "dx"
    refine nx 0 1 _ _ (by decide) (by decide) ?_
    walk_at "dx"
    refine ⟨by walk_at "lim", ?_⟩
    unfold forRun
    walk_at "dx"
    refine nx 1 1 _ _ (by decide) (by decide) ?_
    walk_at "dx"
    refine ⟨by simp [putT, lkT, sizeLine_eq], ?_⟩
    unfold forRun
    walk_at "dx"
    refine nx 1 0 _ _ (by decide) (by decide) ?_
    walk_at "dx"
    refine ⟨by simp [putT, lkT, sizeLine_eq], ?_⟩
    unfold forRun
    walk_at "dx"
    have tb : ∀ (b a : Nat), (b = 0 ∧ a = 1) ∨ (b = 1 ∧ a = 1) ∨ (b = 1 ∧ a = 0) → lkT (putT (putT (putT [] [Sum.inl 0, Sum.inl 1] (.list (nxtL l per 0 1))) [Sum.inl 1, Sum.inl 1] (.list (nxtL l per 1 1))) [Sum.inl 1, Sum.inl 0] (.list (nxtL l per 1 0))) [Sum.inl ((b : Nat) : Int), Sum.inl ((a : Nat) : Int)] = some (.list (nxtL l per b a)) := fun b a h => by
      rcases h with ⟨rfl, rfl⟩ | ⟨rfl, rfl⟩ | ⟨rfl, rfl⟩
      · simp [putT, lkT]
      · simp [putT, lkT]
      · simp [putT, lkT]
    generalize putT (putT (putT [] [Sum.inl 0, Sum.inl 1] (.list (nxtL l per 0 1))) [Sum.inl 1, Sum.inl 1] (.list (nxtL l per 1 1))) [Sum.inl 1, Sum.inl 0] (.list (nxtL l per 1 0)) = tks at tb ⊢
    have f0 : ∀ {i}, i < t * l.length → i ≤ farT (pP l per) (pH l) (t * l.length) i ∧ farT (pP l per) (pH l) (t * l.length) i < t * l.length := fun hi => ⟨far_up hi, (far_is hi).1⟩
    refine ⟨fun z δ => ∃ (c s cnt : Nat) (es : List (Nat × Nat × Nat)) (x5 : PyData) (x9 x10 x11 x12 : Option DV), s < l.length ∧ cnt + gr (farT (pP l per) (pH l) (t * l.length)) (t * l.length) (t * l.length) (c * l.length + s) = fewT (pP l per) (pH l) (t * l.length) ∧ Seen (farT (pP l per) (pH l) (t * l.length)) (t * l.length) l.length es cnt (c * l.length + s) ∧ (∀ e ∈ es, e.2.2 < cnt) ∧ cnt ≤ c * l.length + s ∧ c * l.length + s ≤ t * l.length ∧ z = t * l.length - (c * l.length + s) ∧ δ = [some (.d (rowD l)), some (.d (.int per)), some (.d (.int (t : Nat))), some (.odt da tks), some (.odk (es.map enS)), some (.d x5), some (.d (.int (cnt : Nat))), some (.d (.int (c : Nat))), some (.d (.int (s : Nat))), x9, x10, x11, x12], ⟨_, 0, 0, 0, [], _, none, none, none, none, hn0, by rw [Nat.zero_mul, Nat.zero_add]; rfl, .nil, fun e he => (by cases he), by omega, by omega, rfl, rfl⟩, ?_⟩
    rintro z δ ⟨c, s, cnt, es, x5, x9, x10, x11, x12, hs, hcnt, hS, hS2, hci, hcN, rfl, rfl⟩
    change (decide ((c : Int) < (t : Int)) = true → mSeq _ _ _ _ _) ∧ (decide ((c : Int) < (t : Int)) = false → _)
    refine ⟨fun hct => ?_, fun hct => ?_⟩
    rotate_left
    · have hct := of_decide_eq_false hct
      have : t * l.length ≤ c * l.length := Nat.mul_le_mul_right _ (by omega)
      rw [gr_zero (by omega), Nat.add_zero] at hcnt
      rw [← hcnt] at h
      walk_at "dx"
      exact h
    have hct : c < t := by have := of_decide_eq_true hct; omega
    refine seq_gen (fun δ => ∃ (c' cnt' : Nat) (es' : List (Nat × Nat × Nat)) (x9 x10 x11 : Option DV), c ≤ c' ∧ c' < t ∧ cnt' + gr (farT (pP l per) (pH l) (t * l.length)) (t * l.length) (t * l.length) (c' * l.length + s) = fewT (pP l per) (pH l) (t * l.length) ∧ Seen (farT (pP l per) (pH l) (t * l.length)) (t * l.length) l.length es' cnt' (c' * l.length + s) ∧ cnt' ≤ c' * l.length + s ∧ δ = [some (.d (rowD l)), some (.d (.int per)), some (.d (.int (t : Nat))), some (.odt da tks), some (.odk (es'.map enS)), some (.d x5), some (.d (.int (cnt' : Nat))), some (.d (.int (c' : Nat))), some (.d (.int (s : Nat))), x9, x10, x11, x12]) ?_ fun K hK => ?_
    rotate_left
    · have hput : 0 < c → K [some (.d (rowD l)), some (.d (.int per)), some (.d (.int (t : Nat))), some (.odt da tks), some (.odk (putD (es.map enS) (.inl (s : Nat)) (.tuple [.int (c : Nat), .int (cnt : Nat)]))), some (.d x5), some (.d (.int (cnt : Nat))), some (.d (.int (c : Nat))), some (.d (.int (s : Nat))), x9, x10, x11, x12] := fun c0 => by
        obtain ⟨es', e1, S'⟩ := hS.put c0 hs
        rw [e1]
        exact hK _ ⟨c, cnt, es', _, _, _, Nat.le_refl _, hct, hcnt, S', hci, rfl⟩
      have hlen := hS.len
      walk_at "dx"
      refine ⟨fun c0 => ⟨fun c1 => ⟨fun hin => ?_, fun hin => ?_⟩, fun c1 => ?_⟩, fun c0 => ?_⟩
      · rw [lk_enS] at hin ⊢
        cases hf : es.find? fun e => decide (e.1 = s) with
        | none => rw [hf] at hin; cases hin
        | some e0 =>
          have he0 : e0.1 = s := by have := List.find?_some hf; simpa using this
          have hmem := List.mem_of_find?_eq_some hf
          obtain ⟨h1, h2, h3, h4⟩ := hS.lt e0 hmem
          have h5 := hS2 e0 hmem
          obtain ⟨e1, c00, k0⟩ := e0
          cases he0
          dsimp only at h2 h3 h4 h5
          have hp := path_le h4
          have hcc : c00 < c := by
            rcases Nat.lt_or_ge c00 c with q | q
            · exact q
            · have : c * l.length ≤ c00 * l.length := Nat.mul_le_mul_right _ q
              omega
          obtain ⟨p, rfl⟩ : ∃ p, c = c00 + p := ⟨c - c00, by omega⟩
          obtain ⟨k, rfl⟩ : ∃ k, cnt = k0 + k := ⟨cnt - k0, by omega⟩
          obtain ⟨r, hr⟩ : ∃ r, r = (t - 2 - (c00 + p)) / p := ⟨_, rfl⟩
          have hrp : r * p ≤ t - 2 - (c00 + p) := by rw [hr]; exact Nat.div_mul_le_self _ _
          have hrt : r ≤ t := by
            have : r * 1 ≤ r * p := Nat.mul_le_mul_left _ (by omega)
            omega
          have er : ((t : Int) - 2 - ((c00 + p : Nat) : Int)) / (((c00 + p : Nat) : Int) - (c00 : Nat)) = (r : Nat) := by
            rw [hr, show (t : Int) - 2 - ((c00 + p : Nat) : Int) = ((t - 2 - (c00 + p) : Nat) : Int) by omega, show ((c00 + p : Nat) : Int) - (c00 : Nat) = (p : Nat) by omega]
            rfl
          unfold enS
          walk_at "dx"
          rw [er]
          have e2 : ((k0 + k : Nat) : Int) + (r : Nat) * (((k0 + k : Nat) : Int) - (k0 : Nat)) = ((k0 + k + r * k : Nat) : Int) := by
            rw [show ((k0 + k : Nat) : Int) - (k0 : Nat) = (k : Nat) by omega]
            push_cast
            rfl
          have e3 : ((c00 + p : Nat) : Int) + (r : Nat) * (((c00 + p : Nat) : Int) - (c00 : Nat)) = ((c00 + p + r * p : Nat) : Int) := by
            rw [show ((c00 + p : Nat) : Int) - (c00 : Nat) = (p : Nat) by omega]
            push_cast
            rfl
          rw [e2, e3]
          have hn1' : t * l.length ≤ 2000000000000 * 64 := Nat.mul_le_mul ht1 hn1
          refine ⟨cdiv (by omega) (by omega), .inl ⟨by omega, by omega⟩, .inl ⟨by omega, by omega⟩, ?_⟩
          dsimp only at h4 hcnt hci hcN hs hK
          have h4' : Path (farT (pP l per) (pH l) (t * l.length)) (t * l.length) k (c00 * l.length + e1) (c00 * l.length + e1 + p * l.length) := by
            rw [show k0 + k - k0 = k by omega] at h4
            rw [show c00 * l.length + e1 + p * l.length = (c00 + p) * l.length + e1 by rw [Nat.add_mul]; omega]
            exact h4
          have hge : 1 * l.length ≤ c00 * l.length := Nat.mul_le_mul_right _ h2
          have hup : (c00 + p + r * p + 1) * l.length ≤ (t - 1) * l.length := Nat.mul_le_mul_right _ (by omega)
          have ej : (c00 + p + r * p) * l.length + e1 = c00 * l.length + e1 + p * l.length + r * p * l.length := by
            rw [Nat.add_mul, Nat.add_mul]
            omega
          have ei : (c00 + p) * l.length + e1 = c00 * l.length + e1 + p * l.length := by
            rw [Nat.add_mul]
            omega
          rw [Nat.succ_mul] at hup
          have hP := path_rounds W hR hL h4' (by omega) r (by omega)
          have hG := path_gr hP
          have hL2 := path_le hP
          rw [← ej] at hG hP hL2
          rw [ei, hG] at hcnt
          rw [ei] at hci
          exact hK _ ⟨c00 + p + r * p, k0 + k + r * k, [], _, _, _, Nat.le_add_right _ _, by omega, by omega, .nil, by omega, rfl⟩
      · refine ⟨fun c2 => ⟨by walk_at "lim", by rw [List.length_map, sizeLine_eq]; omega, hput (by omega)⟩, fun c2 => hK _ ⟨c, cnt, es, _, _, _, Nat.le_refl _, hct, hcnt, hS, hci, rfl⟩⟩
      · refine ⟨fun c2 => ⟨by walk_at "lim", by rw [List.length_map, sizeLine_eq]; omega, hput (by omega)⟩, fun c2 => hK _ ⟨c, cnt, es, _, _, _, Nat.le_refl _, hct, hcnt, hS, hci, rfl⟩⟩
      · refine ⟨fun c2 => ⟨by walk_at "lim", by rw [List.length_map, sizeLine_eq]; omega, hput (by omega)⟩, fun c2 => hK _ ⟨c, cnt, es, _, _, _, Nat.le_refl _, hct, hcnt, hS, hci, rfl⟩⟩
    rintro δ ⟨c', cnt', es', x9, x10, x11, hcc, hct', hcnt', hS', hci', rfl⟩
    walk_at "dx"
    have hn1' : t * l.length ≤ 2000000000000 * 64 := Nat.mul_le_mul ht1 hn1
    obtain ⟨b, hb⟩ : ∃ b, b = min 1 c' := ⟨_, rfl⟩
    obtain ⟨a, ha⟩ : ∃ a, a = min 1 (t - 1 - c') := ⟨_, rfl⟩
    have eb : (if (c' : Int) < 1 then (c' : Int) else 1) = (b : Nat) := by split <;> omega
    have ea : (if (t : Int) - 1 - (c' : Int) < 1 then (t : Int) - 1 - (c' : Int) else 1) = (a : Nat) := by split <;> omega
    rw [eb, ea]
    have hab : (b = 0 ∧ a = 1) ∨ (b = 1 ∧ a = 1) ∨ (b = 1 ∧ a = 0) := by omega
    have hloc := far_local W hR hL hct' hs hb ha
    have hlt : c' * l.length + s < t * l.length := by
      have : (c' + 1) * l.length ≤ t * l.length := Nat.mul_le_mul_right _ (by omega)
      rw [Nat.succ_mul] at this
      omega
    obtain ⟨g1, g2⟩ := f0 hlt
    refine ⟨by walk_at "lim", ?_⟩
    change (match lkT tks [Sum.inl ((b : Nat) : Int), Sum.inl ((a : Nat) : Int)] with
      | some d => _
      | none => False)
    rw [tb b a hab]
    dsimp only
    unfold nxtL
    walk_at "dx"
    rw [atI_map (f := nxtD l per b a) s rfl (List.getElem?_range hs)]
    unfold nxtD
    walk_at "dx"
    have ix : ((c' - b) + (farT (pP l per) (pH l) ((b + 1 + a) * l.length) (b * l.length + s) + 1) / l.length) * l.length + (farT (pP l per) (pH l) ((b + 1 + a) * l.length) (b * l.length + s) + 1) % l.length = farT (pP l per) (pH l) (t * l.length) (c' * l.length + s) + 1 := by
      have := Nat.div_add_mod (farT (pP l per) (pH l) ((b + 1 + a) * l.length) (b * l.length + s) + 1) l.length
      rw [Nat.mul_comm] at this
      rw [Nat.add_mul, hloc]
      omega
    have hm := Nat.mod_lt (farT (pP l per) (pH l) ((b + 1 + a) * l.length) (b * l.length + s) + 1) hn0
    have hcl : c * l.length ≤ c' * l.length := Nat.mul_le_mul_right _ hcc
    rw [gr_go hlt] at hcnt'
    have hS'' := hS'.step hlt
    have hc2 : (((c' - b) + (farT (pP l per) (pH l) ((b + 1 + a) * l.length) (b * l.length + s) + 1) / l.length : Nat) : Int) = (c' : Int) + (((farT (pP l per) (pH l) ((b + 1 + a) * l.length) (b * l.length + s) + 1) / l.length : Nat) - (b : Nat)) := by
      push_cast
      omega
    have hc3 : ((cnt' + 1 : Nat) : Int) = (cnt' : Int) + 1 := by push_cast; rfl
    rw [← hc2, ← hc3]
    refine ⟨t * l.length - (farT (pP l per) (pH l) (t * l.length) (c' * l.length + s) + 1), by omega, (c' - b) + (farT (pP l per) (pH l) ((b + 1 + a) * l.length) (b * l.length + s) + 1) / l.length, (farT (pP l per) (pH l) ((b + 1 + a) * l.length) (b * l.length + s) + 1) % l.length, cnt' + 1, es', _, _, _, _, _, hm, ?_, ?_, fun e he => ?_, ?_, ?_, ?_, rfl⟩
    · rw [ix]
      omega
    · rw [ix]
      exact hS''
    · have := (hS'.lt e he).2.2.1
      omega
    · rw [ix]
      omega
    · rw [ix]
      omega
    · rw [ix])).le (by decide +kernel)
theorem d__law_horn {f : Addr} {fd : FuncData} (T : Txt K mg) (hm : mg "_law_horn" = some (.ref f)) (F0 : L2.Fun K "_law_horn" "_law_horn" s__law_horn f fd) (hb : Binds K fd ["_law_script"] []) : DHorn P w K mg base := by
  refine ⟨f, fd, _, hm, F0.kp, hb, rfl, fnG_of F0 sc__law_horn (fun vs H Q E h => ?_) fun cdv A outer s H vs Q E hg hr h => ?_⟩
  · obtain ⟨a, ns, rfl, _⟩ := h
    rfl
  · obtain ⟨a, ns, rfl, hl, hS, k⟩ := h
    have cx : DL.Ctx (cxOf (L2.CX P w) P w K mg base ["_law_script", "_law_mixed", "_law_large", "_law_cell"] "_law_horn" (defScope s__law_horn) f cdv A outer s H E) ⟨fun _ _ _ _ => False, fun _ _ _ _ => True⟩ 0 := ⟨hg, hr, takes0⟩
    refine ⟨_, DSs.pss (W := ⟨fun _ _ _ _ => False, fun _ _ _ _ => True⟩)
 (dss_cons (ds_par2 (i := 1) (j := 2) (by rfl) sc__law_horn.nd rfl rfl (by decide) rfl rfl (da_cons (de_add de_int (de_len (by rfl) T.n_len (da_cons (de_pv 0) da_nil))) (da_cons (de_lst da_nil) da_nil)) (by rfl))
 (dss_cons (ds_for (Ctx.passes rfl) (by rfl) (di_list (de_pv 0)) (dg_name (i := 3) sc__law_horn.nd rfl (by first | exact Or.inl rfl | exact Or.inr rfl)) (dss_cons (ds_set (i := 1) sc__law_horn.nd rfl (by first | exact Or.inl rfl | exact Or.inr rfl) (de_mod (de_add (de_mul (de_pv 1) de_int) (de_mod (de_pv 3) de_int)) de_int))
 (dss_one (ds_if (dt_ge (de_pv 3) (de_pow de_int de_int)) (dss_one (ds_mut PySem.F.slot_list_insert PySem.F.type_list_insert mt_insert' mut_ins (pv 2) (da_cons de_int (da_cons (de_pv 3) da_nil)))) dss_nil))))
 (dss_one (ds_frz 2 (ds_ret (de_lst (da_cons (de_pv 1) (da_cons (de_pv 2) da_nil)))))))), ?_⟩
    have nol : ∀ {u : Nat} {G : Gm} {τ : DL.Env} {ts : L2.St}, Link K mg ⟨fun _ _ _ _ => False, fun _ _ _ _ => True⟩ u G τ ts (fun _ _ => False) := fun _ _ _ _ _ _ _ _ _ _ _ _ _ _ z => z
    refine ⟨fun _ _ => False, _, _, [some (.scr ns), none, none, none], [], [], ⟨fun δ => False, fun r => ∃ (z : Int) (gs : List Int), r = .d (.list [.int z, .list (gs.map .int)]) ∧ 0 ≤ z ∧ z < 2 ^ 64 ∧ gs.length ≤ 64, fun _ => False, fun _ => False, fun _ _ => False⟩, ⟨rfl, rfl, rfl, good_script hS 3 0, nol, trivial, Nat.le_refl _⟩, ?_, ⟨fun _ z => z.elim, fun _ z => z.elim, fun _ z => z.elim, ?_, fun _ _ z => z.elim⟩, ?_⟩
    · intro i x e
      match i, e with
      | 0, e => cases e; rfl
      | 1, e => cases e
      | 2, e => cases e
      | 3, e => cases e
      | i + 4, e => simp at e
    · rintro r ⟨z, gs, rfl, q1, q2, q3⟩ _ b v F2 H2 _ g
      obtain ⟨v', e1, h1⟩ := g.sl 0 _ rfl
      cases e1
      have h2 : At K F2 v (.list [.int z, .list (gs.map .int)]) := h1
      cases h2 with
      | @lst c vs _ hc hvs =>
        cases hvs with
        | cons a1 a2 =>
          cases a2 with
          | cons a2 a3 =>
            cases a3
            cases a1
            cases a2 with
            | @lst l ws _ hl2 hws =>
              have e := AtL.ints hws
              subst e
              have ne : c ≠ l := fun q => by
                rw [q, hl2] at hc
                have hc := HO.lst.inj (Option.some.inj hc)
                cases gs with
                | nil => cases hc
                | cons g1 gs =>
                  cases gs with
                  | nil => cases hc
                  | cons g2 gs => cases hc
              exact k c l H2 ne ⟨z, gs, g.fh _ _ hc, g.fh _ _ hl2, q1, q2, q3⟩
    · walk_at "dl"
      refine ⟨by walk_at "lim", by simp [DV.isBor], ?_⟩
      refine for_at (fun j δ => ∃ (z : Int) (gs : List Int) (a3 : Option DV), δ = [some (.scr ns), some (.d (.int z)), some (.own (gs.map .int)), a3] ∧ 0 ≤ z ∧ z < 2 ^ 64 ∧ gs.length ≤ j) ⟨_, [], _, rfl, by omega, by omega, by simp⟩ ?_ ?_
      · rintro δ ⟨z, gs, a3, rfl, z0, z1, hgs⟩
        rw [List.length_map] at hgs
        walk_at "dl"
        exact ⟨by walk_at "lim", z, gs, rfl, z0, z1, by omega⟩
      · rintro j d δ K hd ⟨z, gs, a3, rfl, z0, z1, hgs⟩ hK
        have hj : j < ns.length := by
          have := (List.getElem?_eq_some_iff.mp hd).1
          simpa using this
        rw [List.getElem?_map] at hd
        obtain ⟨n, hn, rfl⟩ : ∃ n, ns[j]? = some n ∧ .int n = d := by
          cases e : ns[j]? with
          | none => rw [e] at hd; cases hd
          | some n => rw [e] at hd; exact ⟨n, rfl, Option.some.inj hd⟩
        walk_at "dl"
        have hz : (z * 16777619 + n % 4294967291) % 18446744073709551557 < 2 ^ 64 := by omega
        have hz' : 0 ≤ (z * 16777619 + n % 4294967291) % 18446744073709551557 := by omega
        generalize (z * 16777619 + n % 4294967291) % 18446744073709551557 = Z at *
        refine ⟨.inl ⟨by omega, by omega⟩, by decide, by decide, ⟨by decide, by decide, by decide⟩, fun _ => ?_, fun _ => ?_⟩
        · rw [if_pos (by rw [List.length_map, sizeLine_eq]; omega)]
          exact hK _ ⟨Z, n :: gs, _, rfl, hz', hz, by simp; omega⟩
        · exact hK _ ⟨Z, gs, _, rfl, hz', hz, by omega⟩
theorem d__law_blow {f : Addr} {fd : FuncData} (T : Txt K mg) (hm : mg "_law_blow" = some (.ref f)) (F0 : L2.Fun K "_law_blow" "_law_blow" s__law_blow f fd) (hb : Binds K fd ["_law_horn_here", "_law_many"] []) : DFn P w K mg base CK "_law_blow" 1 1 2 mf__law_blow := by
  refine ⟨f, fd, _, hm, F0.kp, hb, rfl, fnG_of F0 sc__law_blow (fun vs H Q E q => q.1) fun cdv A outer s H vs Q E hg hr q => ?_⟩
  obtain ⟨hn, G, F, as, R, ex, hK, ⟨⟨c, l, hne, hC, hcv, hJ, hlim⟩, hnu⟩, hl, harg, g, ⟨m, rfl, hm1, hR⟩, hQ, hE⟩ := q
  obtain ⟨v1, v2, rfl, h1, h2, _⟩ := two_of (A := []) (A' := []) hl (by simpa using g)
  have e1 : v1 = .ref c := by rw [← hcv]; exact h1
  subst e1
  cases int_of h2
  have hj := g.jh
  rw [hJ] at hj
  obtain ⟨z, gs, hc, hl1, hz0, hz1, hg64⟩ := hj
  have hu := hu_of hr
  have hu64 := hr.units
  refine ⟨_, pss_cons (ps_if (pt_cmpR op_lt (pv 1) pe_int (nomark _)) (pss_one (ps_ret pe_int)) pss_nil)
    (pss_cons (ps_if (pt_cmpR (op_neA hu64) (pe_ix ix_list (pv 0) pe_int (fun _ _ => rfl)) (pe_lst pa_nil) (nomark _))
      (pss_cons (ps_set (i := 2) sc__law_blow.nd rfl (Or.inl rfl) (pe_bm0 PySem.F.plainAttrs_list PySem.F.slot_list_pop PySem.F.type_list_pop mt_pop (pe_ix ix_list (pv 0) pe_int (fun _ _ => rfl))))
      (pss_cons (ps_if (pt_cmpR op_ge (pv 2) (pv 1) (nomark _))
        (pss_one (ps_expr (pe_bm PySem.F.plainAttrs_list PySem.F.slot_list_append PySem.F.type_list_append mt_append (pe_ix ix_list (pv 0) pe_int (fun _ _ => rfl)) (pa_cons (pe_op op_fdivW (pv 2) (pv 1)) pa_nil)))) pss_nil)
      (pss_one (ps_ret (pe_op op_mod (pv 2) (pv 1)))))) pss_nil)
    (pss_cons (ps_asg (pe_op op_mod (pe_op op_add (pe_op op_mul (pe_ix ix_list (pv 0) pe_int (fun _ _ => rfl)) pe_int) pe_int) pe_int) (pg_sub (pv 0) pe_int set_list (by intro _; rfl)) (by rfl) (by rfl) (by rfl))
    (pss_one (ps_ret (pe_op op_mod (pe_op op_fdivW (pe_ix ix_list (pv 0) pe_int (fun _ _ => rfl)) pe_int) (pv 1)))))), ?_⟩
  have fin : ∀ (H' : Hp) (z' : Int) (gr : List Int) (r : Int), H' c = some (.lst [.int z', .ref l]) → H' l = some (.lst (gr.map V.int)) → 0 ≤ z' → z' < 2 ^ 64 → gr.length ≤ 64 → (∀ p, p ≠ c → p ≠ l → ∀ o, H p = some o → H' p = some o) → 0 ≤ r → r < max m 1 → Q (.int r) H' := fun H' z' gr r q1 q2 q3 q4 q4' q5 q6 q7 => by
    refine hQ (.d (.int r)) (hR r q6 q7) rfl (.int r) F H' ?_
    have g0 : Good (G.up 1) F ([] : DL.Env) ([] : L2.St) H' := g.draw (k := 1) (fun p np o e => by
      rw [hC] at np
      exact q5 p (fun z => np (.inl z)) (fun z => np (.inr z)) o e) (by
      rw [hJ]
      exact ⟨z', gr, q1, q2, q3, q4, q4'⟩)
    exact Good.pushD (δ := []) (σ := []) g0 (.int r)
  refine ⟨.int m, rfl, m, 2, rfl, rfl, _, rfl, ?_⟩
  refine ite2 (fun c0 => ?_) (fun c0 => ?_)
  · have c0 : m < 2 := by simpa using c0
    exact fin H z gs 0 hc hl1 hz0 hz1 hg64 (fun p _ _ o e => e) (by omega) (by omega)
  have c0 : ¬ m < 2 := by simpa using c0
  have a0 : ∀ {H' : Hp} {z' : Int}, H' c = some (.lst [.int z', .ref l]) → ∃ p xs i v, V.ref c = .ref p ∧ V.int 1 = .int i ∧ SqL K H' p xs ∧ atI xs i = some v ∧ v = .ref l := fun {H' z'} e => ⟨c, _, 1, _, rfl, rfl, SqL.of e, rfl, rfl⟩
  refine ⟨.ref c, rfl, c, _, 1, .ref l, rfl, rfl, SqL.of hc, rfl, Nat.zero_le _, fun p hp => ?_⟩
  have pc : p ≠ c := fun q => by rw [q, hc] at hp; cases hp
  have pl : p ≠ l := fun q => by rw [q, hl1] at hp; cases hp
  obtain ⟨H2, hH2⟩ : ∃ H2, H2 = upd H p (.lst []) := ⟨_, rfl⟩
  rw [← hH2]
  have hk2 : ∀ q, q ≠ p → H2 q = H q := fun q r => by rw [hH2, upd_ne r]
  have x1 : H2 c = some (.lst [.int z, .ref l]) := by rw [hk2 _ pc.symm]; exact hc
  have x2 : H2 l = some (.lst (gs.map V.int)) := by rw [hk2 _ pl.symm]; exact hl1
  have x5 : ∀ q, q ≠ c → q ≠ l → ∀ o, H q = some o → H2 q = some o := fun q a1 a2 o e => by
    rw [hk2 q (fun r => by rw [r, hp] at e; cases e)]
    exact e
  refine ⟨.list (gs.map .int), .list [], ⟨H2, Same.refl _, .lst x2 (atL_ints gs)⟩, ⟨H2, Same.refl _, .lst (by rw [hH2]; exact upd_same) .nil⟩, shaped_ints gs, by decide +kernel, _, rfl, ?_⟩
  cases hgs : gs with
  | nil =>
    have e : (if true = true then !PyData.eqv (.list (([] : List Int).map .int)) (.list []) else PyData.eqv (.list (([] : List Int).map .int)) (.list [])) = false := by decide +kernel
    rw [e, if_neg Bool.false_ne_true]
    subst hgs
    have hA : (z * 3935559000370003845 + 2691343689449507681) % 18446744073709551616 < 2 ^ 64 := by omega
    have hA0 : 0 ≤ (z * 3935559000370003845 + 2691343689449507681) % 18446744073709551616 := by omega
    refine ⟨.ref c, rfl, c, _, 0, .int z, rfl, rfl, SqL.of x1, rfl, z, 3935559000370003845, rfl, rfl, .inl ⟨by omega, by omega⟩, _, _, rfl, rfl, _, _, rfl, rfl, (by show (0 : Int) < _; decide), ?_⟩
    show gSub _ _ _ (.int ((z * 3935559000370003845 + 2691343689449507681) % 18446744073709551616)) _ _ _
    generalize hZ : (z * 3935559000370003845 + 2691343689449507681) % 18446744073709551616 = Z at *
    refine ⟨.ref c, rfl, c, _, 0, 0, rfl, rfl, x1, rfl, ?_⟩
    obtain ⟨H3, hH3⟩ : ∃ H3, H3 = upd H2 c (.lst ([V.int z, .ref l].set 0 (.int Z))) := ⟨_, rfl⟩
    rw [← hH3]
    have m0 : 0 < m := by omega
    have y1 : H3 c = some (.lst [.int Z, .ref l]) := by rw [hH3, upd_same]; rfl
    have y2 : H3 l = some (.lst (([] : List Int).map V.int)) := by rw [hH3, upd_ne hne.symm]; exact x2
    refine ⟨.ref c, rfl, c, _, 0, .int Z, rfl, rfl, SqL.of y1, rfl, Z, 1048576, rfl, rfl, cdiv (by decide) (by decide), .int m, rfl, Z / 1048576, m, rfl, rfl, m0, ?_⟩
    refine fin H3 Z [] _ y1 y2 hA0 hA (by simp) (fun q a1 a2 o e => ?_) (Int.emod_nonneg _ (by omega)) (by have := Int.emod_lt_of_pos (Z / 1048576) m0; omega)
    rw [hH3, upd_ne a1]; exact x5 q a1 a2 o e
  | cons g0 gr =>
    have e : (if true = true then !PyData.eqv (.list ((g0 :: gr).map .int)) (.list []) else PyData.eqv (.list ((g0 :: gr).map .int)) (.list [])) = true := by simp [PyData.eqv, PyData.eqvAll]
    rw [e, if_pos rfl]
    refine ⟨.ref c, rfl, c, _, 1, .ref l, rfl, rfl, SqL.of x1, rfl, ?_⟩
    subst hgs
    obtain ⟨w, hw⟩ : ∃ w, (g0 :: gr)[(g0 :: gr).length - 1]? = some w := ⟨_, List.getElem?_eq_getElem (by simp)⟩
    have hw' : ((g0 :: gr).map V.int)[((g0 :: gr).map V.int).length - 1]? = some (.int w) := by
      rw [List.length_map, List.getElem?_map, hw]
      rfl
    refine ⟨.inl ⟨rfl, _, SqL.of x2⟩, l, _, .int w, rfl, rfl, x2, hw', ?_⟩
    obtain ⟨H3, hH3⟩ : ∃ H3, H3 = upd H2 l (.lst (((g0 :: gr).map V.int).dropLast)) := ⟨_, rfl⟩
    rw [← hH3]
    have hk3 : ∀ q, q ≠ l → H3 q = H2 q := fun q r => by rw [hH3, upd_ne r]
    have y1 : H3 c = some (.lst [.int z, .ref l]) := by rw [hk3 _ hne]; exact x1
    have y2 : H3 l = some (.lst ((g0 :: gr).dropLast.map V.int)) := by rw [hH3, upd_same, List.map_dropLast]
    have y5 : ∀ q, q ≠ c → q ≠ l → ∀ o, H q = some o → H3 q = some o := fun q a1 a2 o e => by
      rw [hk3 q a2]; exact x5 q a1 a2 o e
    have gl : (g0 :: gr).dropLast.length ≤ 63 := by rw [List.length_dropLast]; omega
    have m0 : 0 < m := by omega
    have fin1 : ∀ (gr' : List Int) (H' : Hp), H' c = some (.lst [.int z, .ref l]) → H' l = some (.lst (gr'.map V.int)) → gr'.length ≤ 64 → (∀ p, p ≠ c → p ≠ l → ∀ o, H p = some o → H' p = some o) → Q (.int (w % m)) H' := fun gr' H' q1 q2 q3 q4 =>
      fin H' z gr' _ q1 q2 hz0 hz1 q3 q4 (Int.emod_nonneg _ (by omega)) (by have := Int.emod_lt_of_pos w m0; omega)
    refine ⟨.int w, rfl, .int m, rfl, w, m, rfl, rfl, _, rfl, ?_⟩
    refine ite2 (fun _ => ?_) (fun _ => ?_)
    · refine ⟨.ref c, rfl, c, _, 1, .ref l, rfl, rfl, SqL.of y1, rfl, .inl ⟨rfl, _, SqL.of y2⟩, .int w, rfl, .int m, rfl, w, m, rfl, rfl, cdiv m0 hm1, l, _, _, rfl, rfl, y2, by rw [List.length_map, sizeLine_eq]; omega, ?_⟩
      refine ⟨.int w, rfl, .int m, rfl, w, m, rfl, rfl, m0, ?_⟩
      refine fin1 ((g0 :: gr).dropLast ++ [w / m]) _ ?_ ?_ (by rw [List.length_append]; simp only [List.length_singleton]; omega) ?_
      · rw [upd_ne hne]; exact y1
      · rw [upd_same, List.map_append]; rfl
      · intro q a1 a2 o e
        rw [upd_ne a2]; exact y5 q a1 a2 o e
    · refine ⟨.int w, rfl, .int m, rfl, w, m, rfl, rfl, m0, ?_⟩
      exact fin1 _ _ y1 y2 (by omega) y5
/-- a row as it is blown: size and width -/
structure RowW (l : SRow) (w : Int) : Prop where
  i : Inc l
  n : l.length ≤ 64
  b : ∀ i, i < l.length → 0 ≤ pl l i ∧ pl l i ≤ 3 + i * w ∧ 1 ≤ ht l i ∧ ht l i ≤ 1000000000000
theorem RowW.bd {l : SRow} {w : Int} (h : RowW l w) (w0 : 0 < w) (w1 : w ≤ 100000000000) {i : Nat} (hi : i < l.length) : 0 ≤ pl l i ∧ pl l i ≤ 10000000000000 ∧ 1 ≤ ht l i ∧ ht l i ≤ 1000000000000 := by
  have h1 := h.b i hi
  have h2 := h.n
  have h3 : (i : Int) * w ≤ 64 * 100000000000 := Int.mul_le_mul (by omega) w1 (by omega) (by decide)
  refine ⟨h1.1, by omega, h1.2.2⟩
theorem sz_rowW {l : SRow} {w : Int} (h : RowW l w) (w0 : 0 < w) (w1 : w ≤ 100000000000) : Sz (rowD l) 2 (4 + 64 * (4 + 2 * (1922 + 2) + 2)) := by
  refine Sz.tup (fun x hx => ?_) (by rw [List.length_map]; exact h.n)
  obtain ⟨p, hp, rfl⟩ := List.mem_map.mp hx
  obtain ⟨i, hi, e1, e2⟩ := row_mem hp
  have := h.bd w0 w1 hi
  exact Sz.pair (Sz.int' ⟨by omega, by omega⟩) (Sz.int' ⟨by omega, by omega⟩)
structure RowG (l : SRow) (w pp : Int) : Prop where
  inc : ∀ i j, i < j → j < l.length → pl l i < pl l j
  lt : ∀ i, i < l.length → pl l i < pp
  b : ∀ i, i < l.length → 0 ≤ pl l i ∧ pl l i ≤ 3 + i * w ∧ 1 ≤ ht l i ∧ ht l i ≤ 1000000000000
theorem plA {l : SRow} {p : Int × Int} {i : Nat} (h : i < l.length) : pl (l ++ [p]) i = pl l i ∧ ht (l ++ [p]) i = ht l i := by
  unfold pl ht
  rw [List.getD_eq_getElem?_getD, List.getD_eq_getElem?_getD, List.getElem?_append_left h]
  exact ⟨rfl, rfl⟩
theorem plE {l : SRow} {p : Int × Int} : pl (l ++ [p]) l.length = p.1 ∧ ht (l ++ [p]) l.length = p.2 := by
  unfold pl ht
  rw [List.getD_eq_getElem?_getD, List.getElem?_append_right (Nat.le_refl _)]
  simp
theorem RowG.snoc {l : SRow} {w pp q h : Int} (r : RowG l w pp) (h0 : 0 ≤ pp) (h1 : pp ≤ 3 + l.length * w) (hq : pp < q) (h2 : 1 ≤ h) (h3 : h ≤ 1000000000000) : RowG (l ++ [(pp, h)]) w q := by
  refine ⟨fun i j a b => ?_, fun i a => ?_, fun i a => ?_⟩
  · rw [List.length_append, List.length_singleton] at b
    rw [(plA (p := (pp, h)) (show i < l.length by omega)).1]
    rcases Nat.lt_or_ge j l.length with c | c
    · rw [(plA c).1]; exact r.inc i j a c
    · have : j = l.length := by omega
      subst this
      rw [plE.1]
      exact r.lt i a
  · rw [List.length_append, List.length_singleton] at a
    rcases Nat.lt_or_ge i l.length with c | c
    · rw [(plA c).1]
      have := r.lt i c
      omega
    · have : i = l.length := by omega
      subst this
      rw [plE.1]
      exact hq
  · rw [List.length_append, List.length_singleton] at a
    rcases Nat.lt_or_ge i l.length with c | c
    · rw [(plA c).1, (plA c).2]
      exact r.b i c
    · have : i = l.length := by omega
      subst this
      rw [plE.1, plE.2]
      exact ⟨h0, h1, h2, h3⟩
def mf__law_row : MF := fun as R _ => ∃ n w : Int, as = [.cask, .d (.int n), .d (.int w)] ∧ 0 < n ∧ n ≤ 64 ∧ 0 < w ∧ w ≤ 100000000000 ∧ ∀ l, RowW l w → (l.length : Int) ≤ n → R (.d (rowD l))
theorem d__law_row {f : Addr} {fd : FuncData} (T : Txt K mg) (hm : mg "_law_row" = some (.ref f)) (F0 : L2.Fun K "_law_row" "_law_row" s__law_row f fd) (hb : Binds K fd ["_law_horn_here", "_law_size", "_law_wide"] []) (F__law_blow : DFn P w K mg base CK "_law_blow" 1 1 2 mf__law_blow) : DFn P w K mg base CK "_law_row" 2 259 3 mf__law_row :=
  (dfn_of hm F0 hb sc__law_row (fun cdv A outer s H E cx =>
 (dss_cons (ds_par3 (i := 3) (j := 4) (l := 5) (by rfl) sc__law_row.nd rfl rfl rfl (by decide) (by decide) (by decide) rfl rfl rfl (da_cons (de_add de_int (de_call cx F__law_blow (by decide) (by rfl) (da_cons (de_pv 0) (da_cons (de_pv 1) da_nil)))) (da_cons (de_lst da_nil) (da_cons (de_call cx F__law_blow (by decide) (by rfl) (da_cons (de_pv 0) (da_cons de_int da_nil))) da_nil))) (by rfl))
 (dss_cons (ds_set (i := 6) sc__law_row.nd rfl (by first | exact Or.inl rfl | exact Or.inr rfl) (de_ix (de_lst (da_cons de_int (da_cons de_int (da_cons (de_pv 2) (da_cons (de_mul de_int (de_pv 2)) da_nil))))) (de_call cx F__law_blow (by decide) (by rfl) (da_cons (de_pv 0) (da_cons de_int da_nil)))))
 (dss_cons (ds_forN 64 (Ctx.passes rfl) (by rfl) (di_range1 (by rfl) T.n_range (da_cons (de_pv 3) da_nil)) (dg_name (i := 7) sc__law_row.nd rfl (by first | exact Or.inl rfl | exact Or.inr rfl)) (dss_cons (ds_set (i := 8) sc__law_row.nd rfl (by first | exact Or.inl rfl | exact Or.inr rfl) (de_lst (da_cons (de_add de_int (de_call cx F__law_blow (by decide) (by rfl) (da_cons (de_pv 0) (da_cons (de_pv 6) da_nil)))) (da_cons (de_add de_int (de_call cx F__law_blow (by decide) (by rfl) (da_cons (de_pv 0) (da_cons (de_pv 2) da_nil)))) (da_cons (de_mul de_int (de_pv 2)) da_nil)))))
 (dss_cons (ds_mut PySem.F.slot_list_append PySem.F.type_list_append mt_append mut_app (pv 4) (da_cons (de_tup (da_cons (de_pv 5) (da_cons (de_min2 (by rfl) (by rfl) T.n_min (da_cons (de_pow de_int de_int) (da_cons (de_ix (de_pv 8) (de_ix (de_kl (ka_cons k_int (ka_cons k_int (ka_cons k_int (ka_cons k_int (ka_cons k_int (ka_cons k_int (ka_cons k_int (ka_cons k_int ka_nil))))))))) (de_call cx F__law_blow (by decide) (by rfl) (da_cons (de_pv 0) (da_cons de_int da_nil))))) da_nil))) da_nil))) da_nil))
 (dss_one (ds_set (i := 5) sc__law_row.nd rfl (by first | exact Or.inl rfl | exact Or.inr rfl) (de_add (de_add (de_pv 5) de_int) (de_call cx F__law_blow (by decide) (by rfl) (da_cons (de_pv 0) (da_cons (de_pv 2) da_nil)))))))))
 (dss_one (ds_ret (de_tupleC (by rfl) T.n_tuple (da_cons (de_pv 4) da_nil))))))))
  (by
    rintro as R ex hl ⟨n, w, rfl, n0, n1, w0, w1, h⟩
    walk_at "dx"
    refine ⟨n, rfl, by omega, fun r r0 r1 => ?_⟩
    walk_at "dx"
    refine ⟨by walk_at "lim", 4, rfl, by decide, fun q q0 q1 => ?_⟩
    have q1 : q < 4 := q1
    walk_at "dx"
    refine ⟨.inl ⟨by decide, by decide⟩, by walk_at "lim", 4, rfl, by decide, fun z z0 z1 => ?_⟩
    have z1 : z < 4 := z1
    obtain ⟨t, ht, t0, t1⟩ : ∃ t : Int, atI [PyData.int 1, .int 2, .int w, .int (2 * w)] z = some (.int t) ∧ 1 ≤ t ∧ t ≤ 2 * w + 2 := by
      have : z = 0 ∨ z = 1 ∨ z = 2 ∨ z = 3 := by omega
      rcases this with rfl | rfl | rfl | rfl
      · exact ⟨1, rfl, by omega, by omega⟩
      · exact ⟨2, rfl, by omega, by omega⟩
      · exact ⟨w, rfl, by omega, by omega⟩
      · exact ⟨2 * w, rfl, by omega, by omega⟩
    walk_at "dx"
    rw [ht]
    walk_at "dx"
    refine ⟨by omega, by omega, by rw [rangeD_len]; omega, ?_⟩
    obtain ⟨nn, hnn⟩ : ∃ nn : Nat, (1 + r : Int) = (nn : Nat) := ⟨(1 + r).toNat, by omega⟩
    rw [hnn, Int.toNat_natCast]
    refine for_range (fun k δ => ∃ (l : SRow) (pp : Int) (a b : Option DV), δ = [some .cask, some (.d (.int n)), some (.d (.int w)), some (.d (.int (nn : Nat))), some (.own (l.map stD)), some (.d (.int pp)), some (.d (.int t)), a, b] ∧ l.length = k ∧ RowG l w pp ∧ 0 ≤ pp ∧ pp ≤ 3 + k * w) ⟨[], q, none, none, rfl, rfl, ⟨fun i j a b => by simp at b, fun i a => by simp at a, fun i a => by simp at a⟩, q0, by omega⟩ ?_ ?_
    · rintro δ ⟨l, pp, a, b, rfl, hk, hb, h0, h1⟩
      walk_at "dx"
      refine h l ⟨⟨by omega, by omega, hb.inc, fun i hi => by have := hb.b i hi; omega⟩, by omega, hb.b⟩ (by omega)
    · rintro k δ K hk ⟨l, pp, a, b, rfl, hlk, hb, h0, h1⟩ hK
      have hsz : (l.map stD).length < sizeLine := by walk_at "lim"
      walk_at "dx"
      refine ⟨t, rfl, by omega, fun ra ra0 ra1 => ?_⟩
      walk_at "dx"
      refine ⟨w, rfl, by omega, fun rb rb0 rb1 => ?_⟩
      walk_at "dx"
      refine ⟨.inl ⟨by decide, by decide⟩, by walk_at "lim", 8, rfl, by decide, fun rc rc0 rc1 => ?_⟩
      have rc1 : rc < 8 := rc1
      obtain ⟨j, hj, hj2⟩ : ∃ j : Int, atI [PyData.int 0, .int 0, .int 0, .int 0, .int 1, .int 1, .int 1, .int 2] rc = some (.int j) ∧ (j = 0 ∨ j = 1 ∨ j = 2) := by
        have : rc = 0 ∨ rc = 1 ∨ rc = 2 ∨ rc = 3 ∨ rc = 4 ∨ rc = 5 ∨ rc = 6 ∨ rc = 7 := by omega
        rcases this with rfl | rfl | rfl | rfl | rfl | rfl | rfl | rfl
        · exact ⟨0, rfl, .inl rfl⟩
        · exact ⟨0, rfl, .inl rfl⟩
        · exact ⟨0, rfl, .inl rfl⟩
        · exact ⟨0, rfl, .inl rfl⟩
        · exact ⟨1, rfl, .inr (.inl rfl)⟩
        · exact ⟨1, rfl, .inr (.inl rfl)⟩
        · exact ⟨1, rfl, .inr (.inl rfl)⟩
        · exact ⟨2, rfl, .inr (.inr rfl)⟩
      walk_at "dx"
      rw [hj]
      obtain ⟨hh, hx, hh1⟩ : ∃ hh : Int, atI [PyData.int (1 + ra), .int (1 + rb), .int (3 * w)] j = some (.int hh) ∧ 1 ≤ hh := by
        rcases hj2 with rfl | rfl | rfl
        · exact ⟨_, rfl, by omega⟩
        · exact ⟨_, rfl, by omega⟩
        · exact ⟨_, rfl, by omega⟩
      walk_at "dx"
      rw [hx]
      walk_at "dx"
      rw [if_pos hsz]
      refine ⟨by walk_at "lim", w, rfl, by omega, fun rd rd0 rd1 => ?_⟩
      walk_at "dx"
      have hmin : 1 ≤ (if hh < 1000000000000 then hh else 1000000000000) ∧ (if hh < 1000000000000 then hh else 1000000000000) ≤ 1000000000000 := by
        split <;> omega
      refine hK _ ⟨l ++ [(pp, if hh < 1000000000000 then hh else 1000000000000)], pp + 1 + rd, _, _, by rw [List.map_append]; rfl, by simp [hlk], hb.snoc h0 (by rw [hlk]; exact h1) (by omega) hmin.1 hmin.2, by omega, ?_⟩
      have e : ((k + 1 : Nat) : Int) * w = k * w + w := by push_cast; rw [Int.add_mul, Int.one_mul]
      rw [e]
      omega)).le (by decide +kernel)
def capL (l : SRow) (per : Int) : SRow := l.map fun p => (p.1, if per - 1 < p.2 then per - 1 else p.2)
theorem cap_len {l : SRow} {per : Int} : (capL l per).length = l.length := by unfold capL; simp
theorem cap_at {l : SRow} {per : Int} {i : Nat} (h : i < l.length) : pl (capL l per) i = pl l i ∧ ht (capL l per) i = if per - 1 < ht l i then per - 1 else ht l i := by
  unfold pl ht capL
  simp only [List.getD_eq_getElem?_getD, List.getElem?_map, List.getElem?_eq_getElem h]
  exact ⟨rfl, rfl⟩
theorem cap_row {l : SRow} {w per : Int} (h : RowW l w) (hp : 2 ≤ per) : RowW (capL l per) w := by
  refine ⟨⟨by rw [cap_len]; exact h.i.n0, by rw [cap_len]; exact h.i.n1, fun i j hij hj => ?_, fun i hi => ?_⟩, by rw [cap_len]; exact h.n, fun i hi => ?_⟩
  · rw [cap_len] at hj
    rw [(cap_at (show i < l.length by omega)).1, (cap_at hj).1]
    exact h.i.inc i j hij hj
  · rw [cap_len] at hi
    rw [(cap_at hi).2]
    have := h.i.hp i hi
    split <;> omega
  · rw [cap_len] at hi
    rw [(cap_at hi).2, (cap_at hi).1]
    have := h.b i hi
    split <;> omega
def mf__law_copies : MF := fun as R _ => ∃ n w : Int, as = [.cask, .d (.int n), .d (.int w)] ∧ 0 < n ∧ n ≤ 64 ∧ 0 < w ∧ w ≤ 100000000000 ∧ ∀ l per, RowW l w → (l.length : Int) ≤ n → pl l (l.length - 1) - pl l 0 + 2 ≤ per → (∀ i, i < l.length → ht l i ≤ per - 1) → per ≤ 20000000000000 → R (.d (.tuple [rowD l, .int per]))
theorem d__law_copies {f : Addr} {fd : FuncData} (T : Txt K mg) (hm : mg "_law_copies" = some (.ref f)) (F0 : L2.Fun K "_law_copies" "_law_copies" s__law_copies f fd) (hb : Binds K fd ["_law_horn_here", "_law_size", "_law_wide"] []) (F__law_row : DFn P w K mg base CK "_law_row" 2 259 3 mf__law_row) (F__law_blow : DFn P w K mg base CK "_law_blow" 1 1 2 mf__law_blow) : DFn P w K mg base CK "_law_copies" 3 261 3 mf__law_copies :=
  (dfn_of hm F0 hb sc__law_copies (fun cdv A outer s H E cx =>
 (dss_cons (ds_set (i := 3) sc__law_copies.nd rfl (by first | exact Or.inl rfl | exact Or.inr rfl) (de_call cx F__law_row (by decide) (by rfl) (da_cons (de_pv 0) (da_cons (de_pv 1) (da_cons (de_pv 2) da_nil)))))
 (dss_cons (ds_set (i := 4) sc__law_copies.nd rfl (by first | exact Or.inl rfl | exact Or.inr rfl) (de_add (de_add (de_sub (de_ix (de_ix (de_pv 3) (de_neg de_int)) de_int) (de_ix (de_ix (de_pv 3) de_int) de_int)) de_int) (de_call cx F__law_blow (by decide) (by rfl) (da_cons (de_pv 0) (da_cons (de_pv 2) da_nil)))))
 (dss_cons (ds_if (dt_eq cx.u (de_call cx F__law_blow (by decide) (by rfl) (da_cons (de_pv 0) (da_cons de_int da_nil))) de_int) (dss_one (ds_set (i := 4) sc__law_copies.nd rfl (by first | exact Or.inl rfl | exact Or.inr rfl) (de_maxA cx.u (by rfl) (by rfl) T.n_max (da_cons (de_add (de_lst (da_cons (de_pv 4) da_nil)) (de_lc (own := [("_law_place", 5), ("_law_height", 6)]) (dom := [5, 6]) (by rfl) sc__law_copies.nd (di_tup (de_pv 3)) (blkOk_by (by kernel_rfl)) (by decide) (fun _ _ _ _ _ => (dg_tup (by rfl) (dgs_cons (dg_name (i := 5) sc__law_copies.nd rfl (by first | exact Or.inl rfl | exact Or.inr rfl)) (dgs_cons (dg_name (i := 6) sc__law_copies.nd rfl (by first | exact Or.inl rfl | exact Or.inr rfl)) dgs_nil)))) (fun _ _ _ _ _ => dts_nil) (fun _ _ _ _ _ => (de_add (de_pv 6) de_int)))) da_nil)))) dss_nil)
 (dss_one (ds_ret (de_tup (da_cons (de_tupleC (by rfl) T.n_tuple (da_cons (de_lc (own := [("_law_place", 5), ("_law_height", 6)]) (dom := [5, 6]) (by rfl) sc__law_copies.nd (di_tup (de_pv 3)) (blkOk_by (by kernel_rfl)) (by decide) (fun _ _ _ _ _ => (dg_tup (by rfl) (dgs_cons (dg_name (i := 5) sc__law_copies.nd rfl (by first | exact Or.inl rfl | exact Or.inr rfl)) (dgs_cons (dg_name (i := 6) sc__law_copies.nd rfl (by first | exact Or.inl rfl | exact Or.inr rfl)) dgs_nil)))) (fun _ _ _ _ _ => dts_nil) (fun _ _ _ _ _ => (de_tup (da_cons (de_pv 5) (da_cons (de_min2 (by rfl) (by rfl) T.n_min (da_cons (de_pv 6) (da_cons (de_sub (de_pv 4) de_int) da_nil))) da_nil))))) da_nil)) (da_cons (de_pv 4) da_nil)))))))))
  (by
    rintro as R ex hl ⟨n, w, rfl, n0, n1, w0, w1, h⟩
    walk_at "dx"
    refine ⟨n, w, rfl, n0, n1, w0, w1, fun l hr hln => ?_⟩
    have hn0 := hr.i.n0
    have hn40 := hr.n
    unfold rowD
    walk_at "dx"
    have hlast : l[l.length - 1]? = some (pl l (l.length - 1), ht l (l.length - 1)) := row_get (by omega)
    rw [show atI (l.map stD) (-1) = some (.tuple [.int (pl l (l.length - 1)), .int (ht l (l.length - 1))]) from atI_end hlast, show atI (l.map stD) 0 = some (.tuple [.int (pl l 0), .int (ht l 0)]) from atI_map (f := stD) 0 rfl (row_get hn0)]
    walk_at "dx"
    refine ⟨w, rfl, by omega, fun q q0 q1 => ?_⟩
    walk_at "dx"
    have hbd := fun (i : Nat) (hi : i < l.length) => hr.bd w0 w1 hi
    have hin : ∀ p ∈ l, 1 ≤ p.2 ∧ p.2 ≤ 1000000000000 := fun p hp => by
      obtain ⟨i, hi, e1, e2⟩ := row_mem hp
      have := hbd i hi
      omega
    have b1 := hbd 0 hn0
    have b2 := hbd (l.length - 1) (by omega)
    have b3 := hr.i.ge0 (show l.length - 1 < l.length by omega)
    have tail : ∀ (per : Int), pl l (l.length - 1) - pl l 0 + 2 ≤ per → per ≤ 20000000000000 → lcRun (gT [gN 5, gN 6]) mYes
                            (mTup
                              (mCons (mVar 5)
                                (mCons
                                  (mCB (o2 oMin2)
                                    (mCons (mVar 6) (mCons (mBin oSub (mVar 4) (mC (.int 1))) mNil)))
                                  mNil)))
                            [some .cask, some (.d (.int n)), some (.d (.int w)),
                              some (.d (.tuple (List.map stD l))), some (.d (.int per)), none, none]
                            (fun x =>
                              oTuple x fun x =>
                                2 ≤ sizeLine ∧
                                  match
                                    match x.val,
                                      some [PyData.int per] with
                                    | some d, some ds => some (d :: ds)
                                    | x, x_1 => none with
                                  | some ds => R (.d (.tuple ds))
                                  | none => False)
                            (List.map stD l) [] := fun per hp1 hp2 => by
      refine lc_ind (fun d => match d with
        | .tuple [.int a, .int b] => some (stD (a, if per - 1 < b then per - 1 else b))
        | _ => none) _ _ (fun d hd K1 K0 k1 k0 => ?_) (by walk_at "lim") ?_
      · obtain ⟨p, hp, rfl⟩ := List.mem_map.mp hd
        rw [show stD p = .tuple [.int p.1, .int p.2] from rfl] at k1 ⊢
        walk_at "dx"
        exact ⟨by walk_at "lim", k1 _ rfl⟩
      · have e : ((l.map stD).filterMap fun d => match d with
            | .tuple [.int a, .int b] => some (stD (a, if per - 1 < b then per - 1 else b))
            | _ => none) = (capL l per).map stD := by
          unfold capL
          rw [List.filterMap_map, List.map_map]
          generalize l = m
          induction m with
          | nil => rfl
          | cons a m ih => simp only [List.filterMap_cons, List.map_cons, Function.comp, stD] at ih ⊢; rw [ih]
        rw [List.nil_append, e]
        walk_at "dx"
        refine ⟨by walk_at "lim", h (capL l per) per (cap_row hr (by omega)) (by rw [cap_len]; exact hln) ?_ (fun i hi => ?_) hp2⟩
        · rw [cap_len, (cap_at hn0).1, (cap_at (show l.length - 1 < l.length by omega)).1]
          exact hp1
        · rw [cap_len] at hi
          rw [(cap_at hi).2]
          split <;> omega
    refine ⟨3, rfl, by decide, fun z z0 z1 => ?_⟩
    walk_at "dx"
    refine ⟨fun c => ?_, fun c => ?_⟩
    · refine ⟨by walk_at "lim", ?_⟩
      refine lc_ind (fun d => match d with
        | .tuple [.int a, .int b] => some (.int (b + 1))
        | _ => none) _ _ (fun d hd K1 K0 k1 k0 => ?_) (by walk_at "lim") ?_
      · obtain ⟨p, hp, rfl⟩ := List.mem_map.mp hd
        rw [show stD p = .tuple [.int p.1, .int p.2] from rfl] at k1 ⊢
        walk_at "dx"
        exact k1 _ rfl
      · have e : ((l.map stD).filterMap fun d => match d with
            | .tuple [.int a, .int b] => some (.int (b + 1))
            | _ => none) = (l.map fun p => p.2 + 1).map PyData.int := by
          rw [List.filterMap_map, List.map_map]
          generalize l = m
          induction m with
          | nil => rfl
          | cons a m ih => simp only [List.filterMap_cons, List.map_cons, Function.comp, stD] at ih ⊢; rw [ih]
        rw [List.nil_append, e]
        walk_at "dx"
        refine ⟨by walk_at "lim", ?_⟩
        rw [show intsOf (PyData.int (pl l (l.length - 1) - pl l 0 + 2 + q) :: (l.map fun p => p.2 + 1).map PyData.int) = some ((pl l (l.length - 1) - pl l 0 + 2 + q) :: (l.map fun p => p.2 + 1)) from intsOf_map' (_ :: _)]
        dsimp only
        refine ⟨by simp, fun t ht hall => ?_⟩
        have t1 := hall _ (List.mem_cons_self)
        have t2 : t ≤ 20000000000000 := by
          rcases List.mem_cons.mp ht with rfl | ht
          · omega
          · obtain ⟨p, hp, rfl⟩ := List.mem_map.mp ht
            have := hin p hp
            omega
        exact tail t (by omega) t2
    · exact tail _ (by omega) (by omega))).le (by decide +kernel)
def mf__law_repeated : MF := fun as R _ => ∃ (l : SRow) (per : Int) (n : Nat), as = [.d (rowD l), .d (.int per), .d (.int (n : Nat))] ∧ n * l.length ≤ 100000 ∧ n ≤ 100000 ∧ l.length ≤ 1000 ∧ 0 ≤ per ∧ per ≤ 100000000000000 ∧ R (.d (rowD (repL l per n)))
theorem d__law_repeated {f : Addr} {fd : FuncData} (T : Txt K mg) (hm : mg "_law_repeated" = some (.ref f)) (F0 : L2.Fun K "_law_repeated" "_law_repeated" s__law_repeated f fd) (hb : Binds K fd ["_law_row_here", "_law_period", "_law_times"] []) : DFn P w K mg base CK "_law_repeated" 1 0 3 mf__law_repeated :=
  (dfn_of hm F0 hb sc__law_repeated (fun cdv A outer s H E cx =>
 (dss_cons (ds_set (i := 3) sc__law_repeated.nd rfl (by first | exact Or.inl rfl | exact Or.inr rfl) (de_lst da_nil))
 (dss_cons (ds_for (Ctx.passes rfl) (by rfl) (di_range1 (by rfl) T.n_range (da_cons (de_pv 2) da_nil)) (dg_name (i := 4) sc__law_repeated.nd rfl (by first | exact Or.inl rfl | exact Or.inr rfl)) (dss_one (ds_mut PySem.F.slot_list_extend PySem.F.type_list_extend mt_extend mut_ext (pv 3) (da_cons (de_lc (own := [("_law_place", 5), ("_law_height", 6)]) (dom := [5, 6]) (by rfl) sc__law_repeated.nd (di_tup (de_pv 0)) (blkOk_by (by kernel_rfl)) (by decide) (fun _ _ _ _ _ => (dg_tup (by rfl) (dgs_cons (dg_name (i := 5) sc__law_repeated.nd rfl (by first | exact Or.inl rfl | exact Or.inr rfl)) (dgs_cons (dg_name (i := 6) sc__law_repeated.nd rfl (by first | exact Or.inl rfl | exact Or.inr rfl)) dgs_nil)))) (fun _ _ _ _ _ => dts_nil) (fun _ _ _ _ _ => (de_tup (da_cons (de_add (de_pv 5) (de_mul (de_pv 4) (de_pv 1))) (da_cons (de_pv 6) da_nil))))) da_nil))))
 (dss_one (ds_ret (de_tupleC (by rfl) T.n_tuple (da_cons (de_pv 3) da_nil)))))))
  (by
    rintro as R ex hl ⟨l, per, n, rfl, hn, hn1, hn2, hp0, hp1, h⟩
    walk_at "dx"
    refine ⟨by walk_at "lim", by walk_at "lim", by walk_at "lim", ?_⟩
    refine for_range (fun k δ => ∃ a4 a5 a6, δ = [some (.d (rowD l)), some (.d (.int per)), some (.d (.int (n : Nat))), some (.own ((repL l per k).map stD)), a4, a5, a6]) ⟨_, _, _, rfl⟩ ?_ ?_
    · rintro δ ⟨a4, a5, a6, rfl⟩
      walk_at "dx"
      exact h
    · rintro k δ K hk ⟨a4, a5, a6, rfl⟩ hK
      unfold rowD
      walk_at "dx"
      have hkm : CMul (k : Int) per := .inl ⟨by omega, by omega⟩
      refine lc_ind (fun d => match d with
        | .tuple [.int a, .int b] => some (stD (a + (k : Int) * per, b))
        | _ => none) _ _ (fun d hd K1 K0 k1 k0 => ?_) (by walk_at "lim") ?_
      · obtain ⟨p, hp, rfl⟩ := List.mem_map.mp hd
        rw [show stD p = .tuple [.int p.1, .int p.2] from rfl] at k1 ⊢
        walk_at "dx"
        exact ⟨hkm, by walk_at "lim", k1 _ rfl⟩
      · have e : ((l.map stD).filterMap fun d => match d with
            | .tuple [.int a, .int b] => some (stD (a + (k : Int) * per, b))
            | _ => none) = (movL l (k * per)).map stD := by
          unfold movL
          rw [List.filterMap_map, List.map_map]
          generalize l = m
          induction m with
          | nil => rfl
          | cons a m ih => simp only [List.filterMap_cons, List.map_cons, Function.comp, stD] at ih ⊢; rw [ih]
        rw [List.nil_append, e]
        walk_at "dx"
        have hl2 : ((repL l per k).map stD).length + ((movL l (k * per)).map stD).length ≤ sizeLine := by
          rw [List.length_map, List.length_map, rep_len, movL, List.length_map, sizeLine_eq]
          have : (k + 1) * l.length ≤ n * l.length := Nat.mul_le_mul_right _ (by omega)
          rw [Nat.succ_mul] at this
          omega
        rw [if_pos hl2, ← List.map_append]
        exact hK _ ⟨_, _, _, rfl⟩)).le (by decide +kernel)
noncomputable def endsD (l : SRow) : List PyData := (List.range l.length).map fun s => natD (endOf l s)
theorem endsD_eq {l : SRow} : endsD l = (ends l).map natD := by
  unfold endsD ends
  rw [List.map_map]
  rfl
def mf__law_ends : MF := fun as R _ => ∃ l : SRow, as = [.d (rowD l)] ∧ Inc l ∧ R (.d (.list (endsD l)))
theorem d__law_ends {f : Addr} {fd : FuncData} (T : Txt K mg) (hm : mg "_law_ends" = some (.ref f)) (F0 : L2.Fun K "_law_ends" "_law_ends" s__law_ends f fd) (hb : Binds K fd ["_law_row_here"] []) : DFn P w K mg base CK "_law_ends" 1 0 1 mf__law_ends :=
  (dfn_of hm F0 hb sc__law_ends (fun cdv A outer s H E cx =>
 (dss_cons (ds_set (i := 1) sc__law_ends.nd rfl (by first | exact Or.inl rfl | exact Or.inr rfl) (de_mul (de_lst (da_cons de_int da_nil)) (de_len (by rfl) T.n_len (da_cons (de_pv 0) da_nil))))
 (dss_cons (ds_for (Ctx.passes rfl) (by rfl) (di_rev (by rfl) T.n_reversed (by rfl) T.n_range (de_len (by rfl) T.n_len (da_cons (de_pv 0) da_nil))) (dg_name (i := 2) sc__law_ends.nd rfl (by first | exact Or.inl rfl | exact Or.inr rfl)) (dss_cons (ds_par2 (i := 3) (j := 4) (by rfl) sc__law_ends.nd rfl rfl (by decide) rfl rfl (da_cons (de_pv 2) (da_cons (de_add (de_ix (de_ix (de_pv 0) (de_pv 2)) de_int) (de_ix (de_ix (de_pv 0) (de_pv 2)) de_int)) da_nil)) (by rfl))
 (dss_cons (ds_while (Ctx.passes rfl) (DW.dt (dw_and (dt_lt (de_add (de_pv 3) de_int) (de_len (by rfl) T.n_len (da_cons (de_pv 0) da_nil))) (dw_and1 (dt_le (de_ix (de_ix (de_pv 0) (de_add (de_pv 3) de_int)) de_int) (de_pv 4))))) (dss_one (ds_set (i := 3) sc__law_ends.nd rfl (by first | exact Or.inl rfl | exact Or.inr rfl) (de_ix (de_pv 1) (de_add (de_pv 3) de_int)))))
 (dss_one (ds_sto (pv 1) (de_pv 2) (de_pv 3))))))
 (dss_one (ds_ret (de_pv 1))))))
  (by
    rintro as R ex hl ⟨l, rfl, I, h⟩
    have hn1 := I.n1
    have hn0 := I.n0
    rw [endsD_eq] at h
    unfold rowD
    walk_at "dx"
    rw [List.length_map]
    refine ⟨by walk_at "lim", by omega, by omega, by walk_at "lim", ?_⟩
    refine ⟨by omega, by omega, ?_⟩
    refine for_down (fun k δ => ∃ (fs : List Nat) (a b c : Option DV), δ = [some (.d (.tuple (l.map stD))), some (.own (fs.map natD)), a, b, c] ∧ fs.length = l.length ∧ ∀ s m, l.length - k ≤ s → fs[s]? = some m → IsEnd l s m) ?_ ?_ ?_
    · refine ⟨List.replicate l.length 0, none, none, none, ?_, by simp, fun s m hs e => ?_⟩
      · have : (List.replicate l.length [PyData.int 0]).flatten = (List.replicate l.length 0).map natD := by
          rw [List.map_replicate]
          generalize l.length = n
          induction n with
          | zero => rfl
          | succ n ih => rw [List.replicate_succ, List.flatten_cons, ih, List.replicate_succ]; rfl
        rw [this]
      · rw [List.getElem?_replicate] at e
        split at e
        · omega
        · cases e
    · rintro δ ⟨fs, a, b, c, rfl, hf, hs⟩
      walk_at "dx"
      rw [AllEnds.eq I (fs := fs) ⟨hf, fun s m e => hs s m (by omega) e⟩]
      exact h
    · rintro k δ K hk ⟨fs, a, b, c, rfl, hf, hs⟩ hK
      obtain ⟨s, hs'⟩ : ∃ s : Nat, s = l.length - 1 - k := ⟨_, rfl⟩
      have es : ((l.length : Nat) : Int) - 1 - (k : Nat) = (s : Nat) := by omega
      rw [es]
      have hsl : s < l.length := by omega
      have at0 : ∀ {i : Nat}, i < l.length → atI (l.map stD) (i : Nat) = some (.tuple [.int (pl l i), .int (ht l i)]) := fun hi => atI_map (f := stD) _ rfl (row_get hi)
      walk_at "dx"
      rw [at0 hsl]
      walk_at "dx"
      refine ⟨fun n δ => ∃ m : Nat, δ = [some (.d (.tuple (l.map stD))), some (.own (fs.map natD)), some (.d (.int (s : Nat))), some (.d (.int (m : Nat))), some (.d (.int (pl l s + ht l s)))] ∧ Seek l s m ∧ n = l.length - m, ⟨_, s, rfl, Seek.start (by omega), rfl⟩, ?_⟩
      rintro n δ ⟨m, rfl, hsk, rfl⟩
      have hm := hsk.lt
      have fin : (m + 1 < l.length → pl l s + ht l s < pl l (m + 1)) → K [some (.d (.tuple (l.map stD))), some (.own ((fs.map natD).set s (.int (m : Nat)))), some (.d (.int (s : Nat))), some (.d (.int (m : Nat))), some (.d (.int (pl l s + ht l s)))] := fun hq => by
        refine hK _ ⟨fs.set s m, _, _, _, by rw [List.map_set]; rfl, by simpa using hf, fun s' m' h1 e => ?_⟩
        rcases Nat.lt_or_ge s s' with q | q
        · rw [List.getElem?_set_ne (by omega)] at e
          exact hs s' m' (by omega) e
        · have : s' = s := by omega
          subst this
          rw [List.getElem?_set_self (by omega)] at e
          cases e
          exact hsk.done hq
      have hss : s < (fs.map natD).length := by rw [List.length_map]; omega
      walk_at "dx"
      rw [List.length_map]
      refine ⟨fun c1 => ?_, fun c1 => ?_⟩
      · have hm1 : m + 1 < l.length := by omega
        rw [show ((m : Int) + 1) = ((m + 1 : Nat) : Int) by push_cast; rfl, at0 hm1]
        walk_at "dx"
        obtain ⟨e, he⟩ : ∃ e, fs[m + 1]? = some e := ⟨_, List.getElem?_eq_getElem (by omega)⟩
        have hE := hs (m + 1) e (by have := hsk.le; omega) he
        rw [atI_map (f := natD) (m + 1) rfl he]
        refine ⟨fun c2 => ⟨l.length - e, by have := hE.le; have := hE.lt; omega, e, rfl, hsk.step I c2 hE, rfl⟩, fun c2 => ?_⟩
        rw [ixN_nat hss]
        exact fin fun _ => by omega
      · rw [ixN_nat hss]
        exact fin fun hq => absurd hq (by omega))).le (by decide +kernel)
def turnL (l : SRow) : SRow := l.reverse.map fun p => (pl l (l.length - 1) - p.1, p.2)
theorem turn_aff {l : SRow} (h : 0 < l.length) : turnL l = affL 1 (0 - pl l 0) (mirror l) := by
  unfold turnL affL mirror
  rw [List.map_map]
  refine List.map_congr_left fun p _ => ?_
  simp only [Function.comp, Int.mul_one]
  refine Prod.ext ?_ rfl
  show pl l (l.length - 1) - p.1 = pl l 0 + pl l (l.length - 1) - p.1 + (0 - pl l 0)
  omega
def mf__law_turned : MF := fun as R _ => ∃ l : SRow, as = [.d (rowD l)] ∧ 0 < l.length ∧ l.length ≤ 2000 ∧ R (.d (rowD (turnL l)))
theorem d__law_turned {f : Addr} {fd : FuncData} (T : Txt K mg) (hm : mg "_law_turned" = some (.ref f)) (F0 : L2.Fun K "_law_turned" "_law_turned" s__law_turned f fd) (hb : Binds K fd ["_law_row_here"] []) : DFn P w K mg base CK "_law_turned" 1 0 1 mf__law_turned :=
  (dfn_of hm F0 hb sc__law_turned (fun cdv A outer s H E cx =>
 (dss_one (ds_ret (de_tupleC (by rfl) T.n_tuple (da_cons (de_lc (own := [("_law_place", 1), ("_law_height", 2)]) (dom := [1, 2]) (by rfl) sc__law_turned.nd (di_tup (de_back (de_pv 0))) (blkOk_by (by kernel_rfl)) (by decide) (fun _ _ _ _ _ => (dg_tup (by rfl) (dgs_cons (dg_name (i := 1) sc__law_turned.nd rfl (by first | exact Or.inl rfl | exact Or.inr rfl)) (dgs_cons (dg_name (i := 2) sc__law_turned.nd rfl (by first | exact Or.inl rfl | exact Or.inr rfl)) dgs_nil)))) (fun _ _ _ _ _ => dts_nil) (fun _ _ _ _ _ => (de_tup (da_cons (de_sub (de_ix (de_ix (de_pv 0) (de_neg de_int)) de_int) (de_pv 1)) (da_cons (de_pv 2) da_nil))))) da_nil)))))
  (by
    rintro as R ex hl ⟨l, rfl, hn0, hn1, h⟩
    unfold rowD
    walk_at "dx"
    have hlast : l[l.length - 1]? = some (pl l (l.length - 1), ht l (l.length - 1)) := row_get (by omega)
    refine lc_ind (fun d => match d with
      | .tuple [.int a, .int b] => some (stD (pl l (l.length - 1) - a, b))
      | _ => none) _ _ (fun d hd K1 K0 h1 h0 => ?_) (by walk_at "lim") ?_
    · obtain ⟨p, hp, rfl⟩ := List.mem_map.mp (List.mem_reverse.mp hd)
      rw [show stD p = .tuple [.int p.1, .int p.2] from rfl] at h1 ⊢
      walk_at "dx"
      rw [show atI (l.map stD) (-1) = some (.tuple [.int (pl l (l.length - 1)), .int (ht l (l.length - 1))]) from atI_end hlast]
      walk_at "dx"
      refine ⟨by decide, ?_⟩
      exact h1 _ rfl
    · walk_at "dx"
      have e : ((l.map stD).reverse.filterMap fun d => match d with
          | .tuple [.int a, .int b] => some (stD (pl l (l.length - 1) - a, b))
          | _ => none) = (turnL l).map stD := by
        unfold turnL
        rw [← List.map_reverse, List.filterMap_map, List.map_map]
        generalize l.reverse = r
        induction r with
        | nil => rfl
        | cons a r ih => simp only [List.filterMap_cons, List.map_cons, Function.comp, stD] at ih ⊢; rw [ih]
      rw [e]
      exact h)).le (by decide +kernel)
theorem least_ex {p : Nat → Prop} {c : Nat} : p c → ∃ c, p c ∧ ∀ m, m < c → ¬ p m := by
  induction c using Nat.strongRecOn with
  | ind c ih =>
    intro h
    by_cases q : ∃ m, m < c ∧ p m
    · obtain ⟨m, m1, m2⟩ := q
      exact ih m m1 m2
    · exact ⟨c, h, fun m m1 m2 => q ⟨m, m1, m2⟩⟩
/-! stones of which no push fells two: as many as the fewest pushes -/
section
variable {P H : Nat → Int} {n : Nat} {per : Int}
theorem in_up {i j m : Nat} (h : InA P H i m) (hij : i ≤ j) (hj : j ≤ m) : InA P H j m := by
  obtain ⟨_, ⟨s, hs, h⟩ | h⟩ := h
  · exact ⟨hj, .inl ⟨s, by omega, h⟩⟩
  · exact ⟨hj, .inr (h.up hij)⟩
theorem farT_mono {N i j : Nat} (hij : i ≤ j) (hj : j < N) : farT P H N i ≤ farT P H N j := by
  have h1 := far_is (P := P) (H := H) (show i < N by omega)
  have h2 := far_is (P := P) (H := H) hj
  rcases Nat.lt_or_ge (farT P H N i) j with c | c
  · have := far_up (P := P) (H := H) hj
    omega
  · exact h2.2.2 _ h1.1 (in_up h1.2.1 hij c)
theorem farT_big {N M i : Nat} (hi : i < N) (hN : N ≤ M) : farT P H N i ≤ farT P H M i := by
  have h1 := far_is (P := P) (H := H) hi
  have h2 := far_is (P := P) (H := H) (show i < M by omega)
  exact h2.2.2 _ (by have := h1.1; omega) h1.2.1
theorem itT_mono {f : Nat → Nat} {N : Nat} (h1 : ∀ i, i < N → i ≤ f i) {c : Nat} : ∀ {d : Nat}, c ≤ d → itT f N c ≤ itT f N d
  | 0, h => by
    obtain rfl : c = 0 := by omega
    exact Nat.le_refl _
  | d + 1, h => by
    rcases Nat.lt_or_ge d c with q | q
    · obtain rfl : c = d + 1 := by omega
      exact Nat.le_refl _
    · have ih := itT_mono h1 q
      conv => rhs; unfold itT
      split
      · rename_i z
        have := h1 _ z
        omega
      · exact ih
structure Apt (P H : Nat → Int) (N k : Nat) (p : Nat → Nat) : Prop where
  lt : ∀ c, c < k → p c < N
  ap : ∀ c, c + 1 < k → farT P H N (p c) < p (c + 1)
theorem Apt.up {N k : Nat} {p : Nat → Nat} (A : Apt P H N k p) {c : Nat} (h : c + 1 < k) : p c < p (c + 1) := by
  have h1 := far_up (P := P) (H := H) (A.lt c (by omega))
  have h2 := A.ap c h
  omega
theorem Apt.mono {N k : Nat} {p : Nat → Nat} (A : Apt P H N k p) {c : Nat} : ∀ {d : Nat}, c ≤ d → d < k → p c ≤ p d
  | 0, h, _ => by
    obtain rfl : c = 0 := by omega
    exact Nat.le_refl _
  | d + 1, h, hd => by
    rcases Nat.lt_or_ge d c with q | q
    · obtain rfl : c = d + 1 := by omega
      exact Nat.le_refl _
    · have ih := A.mono q (by omega)
      have := A.up hd
      omega
theorem far_ge1 {N : Nat} : ∀ i, i < N → i ≤ farT P H N i := fun i hi => far_up hi
theorem apt_le {N k : Nat} {p : Nat → Nat} (A : Apt P H N k p) : k ≤ fewT P H N := by
  rcases Nat.eq_zero_or_pos k with rfl | hk
  · exact Nat.zero_le _
  have key : ∀ c, c < k → itT (farT P H N) N c ≤ p c := fun c => by
    induction c with
    | zero => exact fun _ => Nat.zero_le _
    | succ c ih =>
      intro hc
      have h0 := ih (by omega)
      have h1 := A.lt c (by omega)
      have h2 := A.ap c hc
      have h3 := farT_mono (P := P) (H := H) h0 h1
      unfold itT
      rw [if_pos (by omega)]
      omega
  have h1 := key (k - 1) (by omega)
  have h2 := A.lt (k - 1) (by omega)
  have h3 := it_few (f := farT P H N) (N := N) far_ge1
  rcases Nat.lt_or_ge (fewT P H N) k with q | q
  · have h4 := itT_mono (f := farT P H N) (N := N) far_ge1 (c := fewT P H N) (d := k - 1) (by omega)
    have h5 : N ≤ itT (farT P H N) N (fewT P H N) := h3
    omega
  · exact q
theorem it_lt {N c : Nat} (h : c < fewT P H N) : itT (farT P H N) N c < N := by
  rcases Nat.lt_or_ge (itT (farT P H N) N c) N with q | q
  · exact q
  · have : fewT P H N ≤ c := few_it far_ge1 q
    omega
theorem apt_ex {N : Nat} : Apt P H N (fewT P H N) (itT (farT P H N) N) := by
  refine ⟨fun c h => it_lt h, fun c h => ?_⟩
  conv => rhs; unfold itT
  rw [if_pos (it_lt (by omega))]
  omega
/-- seen from the other end as many -/
theorem few_mir {P' H' : Nat → Int} {N : Nat} {C : Int} (hP : ∀ i, i < N → P' i = C - P (N - 1 - i)) (hH : ∀ i, i < N → H' i = H (N - 1 - i)) : fewT P H N ≤ fewT P' H' N := by
  have A := apt_ex (P := P) (H := H) (N := N)
  generalize itT (farT P H N) N = p at A
  generalize fewT P H N = k at A
  refine apt_le (p := fun c => N - 1 - p (k - 1 - c)) ⟨fun c hc => ?_, fun c hc => ?_⟩
  · have := A.lt (k - 1 - c) (by omega)
    show N - 1 - p (k - 1 - c) < N
    omega
  · show farT P' H' N (N - 1 - p (k - 1 - c)) < N - 1 - p (k - 1 - (c + 1))
    have hb := A.lt (k - 1 - c) (by omega)
    have ha := A.lt (k - 1 - (c + 1)) (by omega)
    have hap := A.ap (k - 1 - (c + 1)) (by omega)
    rw [show k - 1 - (c + 1) + 1 = k - 1 - c by omega] at hap
    generalize p (k - 1 - c) = b at *
    generalize p (k - 1 - (c + 1)) = a at *
    have hF := far_is (P := P) (H := H) ha
    obtain ⟨m1, m2, m3⟩ := far_is (P := P') (H := H') (show N - 1 - b < N by omega)
    rcases Nat.lt_or_ge (farT P' H' N (N - 1 - b)) (N - 1 - a) with q | q
    · exact q
    exfalso
    generalize farT P' H' N (N - 1 - b) = m at *
    have hab : a < b := by
      have := hF.2.1.1
      omega
    obtain ⟨_, ⟨s, hs, ch⟩ | ch⟩ := m2
    · have : InA P H a (N - 1 - s) := ⟨by omega, .inr fun x h1 h2 => by
        obtain ⟨y, y1, y2, y3⟩ := ch (N - 1 - x) (by omega) (by omega)
        rw [hP _ (by omega), hP _ (by omega), hH _ (by omega), show N - 1 - (N - 1 - x) = x by omega] at y3
        exact ⟨N - 1 - y, by omega, by omega, by omega⟩⟩
      have := hF.2.2 _ (by omega) this
      omega
    · have : InA P H a b := ⟨by omega, .inl ⟨N - 1 - m, by omega, fun x h1 h2 => by
        obtain ⟨y, y1, y2, y3⟩ := ch (N - 1 - x) (by omega) (by omega)
        rw [hP _ (by omega), hP _ (by omega), hH _ (by omega), show N - 1 - (N - 1 - x) = x by omega] at y3
        exact ⟨N - 1 - y, by omega, by omega, by omega⟩⟩⟩
      have := hF.2.2 _ hb this
      omega
variable (W : Pw P H n per)
include W
theorem in_shU {i m : Nat} (h : InA P H i m) : InA P H (i + n) (m + n) := by
  obtain ⟨h0, ⟨s, hs, h⟩ | h⟩ := h
  · exact ⟨by omega, .inl ⟨s + n, by omega, (chR_sh W).mpr h⟩⟩
  · exact ⟨by omega, .inr ((chL_sh W).mpr h)⟩
theorem in_shUd {i m : Nat} (h : InA P H i m) : ∀ d, InA P H (i + d * n) (m + d * n)
  | 0 => by simpa using h
  | d + 1 => by
    have := in_shU W (in_shUd h d)
    rw [Nat.succ_mul, ← Nat.add_assoc, ← Nat.add_assoc]
    exact this
theorem few_add (a b : Nat) : fewT P H ((a + b) * n) ≤ fewT P H (a * n) + fewT P H (b * n) := by
  have A := apt_ex (P := P) (H := H) (N := (a + b) * n)
  generalize itT (farT P H ((a + b) * n)) ((a + b) * n) = p at A
  generalize fewT P H ((a + b) * n) = k at A
  have en : (a + b) * n = a * n + b * n := Nat.add_mul _ _ _
  obtain ⟨c1, hc1, hlo, hhi⟩ : ∃ c1, c1 ≤ k ∧ (∀ c, c < c1 → p c < a * n) ∧ ∀ c, c1 ≤ c → c < k → a * n ≤ p c := by
    obtain ⟨c1, f1, f2⟩ := least_ex (p := fun c => c = k ∨ (c < k ∧ a * n ≤ p c)) (.inl rfl)
    have hk : c1 ≤ k := by
      rcases f1 with e | e <;> omega
    refine ⟨c1, hk, fun c hc => ?_, fun c h1 h2 => ?_⟩
    · rcases Nat.lt_or_ge (p c) (a * n) with q | q
      · exact q
      · exact absurd (.inr ⟨by omega, q⟩) (f2 c hc)
    · rcases f1 with e | ⟨e1, e2⟩
      · omega
      · exact Nat.le_trans e2 (A.mono h1 h2)
  have h1 : c1 ≤ fewT P H (a * n) := apt_le (p := p) ⟨hlo, fun c hc => by
    have := farT_big (P := P) (H := H) (hlo c (by omega)) (show a * n ≤ (a + b) * n by omega)
    have := A.ap c (by omega)
    omega⟩
  have h2 : k - c1 ≤ fewT P H (b * n) := apt_le (p := fun c => p (c1 + c) - a * n) ⟨fun c hc => by
      have := A.lt (c1 + c) (by omega)
      show p (c1 + c) - a * n < b * n
      have := hhi (c1 + c) (by omega) (by omega)
      omega, fun c hc => by
      show farT P H (b * n) (p (c1 + c) - a * n) < p (c1 + c + 1) - a * n
      have g1 := A.lt (c1 + c) (by omega)
      have g2 := hhi (c1 + c) (by omega) (by omega)
      have g3 := A.ap (c1 + c) (by omega)
      have hF := far_is (P := P) (H := H) (show p (c1 + c) - a * n < b * n by omega)
      have h3 := in_shUd W hF.2.1 a
      rw [Nat.sub_add_cancel g2] at h3
      have := (far_is (P := P) (H := H) g1).2.2 _ (by have := hF.1; omega) h3
      omega⟩
  omega
variable (M : ∀ i j, i ≤ j → P i ≤ P j) (S : ∀ i j, i < n → j < n → P i < P j + per) (hp : ∀ i, 0 ≤ H i)
include M S
/-- between three stones apart: not both is a push from the left copy too far and one from the right -/
theorem no_both {t a b d y s : Nat} (hab : a < b) (hbd : b < d) (hd : d < t * n) (h1 : ∀ m, m < t * n → InA P H a m → m < b) (h2 : ∀ m, m < t * n → InA P H b m → m < d)
    (hy1 : t * n ≤ y) (hy2 : y < t * n + n) (hL : ChL P H y a) (hs : s < n) (hR : ChR P H s (d + n)) : False := by
  have n0 := W.n0
  have sb : b < s := by
    rcases Nat.lt_or_ge b s with q | q
    · exact q
    · have := h2 d hd ⟨by omega, .inl ⟨s, q, hR.dn (by omega)⟩⟩
      omega
  have tn : n ≤ t * n := by
    rcases Nat.eq_zero_or_pos t with rfl | q
    · rw [Nat.zero_mul] at hd
      omega
    · exact Nat.le_mul_of_pos_left _ q
  obtain ⟨x, rfl⟩ : ∃ x, y = x + n := ⟨y - n, by omega⟩
  have hxb : x < b := by
    rcases Nat.lt_or_ge x b with q | q
    · exact q
    · have := h1 x (by omega) ⟨by omega, .inr ((chL_sh W).mp (hL.up (by omega)))⟩
      omega
  have t1 : t * n = n := by
    rcases Nat.lt_or_ge 1 t with q | q
    · have : 2 * n ≤ t * n := Nat.mul_le_mul_right _ q
      omega
    · have : t * n ≤ 1 * n := Nat.mul_le_mul_right _ q
      omega
  rw [t1] at hd h1 h2 hy1 hy2
  obtain ⟨k, ka, kb, hk⟩ : ∃ k, a ≤ k ∧ k < b ∧ ∀ q, k < q → q < n → P k < P q - H q := by
    obtain ⟨k0, f1, f2⟩ := least_ex (p := fun k0 => b ≤ k0 ∧ k0 < n ∧ ∀ q, k0 < q → q < n → P k0 < P q - H q) (c := n - 1) ⟨by omega, by omega, fun q q1 q2 => by omega⟩
    apply Classical.byContradiction
    intro no
    have := h1 k0 f1.2.1 ⟨by omega, .inr fun k ka kk => by
      have : ¬ ∀ q, k < q → q < n → P k < P q - H q := fun z => by
        rcases Nat.lt_or_ge k b with c | c
        · exact no ⟨k, ka, c, z⟩
        · exact f2 k kk ⟨c, by omega, z⟩
      apply Classical.byContradiction
      intro no2
      refine this fun q q1 q2 => ?_
      rcases Int.lt_or_le (P k) (P q - H q) with c | c
      · exact c
      · exfalso
        rcases Nat.lt_or_ge k0 q with c2 | c2
        · have := f1.2.2 q c2 q2
          have := M k k0 (by omega)
          omega
        · exact no2 ⟨q, q1, c2, c⟩⟩
    omega
  obtain ⟨k', ka', kb', hk'⟩ : ∃ k, b < k ∧ k ≤ d ∧ ∀ q, q < k → P q + H q < P k := by
    obtain ⟨j0, f1, f2⟩ := least_ex (p := fun j => b - j ≤ b ∧ ∀ q, q < b - j → P q + H q < P (b - j)) (c := b) ⟨by omega, fun q q1 => by omega⟩
    apply Classical.byContradiction
    intro no
    have := h2 d hd ⟨by omega, .inl ⟨b - j0, by omega, fun k ka kk => by
      have : ¬ ∀ q, q < k → P q + H q < P k := fun z => by
        rcases Nat.lt_or_ge b k with c | c
        · exact no ⟨k, c, kk, z⟩
        · refine f2 (b - k) (by omega) ⟨by omega, ?_⟩
          rw [show b - (b - k) = k by omega]
          exact z
      apply Classical.byContradiction
      intro no2
      refine this fun q q1 => ?_
      rcases Int.lt_or_le (P q + H q) (P k) with c | c
      · exact c
      · exfalso
        rcases Nat.lt_or_ge q (b - j0) with c2 | c2
        · have := f1.2 q c2
          have := M (b - j0) k (by omega)
          omega
        · exact no2 ⟨q, c2, q1, c⟩⟩⟩
    omega
  obtain ⟨q, q1, q2, q3⟩ := hL k ka (by omega)
  have qn : n ≤ q := by
    rcases Nat.lt_or_ge q n with c | c
    · have := hk q q1 c
      omega
    · exact c
  obtain ⟨q', rfl⟩ : ∃ q', q = q' + n := ⟨q - n, by omega⟩
  obtain ⟨v, v1, v2, v3⟩ := hR (k' + n) (by omega) (by omega)
  have vn : v < n := by
    rcases Nat.lt_or_ge v n with c | c
    · exact c
    · obtain ⟨v', rfl⟩ : ∃ v', v = v' + n := ⟨v - n, by omega⟩
      have := hk' v' (by omega)
      rw [W.p, W.p, W.h] at v3
      omega
  have e1 := hk v (by omega) vn
  have e2 := hk' q' (by omega)
  have e3 := S v q' vn (by omega)
  rw [W.p, W.h] at q3
  rw [W.p] at v3
  omega
theorem few_up (t : Nat) : fewT P H (t * n) ≤ fewT P H ((t + 1) * n) := by
  classical
  have n0 := W.n0
  have A := apt_ex (P := P) (H := H) (N := t * n)
  generalize itT (farT P H (t * n)) (t * n) = p at A
  generalize fewT P H (t * n) = k at A
  have en : (t + 1) * n = t * n + n := Nat.succ_mul _ _
  have hap : ∀ c, c + 1 < k → ∀ m, m < t * n → InA P H (p c) m → m < p (c + 1) := fun c hc m hm hA => by
    have := (far_is (P := P) (H := H) (A.lt c (by omega))).2.2 m hm hA
    have := A.ap c hc
    omega
  obtain ⟨J, hJL, hJR⟩ : ∃ J, (∀ c, c + 1 < k → c + 1 < J → ¬ ∃ y, t * n ≤ y ∧ y < t * n + n ∧ ChL P H y (p c)) ∧ ∀ c, c + 1 < k → J ≤ c → ¬ ∃ s, s < n ∧ ChR P H s (p (c + 1) + n) := by
    by_cases hx : ∃ c, c + 1 < k ∧ ∃ y, t * n ≤ y ∧ y < t * n + n ∧ ChL P H y (p c)
    · obtain ⟨_, hx⟩ := hx
      obtain ⟨j0, f1, f2⟩ := least_ex (p := fun c => c + 1 < k ∧ ∃ y, t * n ≤ y ∧ y < t * n + n ∧ ChL P H y (p c)) hx
      refine ⟨j0 + 1, fun c h1 h2 h3 => f2 c (by omega) ⟨h1, h3⟩, fun c h1 h2 ⟨s, hs, hR⟩ => ?_⟩
      obtain ⟨g1, y, y1, y2, hL⟩ := f1
      have m1 := A.mono (c := j0 + 1 + 1) (d := c + 1) (by omega) h1
      exact no_both W M S (A.up g1) (A.up (show j0 + 1 + 1 < k by omega)) (A.lt _ (by omega)) (hap j0 g1) (hap (j0 + 1) (by omega)) y1 y2 hL hs (hR.dn (by omega))
    · exact ⟨k, fun c h1 _ h3 => hx ⟨c, h1, h3⟩, fun c h1 h2 => by omega⟩
  refine apt_le (p := fun c => if c < J then p c else p c + n) ⟨fun c hc => ?_, fun c hc => ?_⟩
  · have := A.lt c hc
    show (if c < J then p c else p c + n) < (t + 1) * n
    split <;> omega
  · show farT P H ((t + 1) * n) (if c < J then p c else p c + n) < (if c + 1 < J then p (c + 1) else p (c + 1) + n)
    have l1 := A.lt c (by omega)
    have l2 := A.lt (c + 1) hc
    have l3 := A.up hc
    have l4 := hap c hc
    by_cases c1 : c + 1 < J
    · rw [if_pos c1, if_pos (by omega)]
      obtain ⟨m1, m2, m3⟩ := far_is (P := P) (H := H) (show p c < (t + 1) * n by omega)
      generalize farT P H ((t + 1) * n) (p c) = m at *
      rcases Nat.lt_or_ge m (p (c + 1)) with q | q
      · exact q
      exfalso
      obtain ⟨_, ⟨s, hs, ch⟩ | ch⟩ := m2
      · have := l4 (p (c + 1)) l2 ⟨by omega, .inl ⟨s, hs, ch.dn q⟩⟩
        omega
      · rcases Nat.lt_or_ge m (t * n) with z | z
        · have := l4 m z ⟨by omega, .inr ch⟩
          omega
        · exact hJL c hc c1 ⟨m, z, by omega, ch⟩
    · rw [if_neg c1]
      by_cases c2 : c < J
      · rw [if_pos c2]
        obtain ⟨m1, m2, m3⟩ := far_is (P := P) (H := H) (show p c < (t + 1) * n by omega)
        generalize farT P H ((t + 1) * n) (p c) = m at *
        rcases Nat.lt_or_ge m (p (c + 1) + n) with q | q
        · exact q
        exfalso
        obtain ⟨_, ⟨s, hs, ch⟩ | ch⟩ := m2
        · have := l4 (p (c + 1)) l2 ⟨by omega, .inl ⟨s, hs, ch.dn (by omega)⟩⟩
          omega
        · obtain ⟨x, rfl⟩ : ∃ x, m = x + n := ⟨m - n, by omega⟩
          have := l4 x (by omega) ⟨by omega, .inr ((chL_sh W).mp (ch.up (by omega)))⟩
          omega
      · rw [if_neg c2]
        obtain ⟨m1, m2, m3⟩ := far_is (P := P) (H := H) (show p c + n < (t + 1) * n by omega)
        generalize farT P H ((t + 1) * n) (p c + n) = m at *
        rcases Nat.lt_or_ge m (p (c + 1) + n) with q | q
        · exact q
        exfalso
        obtain ⟨x, rfl⟩ : ∃ x, m = x + n := ⟨m - n, by omega⟩
        obtain ⟨_, ⟨s, hs, ch⟩ | ch⟩ := m2
        · rcases Nat.lt_or_ge s n with z | z
          · exact hJR c hc (by omega) ⟨s, z, ch.dn (by omega)⟩
          · obtain ⟨s', rfl⟩ : ∃ s', s = s' + n := ⟨s - n, by omega⟩
            have := l4 x (by omega) ⟨by omega, .inl ⟨s', by omega, (chR_sh W).mp ch⟩⟩
            omega
        · have := l4 x (by omega) ⟨by omega, .inr ((chL_sh W).mp ch)⟩
          omega
theorem few_upd (t : Nat) : ∀ d, fewT P H (t * n) ≤ fewT P H ((t + d) * n)
  | 0 => Nat.le_refl _
  | d + 1 => Nat.le_trans (few_upd t d) (few_up W M S (t + d))
end
/-! the walk of many copies, told by the walk of sixty -/
section
variable {P H : Nat → Int} {n : Nat} {per : Int}
noncomputable def walkT (P H : Nat → Int) (n t c : Nat) : Nat := itT (farT P H (t * n)) (t * n) c
theorem walk_mono {t c d : Nat} (h : c ≤ d) : walkT P H n t c ≤ walkT P H n t d := itT_mono far_ge1 h
theorem walk_succ {t c : Nat} (h : walkT P H n t c < t * n) : walkT P H n t (c + 1) = farT P H (t * n) (walkT P H n t c) + 1 := if_pos h
variable (W : Pw P H n per)
include W
theorem farT_same (hR : ¬ EndR P H n) (hL : ¬ EndL P H n) {t T x : Nat} (hx : x < (t - 1) * n) (hT : t ≤ T) : farT P H (T * n) x = farT P H (t * n) x := by
  have n0 := W.n0
  have e := Nat.div_add_mod x n
  rw [Nat.mul_comm] at e
  have hc : x / n < t - 1 := (Nat.div_lt_iff_lt_mul n0).mpr hx
  have hr := Nat.mod_lt x n0
  rw [← e]
  generalize x / n = c at *
  generalize x % n = r at *
  rw [far_local W hR hL (t := T) (c := c) (r := r) (b := min 1 c) (a := 1) (by omega) hr rfl (by omega), far_local W hR hL (t := t) (c := c) (r := r) (b := min 1 c) (a := 1) (by omega) hr rfl (by omega)]
theorem walk_big (hR : ¬ EndR P H n) (hL : ¬ EndL P H n) {t T : Nat} (hT : t ≤ T) : ∀ c, (∀ d, d < c → walkT P H n t d < (t - 1) * n) → walkT P H n T c = walkT P H n t c
  | 0, _ => rfl
  | c + 1, h => by
    have ih := walk_big hR hL hT c fun d hd => h d (by omega)
    have h1 := h c (by omega)
    have h2 : (t - 1) * n ≤ t * n := Nat.mul_le_mul_right _ (by omega)
    have h3 : t * n ≤ T * n := Nat.mul_le_mul_right _ hT
    rw [walk_succ (t := T) (by rw [ih]; omega), walk_succ (t := t) (by omega), ih, farT_same W hR hL h1 hT]
theorem few_Sd (hR : ¬ EndR P H n) {T x : Nat} (hx : n ≤ x) : ∀ p, gr (farT P H ((T + p) * n)) ((T + p) * n) ((T + p) * n) (x + p * n) = gr (farT P H (T * n)) (T * n) (T * n) x
  | 0 => by simp
  | p + 1 => by
    have ih := few_Sd (T := T) hR hx p
    have e1 : (T + p + 1) * n = (T + p) * n + n := Nat.succ_mul _ _
    have e2 : (p + 1) * n = p * n + n := Nat.succ_mul _ _
    have := few_S W (t := T + p) hR ((T + p) * n) ((T + p + 1) * n) (x + p * n) (by omega) (by omega) (by omega)
    rw [e2, ← Nat.add_assoc x]
    exact this.symm.trans ih
theorem few_from {t c : Nat} (h : c = 0 ∨ walkT P H n t (c - 1) < t * n) : fewT P H (t * n) = c + gr (farT P H (t * n)) (t * n) (t * n) (walkT P H n t c) := it_gr far_ge1 h
theorem few_jump (hR : ¬ EndR P H n) (hL : ¬ EndL P H n) {b k p : Nat} (hbk : b < k) (hb : n ≤ walkT P H n 60 b) (hk : walkT P H n 60 k = walkT P H n 60 b + p * n) (hk2 : walkT P H n 60 k < 50 * n) {T : Nat} (hT : 60 ≤ T) : fewT P H ((T + p) * n) = fewT P H (T * n) + (k - b) := by
  have all : ∀ d, d < k + 1 → walkT P H n 60 d < (60 - 1) * n := fun d hd => by
    have := walk_mono (P := P) (H := H) (n := n) (t := 60) (show d ≤ k by omega)
    omega
  have h3 : 60 * n ≤ T * n := Nat.mul_le_mul_right _ hT
  have h4 : T * n ≤ (T + p) * n := Nat.mul_le_mul_right _ (by omega)
  have e1 := fun c (hc : c ≤ k) => walk_big W hR hL hT c fun d hd => all d (by omega)
  have e2 := fun c (hc : c ≤ k) => walk_big W hR hL (show 60 ≤ T + p by omega) c fun d hd => all d (by omega)
  have f1 := few_from W (t := T) (c := b) (by
    rcases Nat.eq_zero_or_pos b with q | q
    · exact .inl q
    · refine .inr ?_
      rw [e1 _ (by omega)]
      have := all (b - 1) (by omega)
      omega)
  have f2 := few_from W (t := T + p) (c := k) (.inr (by
    rw [e2 _ (by omega)]
    have := all (k - 1) (by omega)
    omega))
  rw [e1 b (by omega)] at f1
  rw [e2 k (Nat.le_refl _), hk, few_Sd W hR hb p] at f2
  omega
theorem few_jumps (hR : ¬ EndR P H n) (hL : ¬ EndL P H n) {b k p : Nat} (hbk : b < k) (hb : n ≤ walkT P H n 60 b) (hk : walkT P H n 60 k = walkT P H n 60 b + p * n) (hk2 : walkT P H n 60 k < 50 * n) {T : Nat} (hT : 60 ≤ T) : ∀ q, fewT P H ((T + q * p) * n) = fewT P H (T * n) + q * (k - b)
  | 0 => by simp
  | q + 1 => by
    have ih := few_jumps hR hL hbk hb hk hk2 hT q
    have := few_jump W hR hL hbk hb hk hk2 (T := T + q * p) (by omega)
    rw [show T + (q + 1) * p = T + q * p + p by rw [Nat.succ_mul]; omega, this, ih, Nat.succ_mul]
    omega
theorem no_end {b k : Nat} (hbk : b < k) (hb : n ≤ walkT P H n 60 b) (hk2 : walkT P H n 60 k < 50 * n) : ¬ EndR P H n ∧ ¬ EndL P H n := by
  have n0 := W.n0
  have hbk2 := walk_mono (P := P) (H := H) (n := n) (t := 60) (show b + 1 ≤ k by omega)
  have hbk1 := walk_mono (P := P) (H := H) (n := n) (t := 60) (show b ≤ b + 1 by omega)
  constructor
  · rintro ⟨s, hs, ch⟩
    have hf := (far_is (P := P) (H := H) (show walkT P H n 60 b < 60 * n by omega)).2.2 (60 * n - 1) (by omega) ⟨by omega, .inl ⟨s, by omega, (chR_on W ch (by omega) (60 * n)).dn (by omega)⟩⟩
    have := walk_succ (P := P) (H := H) (n := n) (t := 60) (c := b) (by omega)
    omega
  · rintro ⟨j, j1, j2, ch⟩
    have hf := (far_is (P := P) (H := H) (show 0 < 60 * n by omega)).2.2 j (by omega) ⟨by omega, .inr (chL_on W ch (by omega))⟩
    have w1 := walk_succ (P := P) (H := H) (n := n) (t := 60) (c := 0) (show 0 < 60 * n by omega)
    have w0 : walkT P H n 60 0 = 0 := rfl
    rw [w0] at w1
    have hb1 : 1 ≤ b := by
      rcases Nat.eq_zero_or_pos b with rfl | q
      · omega
      · exact q
    have w2 := walk_mono (P := P) (H := H) (n := n) (t := 60) hb1
    have w1 : walkT P H n 60 1 = farT P H (60 * n) 0 + 1 := w1
    rcases far_step W (t := 60) n0 (by decide) with ⟨a, _⟩ | ⟨a, _⟩ <;> omega
theorem walk_step (hR : ¬ EndR P H n) (hL : ¬ EndL P H n) {t c : Nat} : walkT P H n t (c + 1) ≤ walkT P H n t c + 2 * n := by
  have n0 := W.n0
  rcases Nat.lt_or_ge (walkT P H n t c) (t * n) with q | q
  · rw [walk_succ q]
    have hf := (far_is (P := P) (H := H) q).2.1
    generalize farT P H (t * n) (walkT P H n t c) = m at *
    have e := Nat.div_add_mod (walkT P H n t c) n
    rw [Nat.mul_comm] at e
    rw [← e] at hf
    have := in_bd W hR hL (Nat.mod_lt _ n0) hf
    rw [Nat.add_mul] at this
    omega
  · have : walkT P H n t (c + 1) = walkT P H n t c := if_neg (by unfold walkT at q; omega)
    omega
theorem pigeon (hR : ¬ EndR P H n) (hL : ¬ EndL P H n) (hn : n ≤ 12) (hd : ∀ b k, b < k → n ≤ walkT P H n 60 b → walkT P H n 60 k < 50 * n → walkT P H n 60 b % n ≠ walkT P H n 60 k % n) : False := by
  have n0 := W.n0
  obtain ⟨c0, f1, f2⟩ := least_ex (p := fun c => n ≤ walkT P H n 60 c) (c := fewT P H (60 * n)) (by
    have : 60 * n ≤ walkT P H n 60 (fewT P H (60 * n)) := it_few far_ge1
    show n ≤ walkT P H n 60 (fewT P H (60 * n))
    omega)
  have hc0 : 0 < c0 := by
    rcases Nat.eq_zero_or_pos c0 with rfl | q
    · have : walkT P H n 60 0 = 0 := rfl
      omega
    · exact q
  have h0 : walkT P H n 60 c0 ≤ 3 * n := by
    have g1 := f2 (c0 - 1) (by omega)
    have g2 := walk_step W hR hL (t := 60) (c := c0 - 1)
    rw [show c0 - 1 + 1 = c0 by omega] at g2
    omega
  have h1 : ∀ i, walkT P H n 60 (c0 + i) ≤ 3 * n + i * (2 * n) := fun i => by
    induction i with
    | zero => simpa using h0
    | succ i ih =>
      have g2 := walk_step W hR hL (t := 60) (c := c0 + i)
      have e1 : (i + 1) * (2 * n) = i * (2 * n) + 2 * n := Nat.succ_mul _ _
      have : c0 + (i + 1) = c0 + i + 1 := rfl
      rw [this]
      omega
  have h2 : ∀ i, i ≤ n → walkT P H n 60 (c0 + i) < 50 * n := fun i hi => by
    have g1 := h1 i
    have g2 : i * (2 * n) ≤ 12 * (2 * n) := Nat.mul_le_mul_right _ (by omega)
    omega
  have := len_ltE (fs := (List.range (n + 1)).map fun i => walkT P H n 60 (c0 + i) % n) (n := n) (by
    refine List.pairwise_map.mpr (List.Pairwise.imp_of_mem ?_ List.pairwise_lt_range)
    intro a b ha hb hab
    have hb := List.mem_range.mp hb
    exact hd (c0 + a) (c0 + b) (by omega) (by have := walk_mono (P := P) (H := H) (n := n) (t := 60) (show c0 ≤ c0 + a by omega); omega) (h2 b (by omega))) fun k hk => by
      obtain ⟨i, _, rfl⟩ := List.mem_map.mp hk
      exact Nat.mod_lt _ n0
  rw [List.length_map, List.length_range] at this
  omega
theorem few_sixty (hn : n ≤ 12) (hd : ∀ b k, b < k → n ≤ walkT P H n 60 b → walkT P H n 60 k < 50 * n → walkT P H n 60 b % n ≠ walkT P H n 60 k % n) {t : Nat} (ht : 60 ≤ t) : fewT P H (60 * n) = fewT P H (t * n) := by
  by_cases h : EndR P H n ∨ EndL P H n
  · rw [few_end W h (t := 60) (by decide), few_end W h (t := t) (by omega)]
  · exact (pigeon W (fun z => h (.inl z)) (fun z => h (.inr z)) hn hd).elim
end
theorem turn_end {m : SRow} (I : Inc m) {s : Nat} (hs : s < m.length) : endOf (turnL m) s = endOf (mirror m) s := by
  rw [turn_aff I.n0]
  exact aff_end (by decide) I.mirror (by rw [mirror_len]; exact hs)
theorem turn_inc {m : SRow} (I : Inc m) : Inc (turnL m) := by
  rw [turn_aff I.n0]
  exact aff_inc (by decide) I.mirror
def mf__law_starts : MF := fun as R _ => ∃ (l : SRow) (per : Int) (t : Nat), as = [.d (rowD l), .d (.int per), .d (.int (t : Nat))] ∧ Per l per ∧ 1 ≤ t ∧ t * l.length ≤ 2000 ∧ R (.d (.list ((List.range (fewT (pP l per) (pH l) (t * l.length))).map fun c => natD (walkT (pP l per) (pH l) l.length t c))))
def gS (n : Nat) (g : Nat → Nat) : List PyData := (List.range n).map fun k => natD (g k)
theorem gS_len {n : Nat} {g : Nat → Nat} : (gS n g).length = n := by unfold gS; simp
theorem gS_at {n : Nat} {g : Nat → Nat} {k : Nat} (h : k < n) : (gS n g)[k]? = some (natD (g k)) := by
  unfold gS
  rw [List.getElem?_map, List.getElem?_range h]
  rfl
theorem gS_set {n : Nat} {g g' : Nat → Nat} {k : Nat} (h : k < n) (hk : ∀ j, j ≠ k → g' j = g j) : (gS n g).set k (natD (g' k)) = gS n g' := by
  apply List.ext_getElem?
  intro j
  rw [List.getElem?_set, gS_len]
  rcases Nat.lt_or_ge j n with c | c
  · rw [gS_at c, gS_at c]
    split
    · rename_i q
      subst q
      first | rfl | rw [if_pos (by omega)]
    · rename_i q
      rw [hk j (fun z => q z.symm)]
  · rw [if_neg (by omega)]
    unfold gS
    rw [List.getElem?_map, List.getElem?_map, List.getElem?_eq_none (by simp; omega)]
    rfl
/-- the greatest end of a push whose stretch begins here -/
structure Beg (l : SRow) (k : Nat) (g : Nat → Nat) : Prop where
  ex : ∀ i, i < l.length → ∃ q ∈ spN l, q.1 = i ∧ q.2 = g i
  r : ∀ i, i < l.length → endOf l i ≤ g i
  s : ∀ s, s < k → s ≤ g (startOf l s)
theorem beg0 {l : SRow} : Beg l 0 (endOf l) := ⟨fun i hi => ⟨(i, endOf l i), sp_mem.mpr ⟨i, hi, .inr rfl⟩, rfl, rfl⟩, fun i _ => Nat.le_refl _, fun s hs => by omega⟩
theorem Beg.step {l : SRow} {k : Nat} {g g' : Nat → Nat} (B : Beg l k g) (hk : k < l.length) (h0 : g' (startOf l k) = max (g (startOf l k)) k) (h : ∀ j, j ≠ startOf l k → g' j = g j) : Beg l (k + 1) g' := by
  have le : ∀ j, g j ≤ g' j := fun j => by
    by_cases c : j = startOf l k
    · subst c
      rw [h0]
      omega
    · rw [h j c]
      exact Nat.le_refl _
  refine ⟨fun i hi => ?_, fun i hi => Nat.le_trans (B.r i hi) (le i), fun s hs => ?_⟩
  · by_cases c : i = startOf l k
    · rcases Nat.le_total (g i) k with q | q
      · exact ⟨(startOf l k, k), sp_mem.mpr ⟨k, hk, .inl rfl⟩, c.symm, by
          rw [c, h0, ← c]
          show k = _
          omega⟩
      · obtain ⟨x, x1, x2, x3⟩ := B.ex i hi
        exact ⟨x, x1, x2, by rw [c, h0, ← c, x3]; omega⟩
    · rw [h i c]
      exact B.ex i hi
  · rcases Nat.lt_or_ge s k with q | q
    · exact Nat.le_trans (B.s s q) (le _)
    · obtain rfl : s = k := by omega
      rw [h0]
      omega
theorem Beg.far0 {l : SRow} {g : Nat → Nat} (I : Inc l) (B : Beg l l.length g) : g 0 = farE l 0 := by
  obtain ⟨q, q1, q2, q3⟩ := B.ex 0 I.n0
  have h1 := far_ge q1 (i := 0) (by omega) (by omega)
  obtain ⟨x, x1, x2, x3, x4⟩ := far_ex I I.n0
  obtain ⟨s, hs, rfl | rfl⟩ := sp_mem.mp x1
  · have := B.s s hs
    have x2 : startOf l s ≤ 0 := x2
    rw [show startOf l s = 0 by omega] at this
    have x4 : s = farE l 0 := x4
    omega
  · have x2 : s ≤ 0 := x2
    obtain rfl : s = 0 := by omega
    have := B.r 0 I.n0
    have x4 : endOf l 0 = farE l 0 := x4
    omega
theorem Beg.farS {l : SRow} {g : Nat → Nat} (I : Inc l) (B : Beg l l.length g) {j : Nat} (hj : j + 1 < l.length) : max (g (j + 1)) (farE l j) = farE l (j + 1) := by
  obtain ⟨q, q1, q2, q3⟩ := B.ex (j + 1) hj
  have hb := sp_bd I q1
  have h1 := far_ge q1 (i := j + 1) (by omega) (by omega)
  obtain ⟨y, y1, y2, y3, y4⟩ := far_ex I (show j < l.length by omega)
  have h2 : farE l j ≤ farE l (j + 1) := by
    rcases Nat.lt_or_ge y.2 (j + 1) with c | c
    · have := far_own I hj
      omega
    · have := far_ge y1 (i := j + 1) (by omega) c
      omega
  have h3 : farE l (j + 1) ≤ max (g (j + 1)) (farE l j) := by
    obtain ⟨x, x1, x2, x3, x4⟩ := far_ex I hj
    rcases Nat.lt_or_ge x.1 (j + 1) with c | c
    · have := far_ge x1 (i := j) (by omega) (by omega)
      omega
    · have e : x.1 = j + 1 := by omega
      obtain ⟨s, hs, rfl | rfl⟩ := sp_mem.mp x1
      · have := B.s s hs
        have e : startOf l s = j + 1 := e
        rw [e] at this
        have x4 : s = farE l (j + 1) := x4
        omega
      · have e : s = j + 1 := e
        subst e
        have := B.r (j + 1) hj
        have x4 : endOf l (j + 1) = farE l (j + 1) := x4
        omega
  omega
theorem it_cong {f g : Nat → Nat} {N : Nat} (h : ∀ i, i < N → f i = g i) : ∀ c, itT f N c = itT g N c
  | 0 => rfl
  | c + 1 => by
    unfold itT
    rw [it_cong h c]
    split
    · rename_i q
      rw [h _ q]
    · rfl
theorem d__law_starts {f : Addr} {fd : FuncData} (T : Txt K mg) (hm : mg "_law_starts" = some (.ref f)) (F0 : L2.Fun K "_law_starts" "_law_starts" s__law_starts f fd) (hb : Binds K fd ["_law_row_here", "_law_period", "_law_times"] []) (F__law_repeated : DFn P w K mg base CK "_law_repeated" 1 0 3 mf__law_repeated) (F__law_ends : DFn P w K mg base CK "_law_ends" 1 0 1 mf__law_ends) (F__law_turned : DFn P w K mg base CK "_law_turned" 1 0 1 mf__law_turned) : DFn P w K mg base CK "_law_starts" 2 0 3 mf__law_starts :=
  (dfn_of hm F0 hb sc__law_starts (fun cdv A outer s H E cx =>
 (dss_cons (ds_set (i := 3) sc__law_starts.nd rfl (by first | exact Or.inl rfl | exact Or.inr rfl) (de_call cx F__law_repeated (by decide) (by rfl) (da_cons (de_pv 0) (da_cons (de_pv 1) (da_cons (de_pv 2) da_nil)))))
 (dss_cons (ds_par3 (i := 4) (j := 5) (l := 6) (by rfl) sc__law_starts.nd rfl rfl rfl (by decide) (by decide) (by decide) rfl rfl rfl (da_cons (de_call cx F__law_ends (by decide) (by rfl) (da_cons (de_pv 3) da_nil)) (da_cons (de_call cx F__law_ends (by decide) (by rfl) (da_cons (de_call cx F__law_turned (by decide) (by rfl) (da_cons (de_pv 3) da_nil)) da_nil)) (da_cons (de_sub (de_len (by rfl) T.n_len (da_cons (de_pv 3) da_nil)) de_int) da_nil))) (by rfl))
 (dss_cons (ds_par3 (i := 7) (j := 8) (l := 9) (by rfl) sc__law_starts.nd rfl rfl rfl (by decide) (by decide) (by decide) rfl rfl rfl (da_cons (de_listC (by rfl) T.n_list (da_cons (de_pv 4) da_nil)) (da_cons (de_lst da_nil) (da_cons de_int da_nil))) (by rfl))
 (dss_cons (ds_for (Ctx.passes rfl) (by rfl) (di_range1 (by rfl) T.n_range (da_cons (de_len (by rfl) T.n_len (da_cons (de_pv 3) da_nil)) da_nil)) (dg_name (i := 10) sc__law_starts.nd rfl (by first | exact Or.inl rfl | exact Or.inr rfl)) (dss_cons (ds_set (i := 11) sc__law_starts.nd rfl (by first | exact Or.inl rfl | exact Or.inr rfl) (de_sub (de_pv 6) (de_ix (de_pv 5) (de_sub (de_pv 6) (de_pv 10)))))
 (dss_one (ds_sto (pv 7) (de_pv 11) (de_max2 (by rfl) (by rfl) T.n_max (da_cons (de_ix (de_pv 7) (de_pv 11)) (da_cons (de_pv 10) da_nil)))))))
 (dss_cons (ds_for (Ctx.passes rfl) (by rfl) (di_range2 (by rfl) T.n_range (da_cons de_int (da_cons (de_len (by rfl) T.n_len (da_cons (de_pv 3) da_nil)) da_nil))) (dg_name (i := 10) sc__law_starts.nd rfl (by first | exact Or.inl rfl | exact Or.inr rfl)) (dss_one (ds_sto (pv 7) (de_pv 10) (de_max2 (by rfl) (by rfl) T.n_max (da_cons (de_ix (de_pv 7) (de_pv 10)) (da_cons (de_ix (de_pv 7) (de_sub (de_pv 10) de_int)) da_nil))))))
 (dss_cons (ds_while (Ctx.passes rfl) (dt_lt (de_pv 9) (de_len (by rfl) T.n_len (da_cons (de_pv 3) da_nil))) (dss_cons (ds_mut PySem.F.slot_list_append PySem.F.type_list_append mt_append mut_app (pv 8) (da_cons (de_pv 9) da_nil))
 (dss_one (ds_set (i := 9) sc__law_starts.nd rfl (by first | exact Or.inl rfl | exact Or.inr rfl) (de_add (de_ix (de_pv 7) (de_pv 9)) de_int)))))
 (dss_one (ds_ret (de_pv 8))))))))))
  (by
    rintro as R ex hl ⟨l, per, t, rfl, P, t1, htl, h⟩
    have hn0 := P.i.n0
    have hn64 := P.n
    have pos := P.pos
    have hp1 := P.p1
    have I := rep_inc P t1 htl
    have hml : (repL l per t).length = t * l.length := rep_len l per t
    have hlen : ∀ m : SRow, oLen (.d (rowD m)) = fun R => R (.d (.int (m.length : Nat))) := fun m => by
      unfold rowD
      funext R
      walk_at "dx"
      rw [List.length_map]
    have t1l : t * 1 ≤ t * l.length := Nat.mul_le_mul_left _ hn0
    walk_at "dx"
    refine ⟨l, per, t, rfl, by omega, by omega, by omega, by omega, by omega, ?_⟩
    obtain ⟨m, hm⟩ : ∃ m, m = repL l per t := ⟨_, rfl⟩
    rw [← hm] at I hml ⊢
    have hm0 := I.n0
    have hm1 := I.n1
    walk_at "dx"
    refine ⟨m, rfl, I, ?_⟩
    refine ⟨m, rfl, hm0, hm1, ?_⟩
    walk_at "dx"
    refine ⟨turnL m, rfl, turn_inc I, ?_⟩
    rw [hlen]
    walk_at "dx"
    refine ⟨by walk_at "lim", by omega, by omega, ?_⟩
    have e0 : endsD m = gS m.length (endOf m) := rfl
    have hTl : (turnL m).length = m.length := by rw [turn_aff hm0, aff_len, mirror_len]
    rw [e0]
    refine for_range (fun k δ => ∃ (g : Nat → Nat) (x10 x11 : Option DV), Beg m k g ∧ δ = [some (.d (rowD l)), some (.d (.int per)), some (.d (.int (t : Nat))), some (.d (rowD m)), some (.d (.list (gS m.length (endOf m)))), some (.d (.list (endsD (turnL m)))), some (.d (.int (((m.length : Nat) : Int) - 1))), some (.own (gS m.length g)), some (.own []), some (.d (.int 0)), x10, x11]) ⟨_, _, _, beg0, rfl⟩ ?_ ?_
    rotate_left
    · rintro k δ K hk ⟨g, x10, x11, B, rfl⟩ hK
      have e2 : atI (endsD (turnL m)) (((m.length : Nat) : Int) - 1 - ((k : Nat) : Int)) = some (natD (endOf (mirror m) (m.length - 1 - k))) := by
        unfold endsD
        rw [hTl]
        rw [atI_map (f := fun s => natD (endOf (turnL m) s)) (m.length - 1 - k) (by omega) (List.getElem?_range (by omega)), turn_end I (by omega)]
      have hE := (endOf_ok I.mirror (s := m.length - 1 - k) (by rw [mirror_len]; omega)).lt
      rw [mirror_len] at hE
      have e3 : ((m.length : Nat) : Int) - 1 - ((endOf (mirror m) (m.length - 1 - k) : Nat) : Int) = (startOf m k : Nat) := by
        unfold startOf
        omega
      have hst : startOf m k < m.length := by
        unfold startOf
        omega
      walk_at "dx"
      rw [e2, show natD (endOf (mirror m) (m.length - 1 - k)) = .int ((endOf (mirror m) (m.length - 1 - k) : Nat) : Int) from rfl]
      walk_at "dx"
      rw [e3]
      have e4 : atI (gS m.length g) ((startOf m k : Nat) : Int) = some (natD (g (startOf m k))) := atI_map (f := fun k => natD (g k)) _ rfl (List.getElem?_range hst)
      rw [e4, show natD (g (startOf m k)) = .int ((g (startOf m k) : Nat) : Int) from rfl]
      walk_at "dx"
      rw [gS_len, ixN_nat hst]
      dsimp only
      obtain ⟨g', hg'⟩ : ∃ g' : Nat → Nat, ∀ j, g' j = if j = startOf m k then max (g j) k else g j := ⟨_, fun j => rfl⟩
      have e6 : g' (startOf m k) = max (g (startOf m k)) k := by rw [hg', if_pos rfl]
      have e7 : ∀ j, j ≠ startOf m k → g' j = g j := fun j hj => by rw [hg', if_neg hj]
      have e5 : PyData.int (if ((k : Nat) : Int) > ((g (startOf m k) : Nat) : Int) then ((k : Nat) : Int) else ((g (startOf m k) : Nat) : Int)) = natD (g' (startOf m k)) := by
        rw [e6]
        show _ = PyData.int ((max (g (startOf m k)) k : Nat) : Int)
        congr 1
        split <;> omega
      rw [e5, gS_set hst e7]
      exact hK _ ⟨g', _, _, B.step hk e6 e7, rfl⟩
    · rintro δ ⟨g, x10, x11, B, rfl⟩
      walk_at "dx"
      rw [hlen]
      walk_at "dx"
      refine ⟨⟨by omega, by omega⟩, ?_⟩
      rw [show (((m.length : Nat) : Int) - 1).toNat = m.length - 1 by omega]
      refine for_range (fun k δ => ∃ (g' : Nat → Nat) (x10 : Option DV), (∀ i, i ≤ k → i < m.length → g' i = farE m i) ∧ (∀ i, k < i → g' i = g i) ∧ δ = [some (.d (rowD l)), some (.d (.int per)), some (.d (.int (t : Nat))), some (.d (rowD m)), some (.d (.list (gS m.length (endOf m)))), some (.d (.list (endsD (turnL m)))), some (.d (.int (((m.length : Nat) : Int) - 1))), some (.own (gS m.length g')), some (.own []), some (.d (.int 0)), x10, x11]) ⟨g, _, fun i hi _ => by rw [show i = 0 by omega]; exact B.far0 I, fun i _ => rfl, rfl⟩ ?_ ?_
      · rintro δ ⟨g', x10, hA, _, rfl⟩
        have eg : gS m.length g' = gS m.length (farE m) := by
          unfold gS
          refine List.map_congr_left fun i hi => ?_
          have hi := List.mem_range.mp hi
          rw [hA i (by omega) hi]
        rw [eg]
        have e4 : ∀ i : Nat, i < m.length → atI (gS m.length (farE m)) ((i : Nat) : Int) = some (natD (farE m i)) := fun i hi => atI_map (f := fun k => natD (farE m k)) _ rfl (List.getElem?_range hi)
        have f1 : ∀ i, i < m.length → i ≤ farE m i := fun i hi => far_own I hi
        refine ⟨fun z δ => ∃ (c : Nat), (c = 0 ∨ itT (farE m) m.length (c - 1) < m.length) ∧ c ≤ itT (farE m) m.length c ∧ z = m.length - itT (farE m) m.length c ∧ δ = [some (.d (rowD l)), some (.d (.int per)), some (.d (.int (t : Nat))), some (.d (rowD m)), some (.d (.list (gS m.length (endOf m)))), some (.d (.list (endsD (turnL m)))), some (.d (.int (((m.length : Nat) : Int) - 1))), some (.own (gS m.length (farE m))), some (.own ((List.range c).map fun c => natD (itT (farE m) m.length c))), some (.d (.int ((itT (farE m) m.length c : Nat) : Int))), x10, x11], ⟨_, 0, .inl rfl, Nat.zero_le _, rfl, rfl⟩, ?_⟩
        rintro z δ ⟨c, hc, hci, rfl, rfl⟩
        walk_at "dx"
        rw [hlen]
        walk_at "dx"
        have hcl : (List.map (fun c => natD (itT (farE m) m.length c)) (List.range c)).length = c := by rw [List.length_map, List.length_range]
        refine ⟨fun c1 => ?_, fun c1 => ?_⟩
        · have c1 : itT (farE m) m.length c < m.length := by omega
          rw [if_pos (by rw [hcl, sizeLine_eq]; omega), e4 _ c1]
          have e1 : itT (farE m) m.length (c + 1) = farE m (itT (farE m) m.length c) + 1 := if_pos c1
          have g1 := f1 _ c1
          rw [show natD (farE m (itT (farE m) m.length c)) = .int ((farE m (itT (farE m) m.length c) : Nat) : Int) from rfl]
          walk_at "dx"
          refine ⟨m.length - itT (farE m) m.length (c + 1), by omega, c + 1, .inr c1, by omega, rfl, ?_⟩
          rw [List.range_succ, List.map_append, e1]
          rfl
        · have c1 : m.length ≤ itT (farE m) m.length c := by omega
          have hfew : fewN m = c := by
            have := it_gr (f := farE m) (N := m.length) f1 hc
            rw [gr_zero c1] at this
            exact this
          have ew : ∀ c, itT (farE m) m.length c = walkT (pP l per) (pH l) l.length t c := fun c => by
            have : itT (farE m) m.length c = itT (farT (pP l per) (pH l) (t * l.length)) m.length c := it_cong (fun i hi => by
              rw [hm]
              exact far_rep (by rw [← hm]; exact I) (by omega)) c
            rw [this, hml]
            rfl
          have hfr : fewN m = fewT (pP l per) (pH l) (t * l.length) := by
            rw [hm]
            exact few_rep (by rw [← hm]; exact I)
          rw [← hfr, hfew] at h
          simp only [ew]
          exact h
      · rintro k δ K hk ⟨g', x10, hA, hB, rfl⟩ hK
        rw [show (1 : Int) + ((k : Nat) : Int) = ((k + 1 : Nat) : Int) by omega]
        have e4 : ∀ i : Nat, i < m.length → atI (gS m.length g') ((i : Nat) : Int) = some (natD (g' i)) := fun i hi => atI_map (f := fun k => natD (g' k)) _ rfl (List.getElem?_range hi)
        walk_at "dx"
        rw [e4 (k + 1) (by omega), show (((k + 1 : Nat) : Int) - 1) = ((k : Nat) : Int) by omega, e4 k (by omega), show natD (g' (k + 1)) = .int ((g' (k + 1) : Nat) : Int) from rfl, show natD (g' k) = .int ((g' k : Nat) : Int) from rfl]
        walk_at "dx"
        rw [gS_len, ixN_nat (by omega)]
        dsimp only
        have hmx := B.farS I (j := k) (by omega)
        rw [hA k (Nat.le_refl _) (by omega), hB (k + 1) (by omega)]
        obtain ⟨g2, hg2⟩ : ∃ g2 : Nat → Nat, ∀ j, g2 j = if j = k + 1 then farE m (k + 1) else g' j := ⟨_, fun j => rfl⟩
        have e6 : g2 (k + 1) = farE m (k + 1) := by rw [hg2, if_pos rfl]
        have e7 : ∀ j, j ≠ k + 1 → g2 j = g' j := fun j hj => by rw [hg2, if_neg hj]
        have e5 : PyData.int (if ((farE m k : Nat) : Int) > ((g (k + 1) : Nat) : Int) then ((farE m k : Nat) : Int) else ((g (k + 1) : Nat) : Int)) = natD (g2 (k + 1)) := by
          rw [e6, ← hmx]
          show _ = PyData.int ((max (g (k + 1)) (farE m k) : Nat) : Int)
          congr 1
          split <;> omega
        rw [e5, gS_set (by omega) e7]
        refine hK _ ⟨g2, _, fun i h1 h2 => ?_, fun i h1 => ?_, rfl⟩
        · by_cases q : i = k + 1
          · rw [q, e6]
          · rw [e7 i q]
            exact hA i (by omega) h2
        · rw [e7 i (by omega)]
          exact hB i (by omega))).le (by decide +kernel)
def mf__law_fewest : MF := fun as R _ => ∃ (l : SRow) (per : Int) (t : Nat), as = [.d (rowD l), .d (.int per), .d (.int (t : Nat))] ∧ Per l per ∧ l.length ≤ 12 ∧ 1 ≤ t ∧ t ≤ 2000000000000 ∧ R (.d (natD (fewT (pP l per) (pH l) (t * l.length))))
theorem gr_fu {f : Nat → Nat} {n : Nat} : ∀ F i, gr f n F i ≤ F
  | 0, i => Nat.zero_le _
  | F + 1, i => by
    have ih := gr_fu (f := f) (n := n) F (f i + 1)
    unfold gr
    split <;> omega
def enW (n : Nat) (w : Nat → Nat) (c : Nat) : PyData × PyData := (natD (w c % n), natD c)
def selW (n : Nat) (w : Nat → Nat) (k : Nat) : List Nat := (List.range k).filter fun c => decide (n ≤ w c ∧ w c < 50 * n)
theorem lk_enW {n : Nat} {w : Nat → Nat} (r : Nat) : ∀ cs : List Nat, lkD (cs.map (enW n w)) (.inl (r : Nat)) = (cs.find? fun c => decide (w c % n = r)).map natD
  | [] => rfl
  | c :: cs => by
    rw [List.map_cons, List.find?_cons]
    show (if keyQ (.inl ((r : Nat) : Int)) (.int ((w c % n : Nat) : Int)) = true then some (natD c) else lkD (cs.map (enW n w)) (.inl (r : Nat))) = _
    have q : keyQ (.inl ((r : Nat) : Int)) (.int ((w c % n : Nat) : Int)) = decide (w c % n = r) := decide_eq_decide.mpr (by omega)
    rw [q]
    by_cases z : w c % n = r
    · rw [decide_eq_true z]
      rfl
    · rw [decide_eq_false z, if_neg Bool.false_ne_true, lk_enW r cs]
theorem enumD_length : ∀ {k : Nat} {ds : List PyData}, (enumD k ds).length = ds.length
  | _, [] => rfl
  | k, d :: ds => by simp [enumD, enumD_length]
theorem d__law_fewest {f : Addr} {fd : FuncData} (T : Txt K mg) (hm : mg "_law_fewest" = some (.ref f)) (F0 : L2.Fun K "_law_fewest" "_law_fewest" s__law_fewest f fd) (hb : Binds K fd ["_law_row_here", "_law_period", "_law_times"] []) (F__law_starts : DFn P w K mg base CK "_law_starts" 2 0 3 mf__law_starts) : DFn P w K mg base CK "_law_fewest" 3 0 3 mf__law_fewest :=
  (dfn_of hm F0 hb sc__law_fewest (fun cdv A outer s H E cx =>
 (dss_cons (ds_par3 (i := 3) (j := 4) (l := 5) (by rfl) sc__law_fewest.nd rfl rfl rfl (by decide) (by decide) (by decide) rfl rfl rfl (da_cons (de_call cx F__law_starts (by decide) (by rfl) (da_cons (de_pv 0) (da_cons (de_pv 1) (da_cons (de_min2 (by rfl) (by rfl) T.n_min (da_cons (de_pv 2) (da_cons de_int da_nil))) da_nil)))) (da_cons de_dict0 (da_cons (de_len (by rfl) T.n_len (da_cons (de_pv 0) da_nil)) da_nil))) (by rfl))
 (dss_cons (ds_for (Ctx.passes rfl) (by rfl) (di_enumL (by rfl) T.n_enumerate (da_cons (de_pv 3) da_nil)) (dg_tup (by rfl) (dgs_cons (dg_name (i := 6) sc__law_fewest.nd rfl (by first | exact Or.inl rfl | exact Or.inr rfl)) (dgs_cons (dg_name (i := 7) sc__law_fewest.nd rfl (by first | exact Or.inl rfl | exact Or.inr rfl)) dgs_nil))) (dss_one (ds_if (DW.dt (dw_and (dt_gt (de_pv 2) de_int) (dw_and1 (dt_ch op_le op_lt (de_pv 5) (de_pv 7) (de_mul de_int (de_pv 5)))))) (dss_cons (ds_if (dt_din cx.u (de_mod (de_pv 7) (de_pv 5)) (de_pv 4)) (dss_cons (ds_set (i := 8) sc__law_fewest.nd rfl (by first | exact Or.inl rfl | exact Or.inr rfl) (de_dget cx.u (de_pv 4) (de_mod (de_pv 7) (de_pv 5))))
 (dss_cons (ds_par2 (i := 9) (j := 10) (by rfl) sc__law_fewest.nd rfl rfl (by decide) rfl rfl (da_cons (de_div (de_sub (de_pv 7) (de_ix (de_pv 3) (de_pv 8))) (de_pv 5)) (da_cons (de_sub (de_pv 6) (de_pv 8)) da_nil)) (by rfl))
 (dss_cons (ds_set (i := 11) sc__law_fewest.nd rfl (by first | exact Or.inl rfl | exact Or.inr rfl) (de_add de_int (de_mod (de_sub (de_pv 2) de_int) (de_pv 9))))
 (dss_one (ds_ret (de_add (de_len (by rfl) T.n_len (da_cons (de_call cx F__law_starts (by decide) (by rfl) (da_cons (de_pv 0) (da_cons (de_pv 1) (da_cons (de_pv 11) da_nil)))) da_nil)) (de_mul (de_div (de_sub (de_pv 2) (de_pv 11)) (de_pv 9)) (de_pv 10)))))))) dss_nil)
 (dss_one (ds_dput cx.u (pv 4) (de_mod (de_pv 7) (de_pv 5)) (de_pv 6)))) dss_nil)))
 (dss_one (ds_ret (de_len (by rfl) T.n_len (da_cons (de_pv 3) da_nil)))))))
  (by
    rintro as R ex hl ⟨l, per, t, rfl, P, hn, t1, t2, h⟩
    have hn0 := P.i.n0
    have hn1 := P.n
    have pos := P.pos
    have hp1 := P.p1
    have W := pw_of (l := l) per hn0
    have hlen : ∀ m : SRow, oLen (.d (rowD m)) = fun R => R (.d (.int (m.length : Nat))) := fun m => by
      unfold rowD
      funext R
      walk_at "dx"
      rw [List.length_map]
    obtain ⟨u, hu⟩ : ∃ u, u = min t 60 := ⟨_, rfl⟩
    have hul : u * l.length ≤ 60 * 12 := Nat.mul_le_mul (by omega) hn
    have emin : (if (60 : Int) < (t : Nat) then (60 : Int) else (t : Nat)) = (u : Nat) := by split <;> omega
    walk_at "dx"
    rw [emin]
    refine ⟨l, per, u, rfl, P, by omega, by omega, ?_⟩
    obtain ⟨w, hw⟩ : ∃ w : Nat → Nat, w = walkT (pP l per) (pH l) l.length u := ⟨_, rfl⟩
    obtain ⟨F, hF⟩ : ∃ F, F = fewT (pP l per) (pH l) (u * l.length) := ⟨_, rfl⟩
    rw [← hw, ← hF]
    rw [hlen]
    walk_at "dx"
    refine ⟨by simp [DV.isBor], ?_⟩
    have hwm : ∀ b c, b ≤ c → w b ≤ w c := fun b c hbc => by
      rw [hw]
      exact walk_mono hbc
    have hwl : ∀ c, c < F → w c < u * l.length := fun c hc => by
      rw [hw]
      exact it_lt (by rw [← hF]; exact hc)
    have item : ∀ {k : Nat} {d : PyData}, (enumD 0 ((List.range F).map fun c => natD (w c)))[k]? = some d → k < F ∧ d = .tuple [.int ((k : Nat) : Int), .int ((w k : Nat) : Int)] := fun {k d} hd => by
      rw [enumD_get, List.getElem?_map] at hd
      rcases Nat.lt_or_ge k F with c | c
      · rw [List.getElem?_range c] at hd
        refine ⟨c, ?_⟩
        have hd := Option.some.inj hd
        rw [← hd, Nat.zero_add]
        rfl
      · rw [List.getElem?_eq_none (by simpa using c)] at hd
        cases hd
    have hFr : F ≤ u * l.length := by
      rw [hF]
      exact gr_fu _ _
    rcases Nat.lt_or_ge 60 t with ht | ht
    · have hu60 : u = 60 := by omega
      subst hu60
      have hd0 : ∀ c, F ≤ c → 60 * l.length ≤ w c := fun c hc => by
        have h1 := hwm F c hc
        have h2 : 60 * l.length ≤ w F := by
          rw [hw, hF]
          exact it_few far_ge1
        omega
      refine for_at (fun k δ => ∃ x6 x7 x8 x9 x10 x11 : Option DV, (∀ b c, b < c → c < k → l.length ≤ w b → w c < 50 * l.length → w b % l.length ≠ w c % l.length) ∧ δ = [some (.d (rowD l)), some (.d (.int per)), some (.d (.int (t : Nat))), some (.d (.list ((List.range F).map fun c => natD (w c)))), some (.odk ((selW l.length w k).map (enW l.length w))), some (.d (.int (l.length : Nat))), x6, x7, x8, x9, x10, x11]) ⟨_, _, _, _, _, _, fun b c _ hc => absurd hc (Nat.not_lt_zero _), rfl⟩ ?_ ?_
      · rintro δ ⟨x6, x7, x8, x9, x10, x11, hdist, rfl⟩
        rw [enumD_length, List.length_map, List.length_range] at hdist
        walk_at "dx"
        rw [List.length_map, List.length_range]
        have h60 := few_sixty W hn (t := t) (fun b c hbc h1 h2 => by
          rw [← hw] at h1 h2 ⊢
          rcases Nat.lt_or_ge c F with q | q
          · exact hdist b c hbc q h1 h2
          · have := hd0 c q
            omega) (by omega)
        rw [← h60, ← hF] at h
        exact h
      · rintro k d δ K hd ⟨x6, x7, x8, x9, x10, x11, hdist, rfl⟩ hK
        obtain ⟨hkF, rfl⟩ := item hd
        have hkl := hwl k hkF
        have skip : ¬ (l.length ≤ w k ∧ w k < 50 * l.length) → ∀ x8 x9 x10 x11 : Option DV, K [some (.d (rowD l)), some (.d (.int per)), some (.d (.int (t : Nat))), some (.d (.list ((List.range F).map fun c => natD (w c)))), some (.odk ((selW l.length w k).map (enW l.length w))), some (.d (.int (l.length : Nat))), some (.d (.int (k : Nat))), some (.d (.int (w k : Nat))), x8, x9, x10, x11] := fun q x8 x9 x10 x11 => hK _ ⟨_, _, _, _, _, _, fun b c hbc hc h1 h2 => by
            rcases Nat.lt_or_ge c k with z | z
            · exact hdist b c hbc z h1 h2
            · obtain rfl : c = k := by omega
              have := hwm b c (by omega)
              exact absurd ⟨by omega, h2⟩ q, by
            have : selW l.length w (k + 1) = selW l.length w k := by
              unfold selW
              rw [List.range_succ, List.filter_append, List.filter_cons_of_neg (by simpa using q)]
              simp
            rw [this]⟩
        have er : ((w k : Nat) : Int) % ((l.length : Nat) : Int) = ((w k % l.length : Nat) : Int) := rfl
        walk_at "dx"
        rw [er]
        refine ⟨fun _ => ⟨fun a1 => ⟨.inl ⟨by omega, by omega⟩, fun a2 => ⟨by omega, fun hin => ?_, fun hin => ?_⟩, fun a2 => skip (by omega) _ _ _ _⟩, fun a1 => skip (by omega) _ _ _ _⟩, fun q => absurd (by omega) q⟩
        · rw [lk_enW] at hin ⊢
          cases hf : (selW l.length w k).find? fun c => decide (w c % l.length = w k % l.length) with
          | none => rw [hf] at hin; cases hin
          | some b =>
            have hres : w b % l.length = w k % l.length := by have := List.find?_some hf; simpa using this
            have hmem := List.mem_of_find?_eq_some hf
            unfold selW at hmem
            rw [List.mem_filter, List.mem_range] at hmem
            obtain ⟨hbk, hb⟩ := hmem
            have hb := of_decide_eq_true hb
            have hlt : w b < w k := by
              have g1 := hwm (b + 1) k (by omega)
              have g2 : w (b + 1) = farT (pP l per) (pH l) (60 * l.length) (w b) + 1 := by
                rw [hw]
                exact walk_succ (by rw [← hw]; omega)
              have g3 := far_up (P := pP l per) (H := pH l) (show w b < 60 * l.length by omega)
              omega
            obtain ⟨p, hp⟩ : ∃ p, w k = w b + p * l.length := by
              have d1 := Nat.div_add_mod (w k) l.length
              have d2 := Nat.div_add_mod (w b) l.length
              have d3 : w b / l.length ≤ w k / l.length := Nat.div_le_div_right (by omega)
              refine ⟨w k / l.length - w b / l.length, ?_⟩
              rw [Nat.mul_comm] at d1 d2
              rw [Nat.sub_mul]
              have : w b / l.length * l.length ≤ w k / l.length * l.length := Nat.mul_le_mul_right _ d3
              omega
            have hp0 : 0 < p := by
              rcases Nat.eq_zero_or_pos p with q | q
              · rw [q, Nat.zero_mul] at hp
                omega
              · exact q
            have hp1 : p < 50 := Nat.lt_of_mul_lt_mul_right (a := l.length) (by omega)
            have ediv : (((w k : Nat) : Int) - ((w b : Nat) : Int)) / ((l.length : Nat) : Int) = (p : Nat) := by
              rw [show ((w k : Nat) : Int) - ((w b : Nat) : Int) = ((p * l.length : Nat) : Int) by omega]
              show ((p * l.length / l.length : Nat) : Int) = _
              rw [Nat.mul_div_cancel _ hn0]
            have eat : atI ((List.range F).map fun c => natD (w c)) ((b : Nat) : Int) = some (natD (w b)) := atI_map (f := fun c => natD (w c)) b rfl (List.getElem?_range (by omega))
            rw [Option.map_some, show natD b = .int ((b : Nat) : Int) from rfl]
            walk_at "dx"
            rw [eat, show natD (w b) = .int ((w b : Nat) : Int) from rfl]
            walk_at "dx"
            rw [ediv]
            obtain ⟨rest, hrest⟩ : ∃ rest, rest = 60 + (t - 60) % p := ⟨_, rfl⟩
            obtain ⟨q, hq⟩ : ∃ q, q = (t - 60) / p := ⟨_, rfl⟩
            have ht60 : ((t : Nat) : Int) - 60 = ((t - 60 : Nat) : Int) := by omega
            have erest : (60 : Int) + (((t : Nat) : Int) - 60) % ((p : Nat) : Int) = (rest : Nat) := by
              rw [ht60, hrest]
              rfl
            have hdm := Nat.div_add_mod (t - 60) p
            rw [Nat.mul_comm, ← hq] at hdm
            have hml2 := Nat.mod_lt (t - 60) hp0
            have htq : t = rest + q * p := by omega
            have eq2 : (((t : Nat) : Int) - (rest : Nat)) / ((p : Nat) : Int) = (q : Nat) := by
              rw [show ((t : Nat) : Int) - (rest : Nat) = ((q * p : Nat) : Int) by omega]
              show ((q * p / p : Nat) : Int) = _
              rw [Nat.mul_div_cancel _ hp0]
            rw [erest, eq2]
            have hqt : q ≤ t := by
              have : q * 1 ≤ q * p := Nat.mul_le_mul_left _ hp0
              omega
            have hrl : rest * l.length ≤ 110 * 12 := Nat.mul_le_mul (by omega) hn
            have hkF' : k ≤ 60 * l.length := by omega
            refine ⟨by omega, cdiv (by omega) (by omega), by omega, l, per, rest, rfl, P, by omega, by omega, ?_⟩
            walk_at "dx"
            rw [List.length_map, List.length_range]
            refine ⟨cdiv (by omega) (by omega), .inl ⟨by omega, by omega⟩, ?_⟩
            have hno := no_end W (b := b) (k := k) hbk (by rw [← hw]; omega) (by rw [← hw]; omega)
            have hj := few_jumps W hno.1 hno.2 (b := b) (k := k) (p := p) hbk (by rw [← hw]; omega) (by rw [← hw]; exact hp) (by rw [← hw]; omega) (T := rest) (by omega) q
            rw [← htq] at hj
            have ef : ((fewT (pP l per) (pH l) (rest * l.length) : Nat) : Int) + (q : Nat) * (((k : Nat) : Int) - ((b : Nat) : Int)) = ((fewT (pP l per) (pH l) (t * l.length) : Nat) : Int) := by
              rw [hj, show ((k : Nat) : Int) - ((b : Nat) : Int) = ((k - b : Nat) : Int) by omega]
              push_cast
              rfl
            rw [ef]
            exact h
        · have hn2 : (selW l.length w k).find? (fun c => decide (w c % l.length = w k % l.length)) = none := by
            rw [lk_enW] at hin
            cases hf : (selW l.length w k).find? fun c => decide (w c % l.length = w k % l.length) with
            | none => rfl
            | some b => rw [hf] at hin; cases hin
          have ep : putD ((selW l.length w k).map (enW l.length w)) (.inl ((w k % l.length : Nat) : Int)) (.int (k : Nat)) = (selW l.length w (k + 1)).map (enW l.length w) := by
            unfold putD
            rw [lk_enW, hn2]
            have : selW l.length w (k + 1) = selW l.length w k ++ [k] := by
              unfold selW
              rw [List.range_succ, List.filter_append, List.filter_cons_of_pos (by simpa using And.intro (show l.length ≤ w k by omega) (show w k < 50 * l.length by omega))]
              simp
            rw [this, List.map_append]
            rfl
          rw [ep]
          refine ⟨by omega, ?_, hK _ ⟨_, _, _, _, _, _, fun b c hbc hc h1 h2 => ?_, rfl⟩⟩
          · rw [List.length_map, sizeLine_eq]
            have : (selW l.length w k).length ≤ (List.range k).length := List.length_filter_le _ _
            rw [List.length_range] at this
            omega
          · rcases Nat.lt_or_ge c k with z | z
            · exact hdist b c hbc z h1 h2
            · obtain rfl : c = k := by omega
              have hbm : b ∈ selW l.length w c := by
                unfold selW
                rw [List.mem_filter, List.mem_range]
                have := hwm b c (by omega)
                exact ⟨hbc, decide_eq_true ⟨h1, by omega⟩⟩
              have := List.find?_eq_none.mp hn2 b hbm
              simpa using this
    · have hut : u = t := by omega
      subst hut
      refine for_at (fun k δ => ∃ x6 x7 x8 x9 x10 x11 : Option DV, δ = [some (.d (rowD l)), some (.d (.int per)), some (.d (.int (u : Nat))), some (.d (.list ((List.range F).map fun c => natD (w c)))), some (.odk []), some (.d (.int (l.length : Nat))), x6, x7, x8, x9, x10, x11]) ⟨_, _, _, _, _, _, rfl⟩ ?_ ?_
      · rintro δ ⟨x6, x7, x8, x9, x10, x11, rfl⟩
        walk_at "dx"
        rw [List.length_map, List.length_range, hF]
        exact h
      · rintro k d δ K hd ⟨x6, x7, x8, x9, x10, x11, rfl⟩ hK
        obtain ⟨hkF, rfl⟩ := item hd
        have fin : ∀ x8 x9 x10 x11 : Option DV, K [some (.d (rowD l)), some (.d (.int per)), some (.d (.int (u : Nat))), some (.d (.list ((List.range F).map fun c => natD (w c)))), some (.odk []), some (.d (.int (l.length : Nat))), some (.d (.int (k : Nat))), some (.d (.int (w k : Nat))), x8, x9, x10, x11] := fun x8 x9 x10 x11 => hK _ ⟨_, _, _, _, _, _, rfl⟩
        walk_at "dx"
        exact ⟨fun q => absurd q (by omega), fun _ => fin _ _ _ _⟩)).le (by decide +kernel)
theorem row_ext {l m : SRow} (h : l.length = m.length) (e : ∀ i, i < l.length → pl l i = pl m i ∧ ht l i = ht m i) : l = m := by
  apply List.ext_getElem?
  intro i
  rcases Nat.lt_or_ge i l.length with q | q
  · rw [row_get q, row_get (by omega), (e i q).1, (e i q).2]
  · rw [List.getElem?_eq_none q, List.getElem?_eq_none (by omega)]
theorem rep_last {l : SRow} {k : Nat} (hn : 0 < l.length) (hk : 0 < k) : (k * l.length - 1) / l.length = k - 1 ∧ (k * l.length - 1) % l.length = l.length - 1 := by
  obtain ⟨m', rfl⟩ : ∃ m', k = m' + 1 := ⟨k - 1, by omega⟩
  have e : (m' + 1) * l.length - 1 = (l.length - 1) + m' * l.length := by rw [Nat.add_mul]; omega
  rw [e, Nat.add_mul_div_right _ _ hn, Nat.add_mul_mod_self_right, Nat.div_eq_of_lt (by omega), Nat.mod_eq_of_lt (by omega)]
  omega
/-- the copies seen from the other end -/
theorem pP_mir {l : SRow} {per : Int} {k i : Nat} (hn : 0 < l.length) (hk : 0 < k) (hi : i < k * l.length) : pP (mirror l) per i = pl l 0 + pl l (l.length - 1) + ((k : Int) - 1) * per - pP l per (k * l.length - 1 - i) ∧ pH (mirror l) i = pH l (k * l.length - 1 - i) := by
  unfold pP pH
  rw [mirror_len]
  have hm := Nat.mod_lt i hn
  rw [mirror_pl hm, mirror_ht hm]
  have hc : i / l.length < k := Nat.div_lt_of_lt_mul (by rw [Nat.mul_comm]; exact hi)
  have hdm := Nat.div_add_mod i l.length
  have e : k * l.length - 1 - i = (l.length - 1 - i % l.length) + (k - 1 - i / l.length) * l.length := by
    have e1 : (k - 1 - i / l.length) * l.length + (i / l.length) * l.length + l.length = k * l.length := by
      rw [← Nat.add_mul, ← Nat.succ_mul]
      congr 1
      omega
    rw [Nat.mul_comm] at hdm
    omega
  have e1 : (k * l.length - 1 - i) % l.length = l.length - 1 - i % l.length := by rw [e, Nat.add_mul_mod_self_right, Nat.mod_eq_of_lt (by omega)]
  have e2 : (k * l.length - 1 - i) / l.length = k - 1 - i / l.length := by rw [e, Nat.add_mul_div_right _ _ hn, Nat.div_eq_of_lt (by omega), Nat.zero_add]
  rw [e1, e2]
  refine ⟨?_, rfl⟩
  have c1 : ((k - 1 - i / l.length : Nat) : Int) = ((k : Nat) : Int) - 1 - ((i / l.length : Nat) : Int) := by omega
  rw [c1, Int.sub_mul _ ((i / l.length : Nat) : Int)]
  omega
theorem chL_d {P H : Nat → Int} {n : Nat} {per : Int} (W : Pw P H n per) {j m : Nat} : ∀ d, ChL P H (j + d * n) (m + d * n) → ChL P H j m
  | 0, h => by simpa using h
  | d + 1, h => by
    rw [Nat.succ_mul, ← Nat.add_assoc, ← Nat.add_assoc] at h
    exact chL_d W d ((chL_sh W).mp h)
theorem endR_of {l : SRow} {per : Int} (P : Per l per) {s : Nat} (hs : s < l.length) (h : 10 * l.length ≤ endOf (repL l per 11) s) : EndR (pP l per) (pH l) l.length := by
  have hn := P.i.n0
  have hn1 := P.n
  have I := rep_inc P (K := 11) (by decide) (by omega)
  have hl : (repL l per 11).length = 11 * l.length := rep_len l per 11
  have e : ∀ i, i < 11 * l.length → pl (repL l per 11) i = pP l per i ∧ ht (repL l per 11) i = pH l i := fun i hi => rep_at hi
  have E := endOf_ok I (s := s) (by omega)
  refine ⟨s, hs, fun j a b => ?_⟩
  obtain ⟨k, y, z, w⟩ := E.ch j a (by omega)
  rw [(e j (by omega)).1, (e k (by omega)).1, (e k (by omega)).2] at w
  exact ⟨k, y, z, w⟩
theorem mirror_rep {l : SRow} {per : Int} {k : Nat} (hn : 0 < l.length) (hk : 0 < k) : mirror (repL l per k) = repL (mirror l) per k := by
  have hkn : 0 < k * l.length := Nat.mul_pos hk hn
  have last := rep_last (k := k) hn hk
  refine row_ext (by rw [mirror_len, rep_len, rep_len, mirror_len]) fun i hi => ?_
  rw [mirror_len, rep_len] at hi
  have hi' : i < (repL l per k).length := by rw [rep_len]; exact hi
  have hi2 : i < k * (mirror l).length := by rw [mirror_len]; exact hi
  have hm := pP_mir (per := per) hn hk hi
  have r1 : pl (repL (mirror l) per k) i = pP (mirror l) per i := (rep_at hi2).1
  have r2 : ht (repL (mirror l) per k) i = pH (mirror l) i := (rep_at hi2).2
  rw [mirror_pl hi', mirror_ht hi', r1, r2, hm.1, hm.2, rep_len]
  rw [(rep_at (show 0 < k * l.length from hkn)).1, (rep_at (show k * l.length - 1 < k * l.length by omega)).1, (rep_at (show k * l.length - 1 - i < k * l.length by omega)).1, (rep_at (show k * l.length - 1 - i < k * l.length by omega)).2, last.1, last.2, Nat.zero_mod, Nat.zero_div]
  refine ⟨?_, rfl⟩
  unfold pP
  have c1 : ((k - 1 : Nat) : Int) = (k : Int) - 1 := by omega
  rw [c1]
  simp only [Int.natCast_zero, Int.zero_mul]
  omega
theorem endL_of {l : SRow} {per : Int} (P : Per l per) {s : Nat} (hs : s < l.length) (h : 10 * l.length ≤ endOf (repL (mirror l) per 11) (l.length - 1 - s)) : EndL (pP l per) (pH l) l.length := by
  have hn := P.i.n0
  have hn1 := P.n
  have W := pw_of (l := l) per hn
  have I := rep_inc P (K := 11) (by decide) (by omega)
  have hl : (repL l per 11).length = 11 * l.length := rep_len l per 11
  have e : ∀ i, i < 11 * l.length → pl (repL l per 11) i = pP l per i ∧ ht (repL l per 11) i = pH l i := fun i hi => rep_at hi
  rw [← mirror_rep hn (by decide)] at h
  have S := startOf_ok I (s := 10 * l.length + s) (by omega)
  have hst : startOf (repL l per 11) (10 * l.length + s) ≤ l.length - 1 := by
    unfold startOf
    rw [hl, show 11 * l.length - 1 - (10 * l.length + s) = l.length - 1 - s by omega]
    omega
  have ch : ChL (pP l per) (pH l) (10 * l.length + s) (l.length - 1) := fun k a b => by
    obtain ⟨x, y, z, w⟩ := S.ch k (by omega) b
    rw [(e x (by omega)).1, (e x (by omega)).2, (e k (by omega)).1] at w
    exact ⟨x, y, z, w⟩
  refine ⟨2 * l.length + s, by omega, by omega, chL_d W 8 ?_⟩
  have ch2 := ch.up (m' := l.length - 1 + 8 * l.length) (by omega)
  rw [show 2 * l.length + s + 8 * l.length = 10 * l.length + s by omega]
  exact ch2
def mf__law_is_endless : MF := fun as R _ => ∃ (l : SRow) (per : Int), as = [.d (rowD l), .d (.int per)] ∧ Per l per ∧ (∀ b : Bool, (b = true → EndR (pP l per) (pH l) l.length ∨ EndL (pP l per) (pH l) l.length) → R (.d (.bool b)))
theorem d__law_is_endless {f : Addr} {fd : FuncData} (T : Txt K mg) (hm : mg "_law_is_endless" = some (.ref f)) (F0 : L2.Fun K "_law_is_endless" "_law_is_endless" s__law_is_endless f fd) (hb : Binds K fd ["_law_row_here", "_law_period"] []) (F_copies_stretch : DFn P w K mg base CK "copies_stretch" 4 0 6 mf_copies_stretch) : DFn P w K mg base CK "_law_is_endless" 5 0 2 mf__law_is_endless :=
  (dfn_of hm F0 hb sc__law_is_endless (fun cdv A outer s H E cx =>
 (dss_cons (ds_for (Ctx.passes rfl) (by rfl) (di_range1 (by rfl) T.n_range (da_cons (de_len (by rfl) T.n_len (da_cons (de_pv 0) da_nil)) da_nil)) (dg_name (i := 2) sc__law_is_endless.nd rfl (by first | exact Or.inl rfl | exact Or.inr rfl)) (dss_cons (ds_set (i := 3) sc__law_is_endless.nd rfl (by first | exact Or.inl rfl | exact Or.inr rfl) (de_ix (de_call cx F_copies_stretch (by decide) (by rfl) (da_cons (de_pv 0) (da_cons (de_pv 1) (da_cons de_int (da_cons de_int (da_cons (de_pv 2) (da_cons de_str da_nil))))))) de_int))
 (dss_cons (ds_set (i := 4) sc__law_is_endless.nd rfl (by first | exact Or.inl rfl | exact Or.inr rfl) (de_ix (de_call cx F_copies_stretch (by decide) (by rfl) (da_cons (de_pv 0) (da_cons (de_pv 1) (da_cons de_int (da_cons de_int (da_cons (de_pv 2) (da_cons de_str da_nil))))))) de_int))
 (dss_one (ds_if (DW.dt (dw_or (dt_eq cx.u (de_ix (de_pv 3) de_int) de_int) (dw_or1 (dt_eq cx.u (de_ix (de_pv 4) de_int) de_int)))) (dss_one (ds_ret de_bl)) dss_nil)))))
 (dss_one (ds_ret de_bl))))
  (by
    rintro as R ex hl ⟨l, per, rfl, P, h⟩
    have hn0 := P.i.n0
    have hn1 := P.n
    have hlen : oLen (.d (rowD l)) = fun R => R (.d (.int (l.length : Nat))) := by
      unfold rowD
      funext R
      walk_at "dx"
      rw [List.length_map]
    walk_at "dx"
    rw [hlen]
    walk_at "dx"
    refine ⟨by omega, by omega, ?_⟩
    refine for_range (fun k δ => ∃ x2 x3 x4 : Option DV, δ = [some (.d (rowD l)), some (.d (.int per)), x2, x3, x4]) ⟨_, _, _, rfl⟩ ?_ ?_
    · rintro δ ⟨x2, x3, x4, rfl⟩
      walk_at "dx"
      exact h false fun z => by cases z
    · rintro s δ K hs ⟨x2, x3, x4, rfl⟩ hK
      rw [Int.zero_add]
      walk_at "dx"
      have ask : ∀ (b : Bool) (R : DV → Prop) (ex : DExc → Prop), R (.d (csD l per 21 10 s b)) → mf_copies_stretch [.d (rowD l), .d (.int per), .d (.int 21), .d (.int 10), .d (.int (s : Nat)), .d (.str (if b then "right" else "left"))] R ex := fun b R ex hR => by
        have h1 : isInt (.int 10) 0 (((21 : Nat) : Int) - 1) = true := by decide
        have h2 : isInt (.int (s : Nat)) 0 ((l.length : Nat) - 1) = true := by simp [isInt]; omega
        have h3 := side_bool_str b
        refine ⟨l, per, 21, .int 10, .int (s : Nat), .str (if b then "right" else "left"), rfl, P, fun z e => ?_, fun e => ?_, fun _ e => ?_, fun _ _ e => ?_, fun i s' b' e1 e2 _ _ e5 => ?_⟩
        · cases e
          exact side_shp (by cases b <;> simp)
        · rw [h1] at e; cases e
        · rw [h2] at e; cases e
        · rw [h3] at e; cases e
        · have e1 : i = 10 := by have := PyData.int.inj e1; omega
          have e2 : s' = s := by have := PyData.int.inj e2; omega
          subst e1 e2
          obtain rfl := side_bool_inj e5
          exact hR
      refine ask true _ _ ?_
      have hR : csD l per 21 10 s true = .tuple [stD (((10 : Nat) : Int), ((s : Nat) : Int)), .tuple [.int ((10 + endOf (repL l per 11) s / l.length : Nat) : Int), .int ((endOf (repL l per 11) s % l.length : Nat) : Int)]] := by
        unfold csD
        rw [if_pos rfl, eR_all P (by decide) hs (by omega)]
        rfl
      have Pm := P.mirror
      have hml := mirror_len l
      obtain ⟨X, hX⟩ : ∃ X, X = endOf (repL (mirror l) per 11) (l.length - 1 - s) := ⟨_, rfl⟩
      have hE : (eR (mirror l) per 21 10 (l.length - 1 - s)).1 = ((10 + X / l.length : Nat) : Int) := by
        rw [eR_all Pm (t := 21) (i := 10) (s := l.length - 1 - s) (by decide) (by omega) (by rw [hml]; omega), hml, hX]
      have h0 : csD l per 21 10 s false = .tuple [.tuple [.int (((21 : Nat) : Int) - 1 - (eR (mirror l) per 21 10 (l.length - 1 - s)).1), .int (((l.length : Nat) : Int) - 1 - (eR (mirror l) per 21 10 (l.length - 1 - s)).2)], stD (((10 : Nat) : Int), ((s : Nat) : Int))] := if_neg Bool.false_ne_true
      rw [hE, show ((21 : Nat) : Int) - 1 - ((10 + X / l.length : Nat) : Int) = 10 - ((X / l.length : Nat) : Int) by omega] at h0
      rw [hR]
      walk_at "dx"
      refine ask false _ _ ?_
      rw [h0]
      walk_at "dx"
      have hd := Nat.div_mul_le_self (endOf (repL l per 11) s) l.length
      have hd2 := Nat.div_mul_le_self X l.length
      refine ⟨fun c => h true fun _ => .inl (endR_of P hs ?_), fun _ => ⟨fun c => h true fun _ => .inr (endL_of P hs ?_), fun _ => hK _ ⟨_, _, _, rfl⟩⟩⟩
      · rw [show endOf (repL l per 11) s / l.length = 10 by omega] at hd
        exact hd
      · rw [show X / l.length = 10 by omega] at hd2
        rw [← hX]
        exact hd2)).le (by decide +kernel)
theorem pl_span {l : SRow} {per : Int} (P : Per l per) {i j : Nat} (hi : i < l.length) (hj : j < l.length) : pl l i < pl l j + per := by
  have h1 : pl l i ≤ pl l (l.length - 1) := by
    rcases Nat.lt_or_ge i (l.length - 1) with c | c
    · exact Int.le_of_lt (P.i.inc _ _ c (by omega))
    · rw [show i = l.length - 1 by omega]
      exact Int.le_refl _
  have h2 : pl l 0 ≤ pl l j := by
    rcases Nat.eq_zero_or_pos j with rfl | c
    · exact Int.le_refl _
    · exact Int.le_of_lt (P.i.inc _ _ c hj)
  have := P.sp
  omega
theorem pP_mono {l : SRow} {per : Int} (P : Per l per) (i j : Nat) (h : i ≤ j) : pP l per i ≤ pP l per j := by
  have hn := P.i.n0
  have pos := P.pos
  unfold pP
  have hd : i / l.length ≤ j / l.length := Nat.div_le_div_right h
  have d1 := Nat.div_add_mod i l.length
  have d2 := Nat.div_add_mod j l.length
  have m1 := Nat.mod_lt i hn
  have m2 := Nat.mod_lt j hn
  rcases Nat.lt_or_ge (i / l.length) (j / l.length) with c | c
  · have h1 := pl_span P m1 m2
    have h2 : (((i / l.length : Nat) : Int) + 1) * per ≤ ((j / l.length : Nat) : Int) * per := Int.mul_le_mul_of_nonneg_right (by omega) (by omega)
    rw [Int.add_mul, Int.one_mul] at h2
    omega
  · have e : i / l.length = j / l.length := by omega
    rw [e] at d1 ⊢
    have : pl l (i % l.length) ≤ pl l (j % l.length) := by
      rcases Nat.lt_or_ge (i % l.length) (j % l.length) with q | q
      · exact Int.le_of_lt (P.i.inc _ _ q m2)
      · rw [show i % l.length = j % l.length by omega]
        exact Int.le_refl _
    omega
theorem pP_span {l : SRow} {per : Int} (P : Per l per) (i j : Nat) (hi : i < l.length) (hj : j < l.length) : pP l per i < pP l per j + per := by
  unfold pP
  rw [Nat.mod_eq_of_lt hi, Nat.mod_eq_of_lt hj, Nat.div_eq_of_lt hi, Nat.div_eq_of_lt hj]
  have := pl_span P hi hj
  simp only [Int.natCast_zero, Int.zero_mul]
  omega
noncomputable abbrev fewP (l : SRow) (per : Int) (t : Nat) : Nat := fewT (pP l per) (pH l) (t * l.length)
theorem fewP_le {l : SRow} {per : Int} (P : Per l per) {a b : Nat} (h : a ≤ b) : fewP l per a ≤ fewP l per b := by
  obtain ⟨d, rfl⟩ : ∃ d, b = a + d := ⟨b - a, by omega⟩
  exact few_upd (pw_of per P.i.n0) (pP_mono P) (pP_span P) a d
theorem fewP_mir {l : SRow} {per : Int} (P : Per l per) {t : Nat} (ht : 0 < t) : fewT (pP (mirror l) per) (pH (mirror l)) (t * (mirror l).length) = fewP l per t := by
  have hn := P.i.n0
  rw [mirror_len]
  have key := fun (i : Nat) (hi : i < t * l.length) => pP_mir (l := l) (per := per) hn ht hi
  apply Nat.le_antisymm
  · refine few_mir (C := pl l 0 + pl l (l.length - 1) + ((t : Int) - 1) * per) (fun i hi => ?_) fun i hi => ?_
    · have h := (key (t * l.length - 1 - i) (by omega)).1
      rw [show t * l.length - 1 - (t * l.length - 1 - i) = i by omega] at h
      omega
    · have h := (key (t * l.length - 1 - i) (by omega)).2
      rw [show t * l.length - 1 - (t * l.length - 1 - i) = i by omega] at h
      exact h.symm
  · exact few_mir (fun i hi => (key i hi).1) fun i hi => (key i hi).2
theorem fewP_bd {l : SRow} {per : Int} {t : Nat} : fewP l per t ≤ t * l.length := gr_fu _ _
noncomputable def onTimes (l : SRow) (per : Int) : PyData → Option PyData
  | .int i => some (natD (fewP l per i.toNat))
  | _ => none
theorem cask_ok {K : PySem.W.Frag} {F0 H : Hp} {c l : Addr} {n lim : Nat} (hC : HornAt c l n H) : Gm.Ok ⟨K, F0, H, fun p => p = c ∨ p = l, .ref c, HornAt c l, n, lim⟩ := by
  have full : ∀ {n : Nat} {H : Hp}, HornAt c l n H → ∀ p, (p = c ∨ p = l) → H p ≠ none := fun h p q z => by
    obtain ⟨m, gs, h1, h2, _⟩ := h
    rcases q with rfl | rfl
    · rw [h1] at z; cases z
    · rw [h2] at z; cases z
  refine ⟨fun n H H' h e _ => ?_, fun n k H hnk h => h, fun n H h p q => full (n := n) h p q, fun p q => full (n := n) hC p q, fun n H h p q vs z => by
    obtain ⟨m, gs, h1, h2, _⟩ := h
    rcases q with rfl | rfl
    · rw [h1] at z; cases z
    · rw [h2] at z; cases z⟩
  obtain ⟨m, gs, h1, h2, h3⟩ := h
  exact ⟨m, gs, by rw [e c (.inl rfl)]; exact h1, by rw [e l (.inr rfl)]; exact h2, h3⟩
theorem nb_cask (n i : Nat) : NoBor ((List.replicate n (none : Option DV)).set i (some .cask) ++ []) := fun j x e => by
  rw [List.append_nil] at e
  rcases get_set e with ⟨_, q, _⟩ | ⟨_, q⟩
  · cases q; rfl
  · rw [List.getElem?_replicate] at q
    split at q <;> cases q
theorem d_law {f : Addr} {fd : FuncData} (T : Txt K mg) (F0 : L2.Fun K "law" "law" s_law f fd) (F__law_horn : DHorn P w K mg base) (F__law_copies : DFn P w K mg base CK "_law_copies" 3 261 3 mf__law_copies) (F_copies_fewest : DFn P w K mg base CK "copies_fewest" 4 0 3 mf_copies_fewest) (F__law_blow : DFn P w K mg base CK "_law_blow" 1 1 2 mf__law_blow) (F__law_fewest : DFn P w K mg base CK "_law_fewest" 3 0 3 mf__law_fewest) (F__law_is_endless : DFn P w K mg base CK "_law_is_endless" 5 0 2 mf__law_is_endless) (F_mirrored : DFn P w K mg base CK "mirrored" 1 0 1 mf_mirrored) : FnG P w K mg base 6 f fd ["_law_script"] (spLaw K) := by
  obtain ⟨fc, fdc, psc, hmc, hkc, hbc, hnc, hFc⟩ := F__law_horn.ex
  refine fnG_of F0 sc_law (fun vs H Q E h => ?_) fun cdv A outer s H vs Q E hg hr h => ?_
  · obtain ⟨a, ns, rfl, _⟩ := h
    rfl
  · obtain ⟨a, ns, rfl, hl, hS, k⟩ := h
    have cx : DL.Ctx (cxOf (L2.CX P w) P w K mg base ["_law_script", "_law_horn_here", "_law_turn", "_law_row_here", "_law_period", "_law_one", "_law_two", "_law_found", "_law_times"] "law" (defScope s_law) f cdv A outer s H E) ⟨fun _ _ _ _ => False, CK⟩ 5 := ⟨hg, hr, takes0⟩
    refine ⟨_, pss_cons (ps_set (i := 1) sc_law.nd rfl (by first | exact Or.inl rfl | exact Or.inr rfl) (pe_callG hg hr takes0 hFc (by decide) hmc hkc hbc (by rfl) (pa_cons (pv 0) pa_nil)))
      (DSs.pss (W := ⟨fun _ _ _ _ => False, CK⟩)
 (dss_cons (ds_forN 4 (Ctx.passes rfl) (by rfl) (di_range1 (by rfl) T.n_range (da_cons de_int da_nil)) (dg_name (i := 2) sc_law.nd rfl (by first | exact Or.inl rfl | exact Or.inr rfl)) (dss_cons (ds_asg (de_call cx F__law_copies (by decide) (by rfl) (da_cons (de_pv 1) (da_cons (de_ix (de_lst (da_cons de_int (da_cons de_int (da_cons de_int (da_cons de_int da_nil))))) (de_pv 2)) (da_cons (de_ix (de_lst (da_cons de_int (da_cons de_int (da_cons (de_pow de_int de_int) (da_cons de_int da_nil))))) (de_pv 2)) da_nil)))) (dg_tup (by rfl) (dgs_cons (dg_name (i := 3) sc_law.nd rfl (by first | exact Or.inl rfl | exact Or.inr rfl)) (dgs_cons (dg_name (i := 4) sc_law.nd rfl (by first | exact Or.inl rfl | exact Or.inr rfl)) dgs_nil))))
 (dss_cons (ds_par2 (i := 5) (j := 6) (by rfl) sc_law.nd rfl rfl (by decide) rfl rfl (da_cons (de_add de_int (de_call cx F__law_blow (by decide) (by rfl) (da_cons (de_pv 1) (da_cons de_int da_nil)))) (da_cons (de_add de_int (de_call cx F__law_blow (by decide) (by rfl) (da_cons (de_pv 1) (da_cons (de_pow de_int de_int) da_nil)))) da_nil)) (by rfl))
 (dss_cons (ds_setLc (i := 7) (own := [("_law_times", 8)]) (dom := [8]) (by rfl) sc_law.nd rfl rfl (sw_true rfl rfl rfl (by decide +kernel)) (di_list (de_lst (da_cons (de_pv 5) (da_cons (de_pv 6) (da_cons (de_add (de_pv 5) (de_pv 6)) (da_cons (de_pow de_int de_int) da_nil)))))) (blkOk_by (by kernel_rfl)) (by decide) (fun _ _ _ _ _ => (dg_name (i := 8) sc_law.nd rfl (by first | exact Or.inl rfl | exact Or.inr rfl))) (fun _ _ _ _ _ => dts_nil) (fun _ _ _ _ _ => (de_call cx.blk F_copies_fewest (by decide) (by rfl) (da_cons (de_pv 3) (da_cons (de_pv 4) (da_cons (de_pv 8) da_nil))))))
 (dss_cons (ds_if (DW.dt (dw_or (dt_not (dt_ch op_le op_le (de_max2 (by rfl) (by rfl) T.n_max (da_cons (de_ix (de_pv 7) de_int) (da_cons (de_ix (de_pv 7) de_int) da_nil))) (de_ix (de_pv 7) de_int) (de_add (de_ix (de_pv 7) de_int) (de_ix (de_pv 7) de_int)))) (dw_or1 (dt_lt (de_ix (de_pv 7) de_int) (de_ix (de_pv 7) de_int))))) (dss_one (ds_ret de_bl)) dss_nil)
 (dss_cons (ds_if (DW.dt (dw_or (dt_ne cx.u (de_ix (de_pv 7) de_int) (de_call cx F__law_fewest (by decide) (by rfl) (da_cons (de_pv 3) (da_cons (de_pv 4) (da_cons (de_pow de_int de_int) da_nil))))) (dw_or1 (dt_ne cx.u (de_ix (de_pv 7) de_int) (de_call cx F__law_fewest (by decide) (by rfl) (da_cons (de_pv 3) (da_cons (de_pv 4) (da_cons (de_pv 5) da_nil)))))))) (dss_one (ds_ret de_bl)) dss_nil)
 (dss_cons (ds_set (i := 8) sc_law.nd rfl (by first | exact Or.inl rfl | exact Or.inr rfl) (de_add de_int (de_call cx F__law_blow (by decide) (by rfl) (da_cons (de_pv 1) (da_cons de_int da_nil)))))
 (dss_cons (ds_if (dt_ne cx.u (de_call cx F_copies_fewest (by decide) (by rfl) (da_cons (de_pv 3) (da_cons (de_pv 4) (da_cons (de_pv 8) da_nil)))) (de_call cx F__law_fewest (by decide) (by rfl) (da_cons (de_pv 3) (da_cons (de_pv 4) (da_cons (de_pv 8) da_nil))))) (dss_one (ds_ret de_bl)) dss_nil)
 (dss_cons (ds_if (dt_ne cx.u (de_call cx F_copies_fewest (by decide) (by rfl) (da_cons (de_call cx F_mirrored (by decide) (by rfl) (da_cons (de_pv 3) da_nil)) (da_cons (de_pv 4) (da_cons (de_pv 6) da_nil)))) (de_ix (de_pv 7) de_int)) (dss_one (ds_ret de_bl)) dss_nil)
 (dss_one (ds_if (DW.dt (dw_and (dt_val (de_call cx F__law_is_endless (by decide) (by rfl) (da_cons (de_pv 3) (da_cons (de_pv 4) da_nil)))) (dw_and1 (dt_ne cx.u (de_ix (de_pv 7) de_int) (de_call cx F_copies_fewest (by decide) (by rfl) (da_cons (de_pv 3) (da_cons (de_pv 4) (da_cons de_int da_nil)))))))) (dss_one (ds_ret de_bl)) dss_nil)))))))))))
 (dss_one (ds_ret de_bl)))), ?_⟩
    refine ⟨.ref a, rfl, a, ns, rfl, hl, hS, fun c l H' hne hC => ?_⟩
    refine ⟨fun _ _ => False, ⟨K, fun _ => none, H', fun p => p = c ∨ p = l, .ref c, HornAt c l, 0, 2 ^ 40⟩, fun _ => none, (List.replicate 9 none).set 1 (some .cask), [], [], ⟨fun _ => False, fun r => r = .d (.bool true), fun _ => False, fun _ => False, fun _ _ => False⟩,
      ⟨rfl, by simp [L2.start], rfl, ?_, fun _ _ _ _ _ _ _ _ _ _ _ _ _ _ z => z.elim, ⟨c, l, hne, rfl, rfl, rfl, rfl⟩, by first | exact Nat.le_of_ble_eq_true rfl | decide +kernel⟩, nb_cask _ _, ⟨fun _ z => z.elim, fun _ z => z.elim, fun _ z => z.elim, fun r hr' _ b v F2 H2 _ g => ?_, fun _ _ z => z.elim⟩, ?_⟩
    · have g := good_cask (G := ⟨K, fun _ => none, H', fun p => p = c ∨ p = l, .ref c, HornAt c l, 0, 2 ^ 40⟩) (H := H') (i := 1) (σ := (L2.start ["_law_script", "_law_horn_here", "_law_turn", "_law_row_here", "_law_period", "_law_one", "_law_two", "_law_found", "_law_times"] [.ref a]).set 1 (some (.ref c))) (cask_ok hC) rfl rfl hC rfl
      simpa [L2.start] using g
    · cases hr'
      obtain ⟨v', e1, h1⟩ := g.sl 0 _ rfl
      cases e1
      have h2 : At K F2 v (.bool true) := h1
      cases h2
      exact k H2
    · exact (by
      walk_at "dx"
      refine ⟨by walk_at "lim", by walk_at "lim", by rw [rangeD_len]; walk_at "lim", ?_⟩
      refine for_range (fun k δ => ∃ a3 a4 a5 a6 a7 a8, ∃ a2, δ = [none, some .cask, a2, a3, a4, a5, a6, a7, a8]) ⟨_, _, _, _, _, _, _, rfl⟩ ?_ ?_
      · rintro δ ⟨a3, a4, a5, a6, a7, a8, a2, rfl⟩
        walk_at "dx"
      · rintro k δ K hk ⟨a3, a4, a5, a6, a7, a8, a2, rfl⟩ hK
        refine ⟨rfl, by simp, ?_⟩
        rw [show (0 : Int) + (k : Nat) = (k : Nat) from Int.zero_add _]
        have hk4 : k = 0 ∨ k = 1 ∨ k = 2 ∨ k = 3 := by
          have : k < 4 := hk
          omega
        refine seq_gen (fun δ => ∃ (l : SRow) (per : Int) (b5 b6 b7 b8 : Option DV), Per l per ∧ l.length ≤ 12 ∧ δ = [none, some .cask, some (.d (.int (k : Nat))), some (.d (rowD l)), some (.d (.int per)), b5, b6, b7, b8]) ?_ fun K1 hK1 => ?_
        rotate_left
        · walk_at "dx"
          obtain ⟨n, w, hn, hw, n0, n1, w0, w1⟩ : ∃ n w : Int, atI [PyData.int 12, .int 3, .int 7, .int 12] (k : Nat) = some (.int n) ∧ atI [PyData.int 4, .int 3, .int 1000000000, .int 5] (k : Nat) = some (.int w) ∧ 0 < n ∧ n ≤ 12 ∧ 0 < w ∧ w ≤ 1000000000 := by
            rcases hk4 with rfl | rfl | rfl | rfl
            · exact ⟨12, 4, rfl, rfl, by decide, by decide, by decide, by decide⟩
            · exact ⟨3, 3, rfl, rfl, by decide, by decide, by decide, by decide⟩
            · exact ⟨7, 1000000000, rfl, rfl, by decide, by decide, by decide, by decide⟩
            · exact ⟨12, 5, rfl, rfl, by decide, by decide, by decide, by decide⟩
          rw [hn, hw]
          refine ⟨by walk_at "lim", by walk_at "lim", ?_⟩
          walk_at "dx"
          refine ⟨n, w, rfl, n0, by omega, w0, by omega, fun l per hr hln hsp hht hper => ?_⟩
          have hn0 := hr.i.n0
          walk_at "dx"
          exact hK1 _ ⟨l, per, _, _, _, _, ⟨hr.i, hr.n, by omega, fun i hi => by have := hht i hi; omega, by omega⟩, by omega, rfl⟩
        rintro δ ⟨l, per, b5, b6, b7, b8, P, hl12, rfl⟩
        have hn0 := P.i.n0
        have pos := P.pos
        have hp1 := P.p1
        have W := pw_of (l := l) per hn0
        refine seq_gen (fun δ => ∃ (a b : Nat) (b7 b8 : Option DV), 1 ≤ a ∧ a ≤ 40 ∧ 1 ≤ b ∧ b ≤ 100000000000 ∧ δ = [none, some .cask, some (.d (.int (k : Nat))), some (.d (rowD l)), some (.d (.int per)), some (.d (.int (a : Nat))), some (.d (.int (b : Nat))), b7, b8]) ?_ fun K1 hK1 => ?_
        rotate_left
        · walk_at "dx"
          refine ⟨40, rfl, by decide, fun r r0 r1 => ?_⟩
          have r1 : r < 40 := r1
          walk_at "dx"
          refine ⟨_, rfl, by decide, fun z z0 z1 => ?_⟩
          have z1 : z < 100000000000 := z1
          walk_at "dx"
          refine hK1 _ ⟨(1 + r).toNat, (1 + z).toNat, b7, b8, by omega, by omega, by omega, by omega, ?_⟩
          rw [show (((1 + r).toNat : Nat) : Int) = 1 + r by omega, show (((1 + z).toNat : Nat) : Int) = 1 + z by omega]
        rintro δ ⟨a, b, b7, b8, a1, a2, c1, c2, rfl⟩
        obtain ⟨fa, hfa⟩ : ∃ x, x = fewP l per a := ⟨_, rfl⟩
        obtain ⟨fb, hfb⟩ : ∃ x, x = fewP l per b := ⟨_, rfl⟩
        obtain ⟨fc, hfc⟩ : ∃ x, x = fewP l per (a + b) := ⟨_, rfl⟩
        obtain ⟨fd, hfd⟩ : ∃ x, x = fewP l per 1000000000000 := ⟨_, rfl⟩
        refine seq_gen (fun δ => ∃ (b8 : Option DV), δ = [none, some .cask, some (.d (.int (k : Nat))), some (.d (rowD l)), some (.d (.int per)), some (.d (.int (a : Nat))), some (.d (.int (b : Nat))), some (.own [natD fa, natD fb, natD fc, natD fd]), b8]) ?_ fun K1 hK1 => ?_
        rotate_left
        · walk_at "dx"
          refine ⟨by walk_at "lim", ?_⟩
          have ask : ∀ (t : Nat) (R : DV → Prop) (X : DExc → Prop), 1 ≤ t → t ≤ 2000000000000 → R (.d (natD (fewP l per t))) → mf_copies_fewest [.d (rowD l), .d (.int per), .d (.int (t : Nat))] R X := fun t R X t1 t2 hR => ⟨l, per, t, rfl, P, t1, t2, hR⟩
          have eab : ((a : Nat) : Int) + (b : Nat) = ((a + b : Nat) : Int) := by push_cast; rfl
          rw [eab]
          refine lc_ind (onTimes l per) _ _ (fun d hd K1 K0 k1 k0 => ?_) (by simp [PySem.sizeLine_eq]) ?_
          · simp only [List.mem_cons, List.not_mem_nil, or_false] at hd
            walk_at "dx"
            rcases hd with rfl | rfl | rfl | rfl
            · refine ask a _ _ (by omega) (by omega) ?_
              walk_at "dx"
              exact k1 _ rfl
            · refine ask b _ _ (by omega) (by omega) ?_
              walk_at "dx"
              exact k1 _ rfl
            · refine ask (a + b) _ _ (by omega) (by omega) ?_
              walk_at "dx"
              exact k1 _ rfl
            · refine ask 1000000000000 _ _ (by omega) (by omega) ?_
              walk_at "dx"
              exact k1 _ rfl
          · have efm : [] ++ [PyData.int (a : Nat), .int (b : Nat), .int ((a + b : Nat) : Int), .int 1000000000000].filterMap (onTimes l per) = [natD fa, natD fb, natD fc, natD fd] := by
              rw [hfa, hfb, hfc, hfd]
              rfl
            rw [efm]
            exact ⟨rfl, hK1 _ ⟨b8, rfl⟩⟩
        rintro δ ⟨b8, rfl⟩
        have fab := fewP_le P (show a ≤ a + b by omega)
        have fbb := fewP_le P (show b ≤ a + b by omega)
        have fdd := fewP_le P (show a + b ≤ 1000000000000 by omega)
        have fsum := few_add W a b
        rw [← hfc, ← hfa] at fab
        rw [← hfc, ← hfb] at fbb
        rw [← hfc, ← hfd] at fdd
        have fsum : fc ≤ fa + fb := by
          rw [hfa, hfb, hfc]
          exact fsum
        rw [show natD fa = .int ((fa : Nat) : Int) from rfl, show natD fb = .int ((fb : Nat) : Int) from rfl, show natD fc = .int ((fc : Nat) : Int) from rfl, show natD fd = .int ((fd : Nat) : Int) from rfl]
        have askF : ∀ (t : Nat) (R : DV → Prop) (X : DExc → Prop), 1 ≤ t → t ≤ 2000000000000 → R (.d (natD (fewP l per t))) → mf__law_fewest [.d (rowD l), .d (.int per), .d (.int (t : Nat))] R X := fun t R X t1 t2 hR => ⟨l, per, t, rfl, P, hl12, t1, t2, hR⟩
        have ask : ∀ (t : Nat) (R : DV → Prop) (X : DExc → Prop), 1 ≤ t → t ≤ 2000000000000 → R (.d (natD (fewP l per t))) → mf_copies_fewest [.d (rowD l), .d (.int per), .d (.int (t : Nat))] R X := fun t R X t1 t2 hR => ⟨l, per, t, rfl, P, t1, t2, hR⟩
        refine seq_gen (fun δ => ∃ (b8 : Option DV), δ = [none, some .cask, some (.d (.int (k : Nat))), some (.d (rowD l)), some (.d (.int per)), some (.d (.int (a : Nat))), some (.d (.int (b : Nat))), some (.own [.int ((fa : Nat) : Int), .int ((fb : Nat) : Int), .int ((fc : Nat) : Int), .int ((fd : Nat) : Int)]), b8]) ?_ fun K1 hK1 => ?_
        rotate_left
        · walk_at "dx"
          refine ⟨fun q1 => ⟨fun q2 => absurd (by omega) q2, fun q2 => ⟨fun q3 => absurd q3 (by omega), fun _ => hK1 _ ⟨_, rfl⟩⟩⟩, fun q => absurd ?_ q⟩
          split <;> omega
        rintro δ ⟨b8, rfl⟩
        refine seq_gen (fun δ => ∃ (b8 : Option DV), δ = [none, some .cask, some (.d (.int (k : Nat))), some (.d (rowD l)), some (.d (.int per)), some (.d (.int (a : Nat))), some (.d (.int (b : Nat))), some (.own [.int ((fa : Nat) : Int), .int ((fb : Nat) : Int), .int ((fc : Nat) : Int), .int ((fd : Nat) : Int)]), b8]) ?_ fun K1 hK1 => ?_
        rotate_left
        · walk_at "dx"
          refine askF 1000000000000 _ _ (by omega) (by omega) ?_
          rw [← hfd, show natD fd = .int ((fd : Nat) : Int) from rfl]
          walk_at "dx"
          refine ⟨fun q => absurd trivial q, ?_⟩
          refine askF a _ _ (by omega) (by omega) ?_
          rw [← hfa, show natD fa = .int ((fa : Nat) : Int) from rfl]
          walk_at "dx"
          exact ⟨fun q => absurd trivial q, hK1 _ ⟨_, rfl⟩⟩
        rintro δ ⟨b8, rfl⟩
        refine seq_gen (fun δ => ∃ (t : Nat), 61 ≤ t ∧ t ≤ 200 ∧ δ = [none, some .cask, some (.d (.int (k : Nat))), some (.d (rowD l)), some (.d (.int per)), some (.d (.int (a : Nat))), some (.d (.int (b : Nat))), some (.own [.int ((fa : Nat) : Int), .int ((fb : Nat) : Int), .int ((fc : Nat) : Int), .int ((fd : Nat) : Int)]), some (.d (.int (t : Nat)))]) ?_ fun K1 hK1 => ?_
        rotate_left
        · walk_at "dx"
          refine ⟨_, rfl, by decide, fun z z0 z1 => ?_⟩
          have z1 : z < 140 := z1
          walk_at "dx"
          refine hK1 _ ⟨(61 + z).toNat, by omega, by omega, ?_⟩
          rw [show (((61 + z).toNat : Nat) : Int) = 61 + z by omega]
        rintro δ ⟨t, t1, t2, rfl⟩
        refine seq_gen (fun δ => δ = [none, some .cask, some (.d (.int (k : Nat))), some (.d (rowD l)), some (.d (.int per)), some (.d (.int (a : Nat))), some (.d (.int (b : Nat))), some (.own [.int ((fa : Nat) : Int), .int ((fb : Nat) : Int), .int ((fc : Nat) : Int), .int ((fd : Nat) : Int)]), some (.d (.int (t : Nat)))]) ?_ fun K1 hK1 => ?_
        rotate_left
        · walk_at "dx"
          refine ask t _ _ (by omega) (by omega) ?_
          refine askF t _ _ (by omega) (by omega) ?_
          rw [show natD (fewP l per t) = .int ((fewP l per t : Nat) : Int) from rfl]
          walk_at "dx"
          exact ⟨fun q => absurd trivial q, hK1 _ rfl⟩
        rintro δ rfl
        refine seq_gen (fun δ => δ = [none, some .cask, some (.d (.int (k : Nat))), some (.d (rowD l)), some (.d (.int per)), some (.d (.int (a : Nat))), some (.d (.int (b : Nat))), some (.own [.int ((fa : Nat) : Int), .int ((fb : Nat) : Int), .int ((fc : Nat) : Int), .int ((fd : Nat) : Int)]), some (.d (.int (t : Nat)))]) ?_ fun K1 hK1 => ?_
        rotate_left
        · walk_at "dx"
          refine ⟨l, rfl, hn0, by omega, ?_⟩
          walk_at "dx"
          refine ⟨mirror l, per, b, rfl, P.mirror, by omega, by omega, ?_⟩
          rw [fewP_mir P (by omega), ← hfb, show natD fb = .int ((fb : Nat) : Int) from rfl]
          walk_at "dx"
          exact ⟨fun q => absurd trivial q, hK1 _ rfl⟩
        rintro δ rfl
        walk_at "dx"
        refine ⟨l, per, rfl, P, fun e he => ?_⟩
        walk_at "dx"
        have hK' := hK [none, some .cask, some (.d (.int (k : Nat))), some (.d (rowD l)), some (.d (.int per)), some (.d (.int (a : Nat))), some (.d (.int (b : Nat))), some (.own [.int ((fa : Nat) : Int), .int ((fb : Nat) : Int), .int ((fc : Nat) : Int), .int ((fd : Nat) : Int)]), some (.d (.int (t : Nat)))] ⟨_, _, _, _, _, _, _, rfl⟩
        refine ⟨fun q => ?_, fun _ => hK'⟩
        refine ask 3 _ _ (by decide) (by decide) ?_
        have f3 : fewP l per 3 = fd := by
          rw [hfd]
          exact (few_end W (he q) (t := 1000000000000) (by decide)).symm
        rw [f3, show natD fd = .int ((fd : Nat) : Int) from rfl]
        walk_at "dx"
        exact ⟨fun q => absurd trivial q, hK'⟩)
end
theorem all_mk {l : PySem.W.OpenLaw} {w : World} {K : PySem.W.Frag} {h : Heap} {mg : Str → Option Value} {fa : Addr} (X : K.In h) (G : h.Ns mainGlobals mg) (hfa : mg "law" = some (.ref fa))
    (gget : PySem.W.specialIn K (.builtin "object.__class__") "__get__" = some (some (.builtin "getset_descriptor.__get__")))
    (gtak : PySem.W.takesIn K (.builtin "object.__class__") = some true)
    {f0 : Addr} {od0 an0 : Option Addr} {sl0 : Array (Option Value)} {oc0 kV0 dc0 pm0 cd0 ct0 : Value}
    {f1 : Addr} {od1 an1 : Option Addr} {sl1 : Array (Option Value)} {oc1 kV1 dc1 pm1 cd1 ct1 : Value}
    {f2 : Addr} {od2 an2 : Option Addr} {sl2 : Array (Option Value)} {oc2 kV2 dc2 pm2 cd2 ct2 : Value}
    {f3 : Addr} {od3 an3 : Option Addr} {sl3 : Array (Option Value)} {oc3 kV3 dc3 pm3 cd3 ct3 : Value}
    {f4 : Addr} {od4 an4 : Option Addr} {sl4 : Array (Option Value)} {oc4 kV4 dc4 pm4 cd4 ct4 : Value}
    {f5 : Addr} {od5 an5 : Option Addr} {sl5 : Array (Option Value)} {oc5 kV5 dc5 pm5 cd5 ct5 : Value}
    {f6 : Addr} {od6 an6 : Option Addr} {sl6 : Array (Option Value)} {oc6 kV6 dc6 pm6 cd6 ct6 : Value}
    {f7 : Addr} {od7 an7 : Option Addr} {sl7 : Array (Option Value)} {oc7 kV7 dc7 pm7 cd7 ct7 : Value}
    {f8 : Addr} {od8 an8 : Option Addr} {sl8 : Array (Option Value)} {oc8 kV8 dc8 pm8 cd8 ct8 : Value}
    {f9 : Addr} {od9 an9 : Option Addr} {sl9 : Array (Option Value)} {oc9 kV9 dc9 pm9 cd9 ct9 : Value}
    {f10 : Addr} {od10 an10 : Option Addr} {sl10 : Array (Option Value)} {oc10 kV10 dc10 pm10 cd10 ct10 : Value}
    {f11 : Addr} {od11 an11 : Option Addr} {sl11 : Array (Option Value)} {oc11 kV11 dc11 pm11 cd11 ct11 : Value}
    {f12 : Addr} {od12 an12 : Option Addr} {sl12 : Array (Option Value)} {oc12 kV12 dc12 pm12 cd12 ct12 : Value}
    {f13 : Addr} {od13 an13 : Option Addr} {sl13 : Array (Option Value)} {oc13 kV13 dc13 pm13 cd13 ct13 : Value}
    {f14 : Addr} {od14 an14 : Option Addr} {sl14 : Array (Option Value)} {oc14 kV14 dc14 pm14 cd14 ct14 : Value}
    {f15 : Addr} {od15 an15 : Option Addr} {sl15 : Array (Option Value)} {oc15 kV15 dc15 pm15 cd15 ct15 : Value}
    {f16 : Addr} {od16 an16 : Option Addr} {sl16 : Array (Option Value)} {oc16 kV16 dc16 pm16 cd16 ct16 : Value}
    {f17 : Addr} {od17 an17 : Option Addr} {sl17 : Array (Option Value)} {oc17 kV17 dc17 pm17 cd17 ct17 : Value}
    {f18 : Addr} {od18 an18 : Option Addr} {sl18 : Array (Option Value)} {oc18 kV18 dc18 pm18 cd18 ct18 : Value}
    {f19 : Addr} {od19 an19 : Option Addr} {sl19 : Array (Option Value)} {oc19 kV19 dc19 pm19 cd19 ct19 : Value}
    {f20 : Addr} {od20 an20 : Option Addr} {sl20 : Array (Option Value)} {oc20 kV20 dc20 pm20 cd20 ct20 : Value}
    {f21 : Addr} {od21 an21 : Option Addr} {sl21 : Array (Option Value)} {oc21 kV21 dc21 pm21 cd21 ct21 : Value}
    {f22 : Addr} {od22 an22 : Option Addr} {sl22 : Array (Option Value)} {oc22 kV22 dc22 pm22 cd22 ct22 : Value}
    {f23 : Addr} {od23 an23 : Option Addr} {sl23 : Array (Option Value)} {oc23 kV23 dc23 pm23 cd23 ct23 : Value}
    {f24 : Addr} {od24 an24 : Option Addr} {sl24 : Array (Option Value)} {oc24 kV24 dc24 pm24 cd24 ct24 : Value}
    (a0 : PySem.W.nsIn K mainGlobals "is_integer" = some (some (.ref f0))) (l0 : K.lookup f0 = some ⟨oc0, od0, .func (PySem.W.fnOf "is_integer" "is_integer" (defArgs s_is_integer) (defBody s_is_integer) (defScope s_is_integer) .none kV0 dc0 pm0 an0 cd0 ct0), sl0⟩) (c0 : PySem.W.codeIn K cd0 "is_integer" = true) (k0 : PySem.W.keepIn K (.ref f0) = true)
    (a1 : PySem.W.nsIn K mainGlobals "is_side" = some (some (.ref f1))) (l1 : K.lookup f1 = some ⟨oc1, od1, .func (PySem.W.fnOf "is_side" "is_side" (defArgs s_is_side) (defBody s_is_side) (defScope s_is_side) .none kV1 dc1 pm1 an1 cd1 ct1), sl1⟩) (c1 : PySem.W.codeIn K cd1 "is_side" = true) (k1 : PySem.W.keepIn K (.ref f1) = true)
    (a2 : PySem.W.nsIn K mainGlobals "check_push" = some (some (.ref f2))) (l2 : K.lookup f2 = some ⟨oc2, od2, .func (PySem.W.fnOf "check_push" "check_push" (defArgs s_check_push) (defBody s_check_push) (defScope s_check_push) .none kV2 dc2 pm2 an2 cd2 ct2), sl2⟩) (c2 : PySem.W.codeIn K cd2 "check_push" = true) (k2 : PySem.W.keepIn K (.ref f2) = true)
    (a3 : PySem.W.nsIn K mainGlobals "right_ends" = some (some (.ref f3))) (l3 : K.lookup f3 = some ⟨oc3, od3, .func (PySem.W.fnOf "right_ends" "right_ends" (defArgs s_right_ends) (defBody s_right_ends) (defScope s_right_ends) .none kV3 dc3 pm3 an3 cd3 ct3), sl3⟩) (c3 : PySem.W.codeIn K cd3 "right_ends" = true) (k3 : PySem.W.keepIn K (.ref f3) = true)
    (a4 : PySem.W.nsIn K mainGlobals "mirrored" = some (some (.ref f4))) (l4 : K.lookup f4 = some ⟨oc4, od4, .func (PySem.W.fnOf "mirrored" "mirrored" (defArgs s_mirrored) (defBody s_mirrored) (defScope s_mirrored) .none kV4 dc4 pm4 an4 cd4 ct4), sl4⟩) (c4 : PySem.W.codeIn K cd4 "mirrored" = true) (k4 : PySem.W.keepIn K (.ref f4) = true)
    (a5 : PySem.W.nsIn K mainGlobals "repeated" = some (some (.ref f5))) (l5 : K.lookup f5 = some ⟨oc5, od5, .func (PySem.W.fnOf "repeated" "repeated" (defArgs s_repeated) (defBody s_repeated) (defScope s_repeated) .none kV5 dc5 pm5 an5 cd5 ct5), sl5⟩) (c5 : PySem.W.codeIn K cd5 "repeated" = true) (k5 : PySem.W.keepIn K (.ref f5) = true)
    (a6 : PySem.W.nsIn K mainGlobals "end_to_right" = some (some (.ref f6))) (l6 : K.lookup f6 = some ⟨oc6, od6, .func (PySem.W.fnOf "end_to_right" "end_to_right" (defArgs s_end_to_right) (defBody s_end_to_right) (defScope s_end_to_right) .none kV6 dc6 pm6 an6 cd6 ct6), sl6⟩) (c6 : PySem.W.codeIn K cd6 "end_to_right" = true) (k6 : PySem.W.keepIn K (.ref f6) = true)
    (a7 : PySem.W.nsIn K mainGlobals "copies_stretch" = some (some (.ref f7))) (l7 : K.lookup f7 = some ⟨oc7, od7, .func (PySem.W.fnOf "copies_stretch" "copies_stretch" (defArgs s_copies_stretch) (defBody s_copies_stretch) (defScope s_copies_stretch) .none kV7 dc7 pm7 an7 cd7 ct7), sl7⟩) (c7 : PySem.W.codeIn K cd7 "copies_stretch" = true) (k7 : PySem.W.keepIn K (.ref f7) = true)
    (a8 : PySem.W.nsIn K mainGlobals "both_ends" = some (some (.ref f8))) (l8 : K.lookup f8 = some ⟨oc8, od8, .func (PySem.W.fnOf "both_ends" "both_ends" (defArgs s_both_ends) (defBody s_both_ends) (defScope s_both_ends) .none kV8 dc8 pm8 an8 cd8 ct8), sl8⟩) (c8 : PySem.W.codeIn K cd8 "both_ends" = true) (k8 : PySem.W.keepIn K (.ref f8) = true)
    (a9 : PySem.W.nsIn K mainGlobals "farthest" = some (some (.ref f9))) (l9 : K.lookup f9 = some ⟨oc9, od9, .func (PySem.W.fnOf "farthest" "farthest" (defArgs s_farthest) (defBody s_farthest) (defScope s_farthest) .none kV9 dc9 pm9 an9 cd9 ct9), sl9⟩) (c9 : PySem.W.codeIn K cd9 "farthest" = true) (k9 : PySem.W.keepIn K (.ref f9) = true)
    (a10 : PySem.W.nsIn K mainGlobals "fewest_of" = some (some (.ref f10))) (l10 : K.lookup f10 = some ⟨oc10, od10, .func (PySem.W.fnOf "fewest_of" "fewest_of" (defArgs s_fewest_of) (defBody s_fewest_of) (defScope s_fewest_of) .none kV10 dc10 pm10 an10 cd10 ct10), sl10⟩) (c10 : PySem.W.codeIn K cd10 "fewest_of" = true) (k10 : PySem.W.keepIn K (.ref f10) = true)
    (a11 : PySem.W.nsIn K mainGlobals "is_endless" = some (some (.ref f11))) (l11 : K.lookup f11 = some ⟨oc11, od11, .func (PySem.W.fnOf "is_endless" "is_endless" (defArgs s_is_endless) (defBody s_is_endless) (defScope s_is_endless) .none kV11 dc11 pm11 an11 cd11 ct11), sl11⟩) (c11 : PySem.W.codeIn K cd11 "is_endless" = true) (k11 : PySem.W.keepIn K (.ref f11) = true)
    (a12 : PySem.W.nsIn K mainGlobals "next_stones" = some (some (.ref f12))) (l12 : K.lookup f12 = some ⟨oc12, od12, .func (PySem.W.fnOf "next_stones" "next_stones" (defArgs s_next_stones) (defBody s_next_stones) (defScope s_next_stones) .none kV12 dc12 pm12 an12 cd12 ct12), sl12⟩) (c12 : PySem.W.codeIn K cd12 "next_stones" = true) (k12 : PySem.W.keepIn K (.ref f12) = true)
    (a13 : PySem.W.nsIn K mainGlobals "copies_fewest" = some (some (.ref f13))) (l13 : K.lookup f13 = some ⟨oc13, od13, .func (PySem.W.fnOf "copies_fewest" "copies_fewest" (defArgs s_copies_fewest) (defBody s_copies_fewest) (defScope s_copies_fewest) .none kV13 dc13 pm13 an13 cd13 ct13), sl13⟩) (c13 : PySem.W.codeIn K cd13 "copies_fewest" = true) (k13 : PySem.W.keepIn K (.ref f13) = true)
    (a14 : PySem.W.nsIn K mainGlobals "_law_horn" = some (some (.ref f14))) (l14 : K.lookup f14 = some ⟨oc14, od14, .func (PySem.W.fnOf "_law_horn" "_law_horn" (defArgs s__law_horn) (defBody s__law_horn) (defScope s__law_horn) .none kV14 dc14 pm14 an14 cd14 ct14), sl14⟩) (c14 : PySem.W.codeIn K cd14 "_law_horn" = true) (k14 : PySem.W.keepIn K (.ref f14) = true)
    (a15 : PySem.W.nsIn K mainGlobals "_law_blow" = some (some (.ref f15))) (l15 : K.lookup f15 = some ⟨oc15, od15, .func (PySem.W.fnOf "_law_blow" "_law_blow" (defArgs s__law_blow) (defBody s__law_blow) (defScope s__law_blow) .none kV15 dc15 pm15 an15 cd15 ct15), sl15⟩) (c15 : PySem.W.codeIn K cd15 "_law_blow" = true) (k15 : PySem.W.keepIn K (.ref f15) = true)
    (a16 : PySem.W.nsIn K mainGlobals "_law_row" = some (some (.ref f16))) (l16 : K.lookup f16 = some ⟨oc16, od16, .func (PySem.W.fnOf "_law_row" "_law_row" (defArgs s__law_row) (defBody s__law_row) (defScope s__law_row) .none kV16 dc16 pm16 an16 cd16 ct16), sl16⟩) (c16 : PySem.W.codeIn K cd16 "_law_row" = true) (k16 : PySem.W.keepIn K (.ref f16) = true)
    (a17 : PySem.W.nsIn K mainGlobals "_law_copies" = some (some (.ref f17))) (l17 : K.lookup f17 = some ⟨oc17, od17, .func (PySem.W.fnOf "_law_copies" "_law_copies" (defArgs s__law_copies) (defBody s__law_copies) (defScope s__law_copies) .none kV17 dc17 pm17 an17 cd17 ct17), sl17⟩) (c17 : PySem.W.codeIn K cd17 "_law_copies" = true) (k17 : PySem.W.keepIn K (.ref f17) = true)
    (a18 : PySem.W.nsIn K mainGlobals "_law_repeated" = some (some (.ref f18))) (l18 : K.lookup f18 = some ⟨oc18, od18, .func (PySem.W.fnOf "_law_repeated" "_law_repeated" (defArgs s__law_repeated) (defBody s__law_repeated) (defScope s__law_repeated) .none kV18 dc18 pm18 an18 cd18 ct18), sl18⟩) (c18 : PySem.W.codeIn K cd18 "_law_repeated" = true) (k18 : PySem.W.keepIn K (.ref f18) = true)
    (a19 : PySem.W.nsIn K mainGlobals "_law_ends" = some (some (.ref f19))) (l19 : K.lookup f19 = some ⟨oc19, od19, .func (PySem.W.fnOf "_law_ends" "_law_ends" (defArgs s__law_ends) (defBody s__law_ends) (defScope s__law_ends) .none kV19 dc19 pm19 an19 cd19 ct19), sl19⟩) (c19 : PySem.W.codeIn K cd19 "_law_ends" = true) (k19 : PySem.W.keepIn K (.ref f19) = true)
    (a20 : PySem.W.nsIn K mainGlobals "_law_turned" = some (some (.ref f20))) (l20 : K.lookup f20 = some ⟨oc20, od20, .func (PySem.W.fnOf "_law_turned" "_law_turned" (defArgs s__law_turned) (defBody s__law_turned) (defScope s__law_turned) .none kV20 dc20 pm20 an20 cd20 ct20), sl20⟩) (c20 : PySem.W.codeIn K cd20 "_law_turned" = true) (k20 : PySem.W.keepIn K (.ref f20) = true)
    (a21 : PySem.W.nsIn K mainGlobals "_law_starts" = some (some (.ref f21))) (l21 : K.lookup f21 = some ⟨oc21, od21, .func (PySem.W.fnOf "_law_starts" "_law_starts" (defArgs s__law_starts) (defBody s__law_starts) (defScope s__law_starts) .none kV21 dc21 pm21 an21 cd21 ct21), sl21⟩) (c21 : PySem.W.codeIn K cd21 "_law_starts" = true) (k21 : PySem.W.keepIn K (.ref f21) = true)
    (a22 : PySem.W.nsIn K mainGlobals "_law_fewest" = some (some (.ref f22))) (l22 : K.lookup f22 = some ⟨oc22, od22, .func (PySem.W.fnOf "_law_fewest" "_law_fewest" (defArgs s__law_fewest) (defBody s__law_fewest) (defScope s__law_fewest) .none kV22 dc22 pm22 an22 cd22 ct22), sl22⟩) (c22 : PySem.W.codeIn K cd22 "_law_fewest" = true) (k22 : PySem.W.keepIn K (.ref f22) = true)
    (a23 : PySem.W.nsIn K mainGlobals "_law_is_endless" = some (some (.ref f23))) (l23 : K.lookup f23 = some ⟨oc23, od23, .func (PySem.W.fnOf "_law_is_endless" "_law_is_endless" (defArgs s__law_is_endless) (defBody s__law_is_endless) (defScope s__law_is_endless) .none kV23 dc23 pm23 an23 cd23 ct23), sl23⟩) (c23 : PySem.W.codeIn K cd23 "_law_is_endless" = true) (k23 : PySem.W.keepIn K (.ref f23) = true)
    (a24 : PySem.W.nsIn K mainGlobals "law" = some (some (.ref f24))) (l24 : K.lookup f24 = some ⟨oc24, od24, .func (PySem.W.fnOf "law" "law" (defArgs s_law) (defBody s_law) (defScope s_law) .none kV24 dc24 pm24 an24 cd24 ct24), sl24⟩) (c24 : PySem.W.codeIn K cd24 "law" = true) (k24 : PySem.W.keepIn K (.ref f24) = true)
    (z_bool : PySem.W.nsIn K mainGlobals "bool" = some none)
    (z_enumerate : PySem.W.nsIn K mainGlobals "enumerate" = some none)
    (z_int : PySem.W.nsIn K mainGlobals "int" = some none)
    (z_isinstance : PySem.W.nsIn K mainGlobals "isinstance" = some none)
    (z_len : PySem.W.nsIn K mainGlobals "len" = some none)
    (z_list : PySem.W.nsIn K mainGlobals "list" = some none)
    (z_max : PySem.W.nsIn K mainGlobals "max" = some none)
    (z_min : PySem.W.nsIn K mainGlobals "min" = some none)
    (z_range : PySem.W.nsIn K mainGlobals "range" = some none)
    (z_reversed : PySem.W.nsIn K mainGlobals "reversed" = some none)
    (z_str : PySem.W.nsIn K mainGlobals "str" = some none)
    (z_tuple : PySem.W.nsIn K mainGlobals "tuple" = some none)
    {t_FEW : Tok} (y_FEW : PySem.W.nsIn K mainGlobals "FEW" = some (some (.int (6) t_FEW)))
    {t_LEFT : Tok} (y_LEFT : PySem.W.nsIn K mainGlobals "LEFT" = some (some (.str "left" t_LEFT)))
    {t_RIGHT : Tok} (y_RIGHT : PySem.W.nsIn K mainGlobals "RIGHT" = some (some (.str "right" t_RIGHT)))
    {cc_NoStone : Addr} (q_NoStone : PySem.W.nsIn K mainGlobals "NoStone" = some (some (.ref cc_NoStone)))
    {cc_NoSide : Addr} (q_NoSide : PySem.W.nsIn K mainGlobals "NoSide" = some (some (.ref cc_NoSide)))
    {cc_NoIndex : Addr} (q_NoIndex : PySem.W.nsIn K mainGlobals "NoIndex" = some (some (.ref cc_NoIndex)))
    {cc_FallError : Addr} (q_FallError : PySem.W.nsIn K mainGlobals "FallError" = some (some (.ref cc_FallError)))
    {nm_NoStone qn_NoStone : Str} {N_NoStone : Addr} {bs_NoStone : List Value} {sn_NoStone : List Str} {sb_NoStone : List Value} {ab_NoStone : Bool} {co_NoStone : Option Bool} {dd_NoStone : Option Addr} {m0_NoStone m1_NoStone m2_NoStone m3_NoStone m5_NoStone : Option Value}
    (xl_NoStone : K.lookup cc_NoStone = some (PySem.excClassObj nm_NoStone qn_NoStone cc_NoStone N_NoStone bs_NoStone [.ref cc_FallError, .type "ValueError", .type "Exception", .type "BaseException", .type "object"] true sn_NoStone sb_NoStone ab_NoStone co_NoStone dd_NoStone m0_NoStone m1_NoStone m2_NoStone m3_NoStone m5_NoStone "ValueError.__new__"))
    (sa_NoStone : PySem.W.findIn K (.ref cc_NoStone) "__setattr__" = some (some (.builtin "object.__setattr__")))
    (ga_NoStone : PySem.W.findIn K (.ref cc_NoStone) "__getattribute__" = some (some (.builtin "BaseException.__getattribute__")))
    (gg_NoStone : PySem.W.findIn K (.ref cc_NoStone) "__getattr__" = some none)
    (cl_NoStone : PySem.W.findIn K (.ref cc_NoStone) "__class__" = some (some (.builtin "object.__class__")))
    (kc_NoStone : PySem.W.keepIn K (.ref cc_NoStone) = true)
    (be_NoStone : PySem.W.subIn K (.ref cc_NoStone) (.type "BaseException") = some true)
    (ty_NoStone : PySem.W.typeIn K (.ref cc_NoStone) = some (.type "type"))
    (hd_NoStone : PySem.W.hasDictIn K cc_NoStone = true)
    (ob_NoStone : PySem.W.mroIn K cc_NoStone (.type "object") = some true)
    (ve_NoStone : PySem.W.subIn K (.ref cc_NoStone) (.type "ValueError") = some true)
    (se_NoStone : PySem.W.subIn K (.ref cc_NoStone) (.ref cc_NoStone) = some true)
    (nf_NoStone_value : PySem.W.findIn K (.ref cc_NoStone) "value" = some none)
    {fi_NoStone : Addr} {iod_NoStone ian_NoStone : Option Addr} {isl_NoStone : Array (Option Value)} {ioc_NoStone ikV_NoStone idc_NoStone ipm_NoStone icd_NoStone ict_NoStone : Value}
    (i_NoStone_a : PySem.W.findIn K (.ref cc_NoStone) "__init__" = some (some (.ref fi_NoStone)))
    (i_NoStone_t : PySem.W.typeIn K (.ref fi_NoStone) = some (.type "function"))
    (i_NoStone_l : K.lookup fi_NoStone = some ⟨ioc_NoStone, iod_NoStone, .func (PySem.W.fnOf "__init__" "NoStone.__init__" (defArgs i_NoStone) (defBody i_NoStone) (defScope i_NoStone) .none ikV_NoStone idc_NoStone ipm_NoStone ian_NoStone icd_NoStone ict_NoStone), isl_NoStone⟩)
    (i_NoStone_c : PySem.W.codeIn K icd_NoStone "NoStone.__init__" = true)
    (i_NoStone_k : PySem.W.keepIn K (.ref fi_NoStone) = true)
    {nm_NoSide qn_NoSide : Str} {N_NoSide : Addr} {bs_NoSide : List Value} {sn_NoSide : List Str} {sb_NoSide : List Value} {ab_NoSide : Bool} {co_NoSide : Option Bool} {dd_NoSide : Option Addr} {m0_NoSide m1_NoSide m2_NoSide m3_NoSide m5_NoSide : Option Value}
    (xl_NoSide : K.lookup cc_NoSide = some (PySem.excClassObj nm_NoSide qn_NoSide cc_NoSide N_NoSide bs_NoSide [.ref cc_FallError, .type "ValueError", .type "Exception", .type "BaseException", .type "object"] true sn_NoSide sb_NoSide ab_NoSide co_NoSide dd_NoSide m0_NoSide m1_NoSide m2_NoSide m3_NoSide m5_NoSide "ValueError.__new__"))
    (sa_NoSide : PySem.W.findIn K (.ref cc_NoSide) "__setattr__" = some (some (.builtin "object.__setattr__")))
    (ga_NoSide : PySem.W.findIn K (.ref cc_NoSide) "__getattribute__" = some (some (.builtin "BaseException.__getattribute__")))
    (gg_NoSide : PySem.W.findIn K (.ref cc_NoSide) "__getattr__" = some none)
    (cl_NoSide : PySem.W.findIn K (.ref cc_NoSide) "__class__" = some (some (.builtin "object.__class__")))
    (kc_NoSide : PySem.W.keepIn K (.ref cc_NoSide) = true)
    (be_NoSide : PySem.W.subIn K (.ref cc_NoSide) (.type "BaseException") = some true)
    (ty_NoSide : PySem.W.typeIn K (.ref cc_NoSide) = some (.type "type"))
    (hd_NoSide : PySem.W.hasDictIn K cc_NoSide = true)
    (ob_NoSide : PySem.W.mroIn K cc_NoSide (.type "object") = some true)
    (ve_NoSide : PySem.W.subIn K (.ref cc_NoSide) (.type "ValueError") = some true)
    (se_NoSide : PySem.W.subIn K (.ref cc_NoSide) (.ref cc_NoSide) = some true)
    (nf_NoSide_value : PySem.W.findIn K (.ref cc_NoSide) "value" = some none)
    {fi_NoSide : Addr} {iod_NoSide ian_NoSide : Option Addr} {isl_NoSide : Array (Option Value)} {ioc_NoSide ikV_NoSide idc_NoSide ipm_NoSide icd_NoSide ict_NoSide : Value}
    (i_NoSide_a : PySem.W.findIn K (.ref cc_NoSide) "__init__" = some (some (.ref fi_NoSide)))
    (i_NoSide_t : PySem.W.typeIn K (.ref fi_NoSide) = some (.type "function"))
    (i_NoSide_l : K.lookup fi_NoSide = some ⟨ioc_NoSide, iod_NoSide, .func (PySem.W.fnOf "__init__" "NoSide.__init__" (defArgs i_NoSide) (defBody i_NoSide) (defScope i_NoSide) .none ikV_NoSide idc_NoSide ipm_NoSide ian_NoSide icd_NoSide ict_NoSide), isl_NoSide⟩)
    (i_NoSide_c : PySem.W.codeIn K icd_NoSide "NoSide.__init__" = true)
    (i_NoSide_k : PySem.W.keepIn K (.ref fi_NoSide) = true)
    {nm_NoIndex qn_NoIndex : Str} {N_NoIndex : Addr} {bs_NoIndex : List Value} {sn_NoIndex : List Str} {sb_NoIndex : List Value} {ab_NoIndex : Bool} {co_NoIndex : Option Bool} {dd_NoIndex : Option Addr} {m0_NoIndex m1_NoIndex m2_NoIndex m3_NoIndex m5_NoIndex : Option Value}
    (xl_NoIndex : K.lookup cc_NoIndex = some (PySem.excClassObj nm_NoIndex qn_NoIndex cc_NoIndex N_NoIndex bs_NoIndex [.ref cc_FallError, .type "ValueError", .type "Exception", .type "BaseException", .type "object"] true sn_NoIndex sb_NoIndex ab_NoIndex co_NoIndex dd_NoIndex m0_NoIndex m1_NoIndex m2_NoIndex m3_NoIndex m5_NoIndex "ValueError.__new__"))
    (sa_NoIndex : PySem.W.findIn K (.ref cc_NoIndex) "__setattr__" = some (some (.builtin "object.__setattr__")))
    (ga_NoIndex : PySem.W.findIn K (.ref cc_NoIndex) "__getattribute__" = some (some (.builtin "BaseException.__getattribute__")))
    (gg_NoIndex : PySem.W.findIn K (.ref cc_NoIndex) "__getattr__" = some none)
    (cl_NoIndex : PySem.W.findIn K (.ref cc_NoIndex) "__class__" = some (some (.builtin "object.__class__")))
    (kc_NoIndex : PySem.W.keepIn K (.ref cc_NoIndex) = true)
    (be_NoIndex : PySem.W.subIn K (.ref cc_NoIndex) (.type "BaseException") = some true)
    (ty_NoIndex : PySem.W.typeIn K (.ref cc_NoIndex) = some (.type "type"))
    (hd_NoIndex : PySem.W.hasDictIn K cc_NoIndex = true)
    (ob_NoIndex : PySem.W.mroIn K cc_NoIndex (.type "object") = some true)
    (ve_NoIndex : PySem.W.subIn K (.ref cc_NoIndex) (.type "ValueError") = some true)
    (se_NoIndex : PySem.W.subIn K (.ref cc_NoIndex) (.ref cc_NoIndex) = some true)
    (nf_NoIndex_index : PySem.W.findIn K (.ref cc_NoIndex) "index" = some none)
    {fi_NoIndex : Addr} {iod_NoIndex ian_NoIndex : Option Addr} {isl_NoIndex : Array (Option Value)} {ioc_NoIndex ikV_NoIndex idc_NoIndex ipm_NoIndex icd_NoIndex ict_NoIndex : Value}
    (i_NoIndex_a : PySem.W.findIn K (.ref cc_NoIndex) "__init__" = some (some (.ref fi_NoIndex)))
    (i_NoIndex_t : PySem.W.typeIn K (.ref fi_NoIndex) = some (.type "function"))
    (i_NoIndex_l : K.lookup fi_NoIndex = some ⟨ioc_NoIndex, iod_NoIndex, .func (PySem.W.fnOf "__init__" "NoIndex.__init__" (defArgs i_NoIndex) (defBody i_NoIndex) (defScope i_NoIndex) .none ikV_NoIndex idc_NoIndex ipm_NoIndex ian_NoIndex icd_NoIndex ict_NoIndex), isl_NoIndex⟩)
    (i_NoIndex_c : PySem.W.codeIn K icd_NoIndex "NoIndex.__init__" = true)
    (i_NoIndex_k : PySem.W.keepIn K (.ref fi_NoIndex) = true) :
    ∃ fd : FuncData, (∀ (s : Shared) (v : Value), BindsTo s fd ⟨[v], []⟩ [("_law_script", v)]) ∧ ∀ base : Heap, K.In base → base.Ns mainGlobals mg → FnG l.prog w K mg base 6 fa fd ["_law_script"] (spLaw K) := by
  have e := hfa.symm.trans (PySem.W.mg_of X G a24)
  cases e
  have k_NoStone : clsA mg "NoStone" = cc_NoStone := clsA_of (PySem.W.mg_of X G q_NoStone)
  have k_NoSide : clsA mg "NoSide" = cc_NoSide := clsA_of (PySem.W.mg_of X G q_NoSide)
  have k_NoIndex : clsA mg "NoIndex" = cc_NoIndex := clsA_of (PySem.W.mg_of X G q_NoIndex)
  have k_FallError : clsA mg "FallError" = cc_FallError := clsA_of (PySem.W.mg_of X G q_FallError)
  have E_NoStone : PySem.W.EClass K cc_NoStone := ⟨ga_NoStone, gg_NoStone, be_NoStone, hd_NoStone, cl_NoStone, gget, gtak, ob_NoStone⟩
  have E_NoSide : PySem.W.EClass K cc_NoSide := ⟨ga_NoSide, gg_NoSide, be_NoSide, hd_NoSide, cl_NoSide, gget, gtak, ob_NoSide⟩
  have E_NoIndex : PySem.W.EClass K cc_NoIndex := ⟨ga_NoIndex, gg_NoIndex, be_NoIndex, hd_NoIndex, cl_NoIndex, gget, gtak, ob_NoIndex⟩
  have T : Txt K mg := ⟨PySem.W.mg_none_of X G z_bool, PySem.W.mg_none_of X G z_enumerate, PySem.W.mg_none_of X G z_int, PySem.W.mg_none_of X G z_isinstance, PySem.W.mg_none_of X G z_len, PySem.W.mg_none_of X G z_list, PySem.W.mg_none_of X G z_max, PySem.W.mg_none_of X G z_min, PySem.W.mg_none_of X G z_range, PySem.W.mg_none_of X G z_reversed, PySem.W.mg_none_of X G z_str, PySem.W.mg_none_of X G z_tuple, ⟨_, PySem.W.mg_of X G y_FEW⟩, ⟨_, PySem.W.mg_of X G y_LEFT⟩, ⟨_, PySem.W.mg_of X G y_RIGHT⟩⟩
  exact ⟨PySem.W.fnOf "law" "law" (defArgs s_law) (defBody s_law) (defScope s_law) .none kV24 dc24 pm24 an24 cd24 ct24, fun s v => .of_eq rfl, fun base _ _ => by
    have V_NoStone := fun_mk (st := i_NoStone) i_NoStone_l i_NoStone_c i_NoStone_k
    have Y_NoStone := V_NoStone.binds (ps := ["self", "value"]) fun _ _ _ _ _ _ us hl => match us, hl with | [_, _], _ => rfl
    have O_NoStone : OexC K cc_NoStone := ⟨⟨nm_NoStone, qn_NoStone, N_NoStone, bs_NoStone, _, sn_NoStone, sb_NoStone, ab_NoStone, co_NoStone, dd_NoStone, m0_NoStone, m1_NoStone, m2_NoStone, m3_NoStone, m5_NoStone, xl_NoStone, rfl⟩, sa_NoStone, be_NoStone, ty_NoStone, kc_NoStone⟩
    have X_NoStone : XMk l.prog w K mg base "NoStone" "value" := ⟨cc_NoStone, fi_NoStone, _, _, PySem.W.mg_of X G q_NoStone, O_NoStone, i_NoStone_a, i_NoStone_t, ini_NoStone V_NoStone O_NoStone nf_NoStone_value, Y_NoStone⟩
    have V_NoSide := fun_mk (st := i_NoSide) i_NoSide_l i_NoSide_c i_NoSide_k
    have Y_NoSide := V_NoSide.binds (ps := ["self", "value"]) fun _ _ _ _ _ _ us hl => match us, hl with | [_, _], _ => rfl
    have O_NoSide : OexC K cc_NoSide := ⟨⟨nm_NoSide, qn_NoSide, N_NoSide, bs_NoSide, _, sn_NoSide, sb_NoSide, ab_NoSide, co_NoSide, dd_NoSide, m0_NoSide, m1_NoSide, m2_NoSide, m3_NoSide, m5_NoSide, xl_NoSide, rfl⟩, sa_NoSide, be_NoSide, ty_NoSide, kc_NoSide⟩
    have X_NoSide : XMk l.prog w K mg base "NoSide" "value" := ⟨cc_NoSide, fi_NoSide, _, _, PySem.W.mg_of X G q_NoSide, O_NoSide, i_NoSide_a, i_NoSide_t, ini_NoSide V_NoSide O_NoSide nf_NoSide_value, Y_NoSide⟩
    have V_NoIndex := fun_mk (st := i_NoIndex) i_NoIndex_l i_NoIndex_c i_NoIndex_k
    have Y_NoIndex := V_NoIndex.binds (ps := ["self", "index"]) fun _ _ _ _ _ _ us hl => match us, hl with | [_, _], _ => rfl
    have O_NoIndex : OexC K cc_NoIndex := ⟨⟨nm_NoIndex, qn_NoIndex, N_NoIndex, bs_NoIndex, _, sn_NoIndex, sb_NoIndex, ab_NoIndex, co_NoIndex, dd_NoIndex, m0_NoIndex, m1_NoIndex, m2_NoIndex, m3_NoIndex, m5_NoIndex, xl_NoIndex, rfl⟩, sa_NoIndex, be_NoIndex, ty_NoIndex, kc_NoIndex⟩
    have X_NoIndex : XMk l.prog w K mg base "NoIndex" "index" := ⟨cc_NoIndex, fi_NoIndex, _, _, PySem.W.mg_of X G q_NoIndex, O_NoIndex, i_NoIndex_a, i_NoIndex_t, ini_NoIndex V_NoIndex O_NoIndex nf_NoIndex_index, Y_NoIndex⟩
    have U0 := fun_mk (st := s_is_integer) l0 c0 k0
    have B0 := U0.binds (ps := ["value", "low", "high"]) fun _ _ _ _ _ _ us hl => match us, hl with | [_, _, _], _ => rfl
    have F_is_integer := d_is_integer (P := l.prog) (w := w) (base := base) T (PySem.W.mg_of X G a0) U0 B0 
    have U1 := fun_mk (st := s_is_side) l1 c1 k1
    have B1 := U1.binds (ps := ["value"]) fun _ _ _ _ _ _ us hl => match us, hl with | [_], _ => rfl
    have F_is_side := d_is_side (P := l.prog) (w := w) (base := base) T (PySem.W.mg_of X G a1) U1 B1 
    have U2 := fun_mk (st := s_check_push) l2 c2 k2
    have B2 := U2.binds (ps := ["row", "stone", "side"]) fun _ _ _ _ _ _ us hl => match us, hl with | [_, _, _], _ => rfl
    have F_check_push := d_check_push (P := l.prog) (w := w) (base := base) T (PySem.W.mg_of X G a2) U2 B2 F_is_integer F_is_side X_NoStone X_NoSide
    have U3 := fun_mk (st := s_right_ends) l3 c3 k3
    have B3 := U3.binds (ps := ["row"]) fun _ _ _ _ _ _ us hl => match us, hl with | [_], _ => rfl
    have F_right_ends := d_right_ends (P := l.prog) (w := w) (base := base) T (PySem.W.mg_of X G a3) U3 B3 
    have U4 := fun_mk (st := s_mirrored) l4 c4 k4
    have B4 := U4.binds (ps := ["row"]) fun _ _ _ _ _ _ us hl => match us, hl with | [_], _ => rfl
    have F_mirrored := d_mirrored (P := l.prog) (w := w) (base := base) T (PySem.W.mg_of X G a4) U4 B4 
    have U5 := fun_mk (st := s_repeated) l5 c5 k5
    have B5 := U5.binds (ps := ["row", "period", "times"]) fun _ _ _ _ _ _ us hl => match us, hl with | [_, _, _], _ => rfl
    have F_repeated := d_repeated (P := l.prog) (w := w) (base := base) T (PySem.W.mg_of X G a5) U5 B5 
    have U6 := fun_mk (st := s_end_to_right) l6 c6 k6
    have B6 := U6.binds (ps := ["row", "period", "times", "index", "stone"]) fun _ _ _ _ _ _ us hl => match us, hl with | [_, _, _, _, _], _ => rfl
    have F_end_to_right := d_end_to_right (P := l.prog) (w := w) (base := base) T (PySem.W.mg_of X G a6) U6 B6 F_right_ends F_repeated
    have U7 := fun_mk (st := s_copies_stretch) l7 c7 k7
    have B7 := U7.binds (ps := ["row", "period", "times", "index", "stone", "side"]) fun _ _ _ _ _ _ us hl => match us, hl with | [_, _, _, _, _, _], _ => rfl
    have F_copies_stretch := d_copies_stretch (P := l.prog) (w := w) (base := base) T (PySem.W.mg_of X G a7) U7 B7 F_check_push F_end_to_right F_is_integer F_mirrored X_NoIndex
    have U8 := fun_mk (st := s_both_ends) l8 c8 k8
    have B8 := U8.binds (ps := ["row"]) fun _ _ _ _ _ _ us hl => match us, hl with | [_], _ => rfl
    have F_both_ends := d_both_ends (P := l.prog) (w := w) (base := base) T (PySem.W.mg_of X G a8) U8 B8 F_right_ends F_mirrored
    have U9 := fun_mk (st := s_farthest) l9 c9 k9
    have B9 := U9.binds (ps := ["lefts", "rights", "stone"]) fun _ _ _ _ _ _ us hl => match us, hl with | [_, _, _], _ => rfl
    have F_farthest := d_farthest (P := l.prog) (w := w) (base := base) T (PySem.W.mg_of X G a9) U9 B9 
    have U10 := fun_mk (st := s_fewest_of) l10 c10 k10
    have B10 := U10.binds (ps := ["row"]) fun _ _ _ _ _ _ us hl => match us, hl with | [_], _ => rfl
    have F_fewest_of := d_fewest_of (P := l.prog) (w := w) (base := base) T (PySem.W.mg_of X G a10) U10 B10 F_both_ends F_farthest
    have U11 := fun_mk (st := s_is_endless) l11 c11 k11
    have B11 := U11.binds (ps := ["row", "period"]) fun _ _ _ _ _ _ us hl => match us, hl with | [_, _], _ => rfl
    have F_is_endless := d_is_endless (P := l.prog) (w := w) (base := base) T (PySem.W.mg_of X G a11) U11 B11 F_both_ends F_repeated
    have U12 := fun_mk (st := s_next_stones) l12 c12 k12
    have B12 := U12.binds (ps := ["row", "period", "before", "after"]) fun _ _ _ _ _ _ us hl => match us, hl with | [_, _, _, _], _ => rfl
    have F_next_stones := d_next_stones (P := l.prog) (w := w) (base := base) T (PySem.W.mg_of X G a12) U12 B12 F_both_ends F_repeated F_farthest
    have U13 := fun_mk (st := s_copies_fewest) l13 c13 k13
    have B13 := U13.binds (ps := ["row", "period", "times"]) fun _ _ _ _ _ _ us hl => match us, hl with | [_, _, _], _ => rfl
    have F_copies_fewest := d_copies_fewest (P := l.prog) (w := w) (base := base) T (PySem.W.mg_of X G a13) U13 B13 F_is_endless F_fewest_of F_next_stones F_repeated
    have U14 := fun_mk (st := s__law_horn) l14 c14 k14
    have B14 := U14.binds (ps := ["_law_script"]) fun _ _ _ _ _ _ us hl => match us, hl with | [_], _ => rfl
    have F__law_horn := d__law_horn (P := l.prog) (w := w) (base := base) T (PySem.W.mg_of X G a14) U14 B14 
    have U15 := fun_mk (st := s__law_blow) l15 c15 k15
    have B15 := U15.binds (ps := ["_law_horn_here", "_law_many"]) fun _ _ _ _ _ _ us hl => match us, hl with | [_, _], _ => rfl
    have F__law_blow := d__law_blow (P := l.prog) (w := w) (base := base) T (PySem.W.mg_of X G a15) U15 B15 
    have U16 := fun_mk (st := s__law_row) l16 c16 k16
    have B16 := U16.binds (ps := ["_law_horn_here", "_law_size", "_law_wide"]) fun _ _ _ _ _ _ us hl => match us, hl with | [_, _, _], _ => rfl
    have F__law_row := d__law_row (P := l.prog) (w := w) (base := base) T (PySem.W.mg_of X G a16) U16 B16 F__law_blow
    have U17 := fun_mk (st := s__law_copies) l17 c17 k17
    have B17 := U17.binds (ps := ["_law_horn_here", "_law_size", "_law_wide"]) fun _ _ _ _ _ _ us hl => match us, hl with | [_, _, _], _ => rfl
    have F__law_copies := d__law_copies (P := l.prog) (w := w) (base := base) T (PySem.W.mg_of X G a17) U17 B17 F__law_row F__law_blow
    have U18 := fun_mk (st := s__law_repeated) l18 c18 k18
    have B18 := U18.binds (ps := ["_law_row_here", "_law_period", "_law_times"]) fun _ _ _ _ _ _ us hl => match us, hl with | [_, _, _], _ => rfl
    have F__law_repeated := d__law_repeated (P := l.prog) (w := w) (base := base) T (PySem.W.mg_of X G a18) U18 B18 
    have U19 := fun_mk (st := s__law_ends) l19 c19 k19
    have B19 := U19.binds (ps := ["_law_row_here"]) fun _ _ _ _ _ _ us hl => match us, hl with | [_], _ => rfl
    have F__law_ends := d__law_ends (P := l.prog) (w := w) (base := base) T (PySem.W.mg_of X G a19) U19 B19 
    have U20 := fun_mk (st := s__law_turned) l20 c20 k20
    have B20 := U20.binds (ps := ["_law_row_here"]) fun _ _ _ _ _ _ us hl => match us, hl with | [_], _ => rfl
    have F__law_turned := d__law_turned (P := l.prog) (w := w) (base := base) T (PySem.W.mg_of X G a20) U20 B20 
    have U21 := fun_mk (st := s__law_starts) l21 c21 k21
    have B21 := U21.binds (ps := ["_law_row_here", "_law_period", "_law_times"]) fun _ _ _ _ _ _ us hl => match us, hl with | [_, _, _], _ => rfl
    have F__law_starts := d__law_starts (P := l.prog) (w := w) (base := base) T (PySem.W.mg_of X G a21) U21 B21 F__law_repeated F__law_ends F__law_turned
    have U22 := fun_mk (st := s__law_fewest) l22 c22 k22
    have B22 := U22.binds (ps := ["_law_row_here", "_law_period", "_law_times"]) fun _ _ _ _ _ _ us hl => match us, hl with | [_, _, _], _ => rfl
    have F__law_fewest := d__law_fewest (P := l.prog) (w := w) (base := base) T (PySem.W.mg_of X G a22) U22 B22 F__law_starts
    have U23 := fun_mk (st := s__law_is_endless) l23 c23 k23
    have B23 := U23.binds (ps := ["_law_row_here", "_law_period"]) fun _ _ _ _ _ _ us hl => match us, hl with | [_, _], _ => rfl
    have F__law_is_endless := d__law_is_endless (P := l.prog) (w := w) (base := base) T (PySem.W.mg_of X G a23) U23 B23 F_copies_stretch
    have U24 := fun_mk (st := s_law) l24 c24 k24
    exact d_law T U24 F__law_horn F__law_copies F_copies_fewest F__law_blow F__law_fewest F__law_is_endless F_mirrored⟩
end Lk58
open PySem PySem.W PyProof.Rows in
set_option maxRecDepth 100000 in
set_option maxHeartbeats 0 in
theorem PySem.Challenge.cw_toppleline_k58_whole_many_copies_holds : PySem.Challenge.rw_toppleline_k58_whole_many_copies.Holds := by
  w_on; o_law; k_headL; (case hw => w_witness2)
  k_fill
  refine DL.walkG (l := PySem.Challenge.rw_toppleline_k58_whole_many_copies) (k := 6) (x := "_law_script") (sp := fun K => Lk58.spLaw K) rfl rfl ⟨rfl, by decide, by decide⟩ (fun w h Y => PySem.W.kIn_of Y) ?F (fun K H a ns hl hO hS => Lk58.law_ok hl hS)
  case F =>
    intro w mg fa h KX G hmg
    refine' Lk58.all_mk KX G hmg ?gget ?gtak ?a0 ?l0 ?c0 ?k0 ?a1 ?l1 ?c1 ?k1 ?a2 ?l2 ?c2 ?k2 ?a3 ?l3 ?c3 ?k3 ?a4 ?l4 ?c4 ?k4 ?a5 ?l5 ?c5 ?k5 ?a6 ?l6 ?c6 ?k6 ?a7 ?l7 ?c7 ?k7 ?a8 ?l8 ?c8 ?k8 ?a9 ?l9 ?c9 ?k9 ?a10 ?l10 ?c10 ?k10 ?a11 ?l11 ?c11 ?k11 ?a12 ?l12 ?c12 ?k12 ?a13 ?l13 ?c13 ?k13 ?a14 ?l14 ?c14 ?k14 ?a15 ?l15 ?c15 ?k15 ?a16 ?l16 ?c16 ?k16 ?a17 ?l17 ?c17 ?k17 ?a18 ?l18 ?c18 ?k18 ?a19 ?l19 ?c19 ?k19 ?a20 ?l20 ?c20 ?k20 ?a21 ?l21 ?c21 ?k21 ?a22 ?l22 ?c22 ?k22 ?a23 ?l23 ?c23 ?k23 ?a24 ?l24 ?c24 ?k24 ?z_bool ?z_enumerate ?z_int ?z_isinstance ?z_len ?z_list ?z_max ?z_min ?z_range ?z_reversed ?z_str ?z_tuple ?y_FEW ?y_LEFT ?y_RIGHT ?q_NoStone ?q_NoSide ?q_NoIndex ?q_FallError ?xl_NoStone ?sa_NoStone ?ga_NoStone ?gg_NoStone ?cl_NoStone ?kc_NoStone ?be_NoStone ?ty_NoStone ?hd_NoStone ?ob_NoStone ?ve_NoStone ?se_NoStone ?nf_NoStone_value ?i_NoStone_a ?i_NoStone_t ?i_NoStone_l ?i_NoStone_c ?i_NoStone_k ?xl_NoSide ?sa_NoSide ?ga_NoSide ?gg_NoSide ?cl_NoSide ?kc_NoSide ?be_NoSide ?ty_NoSide ?hd_NoSide ?ob_NoSide ?ve_NoSide ?se_NoSide ?nf_NoSide_value ?i_NoSide_a ?i_NoSide_t ?i_NoSide_l ?i_NoSide_c ?i_NoSide_k ?xl_NoIndex ?sa_NoIndex ?ga_NoIndex ?gg_NoIndex ?cl_NoIndex ?kc_NoIndex ?be_NoIndex ?ty_NoIndex ?hd_NoIndex ?ob_NoIndex ?ve_NoIndex ?se_NoIndex ?nf_NoIndex_index ?i_NoIndex_a ?i_NoIndex_t ?i_NoIndex_l ?i_NoIndex_c ?i_NoIndex_k
    (case gget => k_is)
    (case gtak => k_is)
    (case a0 => k_is)
    (case l0 => k_is)
    (case c0 => k_is)
    (case k0 => k_is)
    (case a1 => k_is)
    (case l1 => k_is)
    (case c1 => k_is)
    (case k1 => k_is)
    (case a2 => k_is)
    (case l2 => k_is)
    (case c2 => k_is)
    (case k2 => k_is)
    (case a3 => k_is)
    (case l3 => k_is)
    (case c3 => k_is)
    (case k3 => k_is)
    (case a4 => k_is)
    (case l4 => k_is)
    (case c4 => k_is)
    (case k4 => k_is)
    (case a5 => k_is)
    (case l5 => k_is)
    (case c5 => k_is)
    (case k5 => k_is)
    (case a6 => k_is)
    (case l6 => k_is)
    (case c6 => k_is)
    (case k6 => k_is)
    (case a7 => k_is)
    (case l7 => k_is)
    (case c7 => k_is)
    (case k7 => k_is)
    (case a8 => k_is)
    (case l8 => k_is)
    (case c8 => k_is)
    (case k8 => k_is)
    (case a9 => k_is)
    (case l9 => k_is)
    (case c9 => k_is)
    (case k9 => k_is)
    (case a10 => k_is)
    (case l10 => k_is)
    (case c10 => k_is)
    (case k10 => k_is)
    (case a11 => k_is)
    (case l11 => k_is)
    (case c11 => k_is)
    (case k11 => k_is)
    (case a12 => k_is)
    (case l12 => k_is)
    (case c12 => k_is)
    (case k12 => k_is)
    (case a13 => k_is)
    (case l13 => k_is)
    (case c13 => k_is)
    (case k13 => k_is)
    (case a14 => k_is)
    (case l14 => k_is)
    (case c14 => k_is)
    (case k14 => k_is)
    (case a15 => k_is)
    (case l15 => k_is)
    (case c15 => k_is)
    (case k15 => k_is)
    (case a16 => k_is)
    (case l16 => k_is)
    (case c16 => k_is)
    (case k16 => k_is)
    (case a17 => k_is)
    (case l17 => k_is)
    (case c17 => k_is)
    (case k17 => k_is)
    (case a18 => k_is)
    (case l18 => k_is)
    (case c18 => k_is)
    (case k18 => k_is)
    (case a19 => k_is)
    (case l19 => k_is)
    (case c19 => k_is)
    (case k19 => k_is)
    (case a20 => k_is)
    (case l20 => k_is)
    (case c20 => k_is)
    (case k20 => k_is)
    (case a21 => k_is)
    (case l21 => k_is)
    (case c21 => k_is)
    (case k21 => k_is)
    (case a22 => k_is)
    (case l22 => k_is)
    (case c22 => k_is)
    (case k22 => k_is)
    (case a23 => k_is)
    (case l23 => k_is)
    (case c23 => k_is)
    (case k23 => k_is)
    (case a24 => k_is)
    (case l24 => k_is)
    (case c24 => k_is)
    (case k24 => k_is)
    (case z_bool => k_is)
    (case z_enumerate => k_is)
    (case z_int => k_is)
    (case z_isinstance => k_is)
    (case z_len => k_is)
    (case z_list => k_is)
    (case z_max => k_is)
    (case z_min => k_is)
    (case z_range => k_is)
    (case z_reversed => k_is)
    (case z_str => k_is)
    (case z_tuple => k_is)
    (case y_FEW => k_is)
    (case y_LEFT => k_is)
    (case y_RIGHT => k_is)
    (case q_NoStone => k_is)
    (case q_NoSide => k_is)
    (case q_NoIndex => k_is)
    (case q_FallError => k_is)
    (case xl_NoStone => k_is)
    (case sa_NoStone => k_is)
    (case ga_NoStone => k_is)
    (case gg_NoStone => k_is)
    (case cl_NoStone => k_is)
    (case kc_NoStone => k_is)
    (case be_NoStone => k_is)
    (case ty_NoStone => k_is)
    (case hd_NoStone => k_is)
    (case ob_NoStone => k_is)
    (case ve_NoStone => k_is)
    (case se_NoStone => k_is)
    (case nf_NoStone_value => k_is)
    (case i_NoStone_a => k_is)
    (case i_NoStone_t => k_is)
    (case i_NoStone_l => k_is)
    (case i_NoStone_c => k_is)
    (case i_NoStone_k => k_is)
    (case xl_NoSide => k_is)
    (case sa_NoSide => k_is)
    (case ga_NoSide => k_is)
    (case gg_NoSide => k_is)
    (case cl_NoSide => k_is)
    (case kc_NoSide => k_is)
    (case be_NoSide => k_is)
    (case ty_NoSide => k_is)
    (case hd_NoSide => k_is)
    (case ob_NoSide => k_is)
    (case ve_NoSide => k_is)
    (case se_NoSide => k_is)
    (case nf_NoSide_value => k_is)
    (case i_NoSide_a => k_is)
    (case i_NoSide_t => k_is)
    (case i_NoSide_l => k_is)
    (case i_NoSide_c => k_is)
    (case i_NoSide_k => k_is)
    (case xl_NoIndex => k_is)
    (case sa_NoIndex => k_is)
    (case ga_NoIndex => k_is)
    (case gg_NoIndex => k_is)
    (case cl_NoIndex => k_is)
    (case kc_NoIndex => k_is)
    (case be_NoIndex => k_is)
    (case ty_NoIndex => k_is)
    (case hd_NoIndex => k_is)
    (case ob_NoIndex => k_is)
    (case ve_NoIndex => k_is)
    (case se_NoIndex => k_is)
    (case nf_NoIndex_index => k_is)
    (case i_NoIndex_a => k_is)
    (case i_NoIndex_t => k_is)
    (case i_NoIndex_l => k_is)
    (case i_NoIndex_c => k_is)
    (case i_NoIndex_k => k_is)
