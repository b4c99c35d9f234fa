import PyProof.Rows.All
import PySem.Challenge.RW_latekeepers_k01_errors_apart
import HandS.ForMost
import HandS.DictComp
import KE.KDictCopyH
import KE.KDictKeyed
import KE.KDictLaw
import KE.KDictPairs
import KE.KDictZip
import PyProof.DictStraight
import KE.KDictItemsList
import KE.KeyNested
import KE.KEqDict
import PyProof.DictFindH
import HandS.DictTup
import HandS.Lambda
import HandS.IsInst
import HandS.TupAny
import HandS.More
import HandS.Style
import HandS.Small
import HandS.Dict
import HandS.Exc
import HandS.ExcOwn
import PyProof.FactsLen
import HandS.Words
import HandS.WordsExc
import HandS.Ends
import HandS.Defaults
import HandS.Strs
import HandS.Property
import HandS.Comp
import HandS.Iter
import KE.GoesMore
import KE.GoesEnum
import HandS.OwnEq
import OpenK.KOps
import PyProof.InstEq
import PyProof.ListRange
import PyProof.ReprLen
import HandS.Codes
import KE.SortKeyHeap
import HandS.SortKw
import HandS.Head0
import HandS.Head1
import HandS.Head2
import HandS.HeadHook4
import HandS.HeadNt
import HandS.EndBits
import HandS.EndTab
import HandS.MakeKwOnly
import HandS.Deep
import KE.GoesZip
import HandS.Keys
import HandS.ExcInit
import HandS.ExcIs
import HandS.ExcField
import HandS.ExcValue
set_option Elab.async false
set_option linter.all false
set_option maxRecDepth 100000
set_option maxHeartbeats 4000000
namespace L2
open PySem PySem.Spec PyProof.Rows
def lfO : Option Int → Leaf
  | none => .none
  | some i => .num i
def kvO : Option Int → V
  | none => .non
  | some i => .int i
def KdP (d : Addr) (ks : List (Option Int)) : Heap → Prop := fun h => (d == sysModules) = false ∧ ∀ (prog : Program) (w : World), ∃ kvs : List (Leaf × Value), h.DictOf (leafKind prog w) d kvs ∧ (∀ kv ∈ kvs, ∃ o, kv.1 = lfO o) ∧ kvs.length ≤ ks.length ∧
  ∀ o, (valueAt kvs (lfO o)).isSome = decide (o ∈ ks)
end L2
namespace L2
end L2
namespace L2
open PySem PySem.Spec PyProof.Rows
mutual
inductive NkH (K : PySem.W.Frag) (H : Hp) : NestedKey → V → Prop
  | non : NkH K H .none .non
  | bl (b : Bool) : NkH K H (.num (if b = true then 1 else 0)) (.bl b)
  | int (i : Int) : NkH K H (.num i) (.int i)
  | str (x : Str) : NkH K H (.text x) (.str x)
  | tup {a : Addr} {vs : List V} {ks : List NestedKey} : SqT K H a vs → NkHL K H ks vs → NkH K H (.tup ks) (.ref a)
inductive NkHL (K : PySem.W.Frag) (H : Hp) : List NestedKey → List V → Prop
  | nil : NkHL K H [] []
  | cons {k : NestedKey} {ks : List NestedKey} {v : V} {vs : List V} : NkH K H k v → NkHL K H ks vs → NkHL K H (k :: ks) (v :: vs)
end
section
variable {X : Cx} {pins : List (Addr × Obj)} {σ : St} {H : Hp} {s : Shared}
mutual
theorem nk_is (I : Inv X pins σ H s) : ∀ {k : NestedKey} {v : V} {u : Value}, NkH X.K H k v → RelV v u → NestedIs s.heap k u
  | _, _, _, .non, r => by cases (show _ = Value.none from r); exact .none
  | _, _, _, .bl b, r => by cases (show _ = Value.bool b from r); exact .bool rfl
  | _, _, _, .int i, r => by obtain ⟨t, rfl⟩ := (show ∃ t, _ = Value.int i t from r); exact .int i t
  | _, _, _, .str x, r => by obtain ⟨t, rfl⟩ := (show ∃ t, _ = Value.str x t from r); exact .text x t
  | _, _, _, .tup hs hl, r => by
    cases (show _ = Value.ref _ from r)
    obtain ⟨its, rv, ⟨o, ho, hc, n, hd⟩, _⟩ := I.tuple hs
    exact .tup ho hc hd (nk_all I hl rv)
theorem nk_all (I : Inv X pins σ H s) : ∀ {ks : List NestedKey} {vs : List V} {us : List Value}, NkHL X.K H ks vs → Vals vs us → NestedAll s.heap ks us
  | _, _, _, .nil, .nil => .nil
  | _, _, _, .cons h t, .cons r rr => .cons (nk_is I h r) (nk_all I t rr)
end
end
abbrev TbE := NestedKey × Addr × Option Int
def zipH (xs : List TbE) (us : List Value) : List (NestedKey × Addr × Value) := (xs.zip us).map fun p => (p.1.1, p.1.2.1, p.2)
def TbP (w : World) (d : Addr) (xs : List TbE) : Heap → Prop := fun h => (d == sysModules) = false ∧ ∃ (o : Obj) (es : Array DictEntry) (ep : Nat) (us : List Value), h.get? d = some o ∧ o.ExactDict ∧ o.data = .dict es ep ∧ Vals (xs.map fun x => kvO x.2.2) us ∧
  es.toList = (zipH xs us).map (fun x => (⟨x.1.hash w, .ref x.2.1, x.2.2⟩ : DictEntry)) ∧ (xs.map (·.1)).Nodup
end L2
namespace L2
end L2
namespace L2
end L2
namespace TL
open PySem PySem.Spec PyProof.Rows L2
def exv (a : Addr) (cls : Value) (d : Option Addr) : HO := .ext fun h => ∃ (oe : Obj) (vs : Array Value), h.get? a = some oe ∧ Zc cls d oe ∧ oe.data = .fields vs
inductive D where
  | non | bl (b : Bool) | int (i : Int) | str (x : Str)
  | tup (xs : List D) | lst (xs : List D) | dct (kvs : List (Key × D))
  | obj (C : Addr) (fs : List (Str × D)) | ref (a : Addr) | ty (n : String)
  | scr (ns : List Int)
  | exc (C : Addr) (fs : List (Str × D))
instance : Inhabited D := ⟨.non⟩
mutual
inductive Rp (K : PySem.W.Frag) (G : Hp) : V → D → Prop
  | non : Rp K G .non .non
  | bl (b : Bool) : Rp K G (.bl b) (.bl b)
  | int (i : Int) : Rp K G (.int i) (.int i)
  | str (x : Str) : Rp K G (.str x) (.str x)
  | tup {a : Addr} {vs : List V} {ds : List D} : SqT K G a vs → RpL K G vs ds → Rp K G (.ref a) (.tup ds)
  | lst {a : Addr} {vs : List V} {ds : List D} : G a = some (.lst vs) → RpL K G vs ds → Rp K G (.ref a) (.lst ds)
  | dct {a : Addr} {kvs : List (Key × V)} {ds : List (Key × D)} : G a = some (.dK kvs) → RpK K G kvs ds → Rp K G (.ref a) (.dct ds)
  | obj {a C dx : Addr} {fs : List (Str × V)} {ds : List (Str × D)} : G a = some (.ins C dx fs) → G dx = some (.own a) → RpF K G fs ds → Rp K G (.ref a) (.obj C ds)
  | ref (a : Addr) : Rp K G (.ref a) (.ref a)
  | ty (n : String) : Rp K G (.ty n) (.ty n)
  | scr {a : Addr} {ns : List Int} : SqL K G a (ns.map V.int) → Rp K G (.ref a) (.scr ns)
  | exc0 {a C : Addr} : G a = some (exv a (.ref C) none) → Rp K G (.ref a) (.exc C [])
  | exc1 {a C dd : Addr} {vs : List (Str × V)} {fs : List (Str × D)} : G a = some (exv a (.ref C) (some dd)) → G dd = some (.xd vs) → RpF K G vs fs → Rp K G (.ref a) (.exc C fs)
inductive RpL (K : PySem.W.Frag) (G : Hp) : List V → List D → Prop
  | nil : RpL K G [] []
  | cons {v : V} {vs : List V} {d : D} {ds : List D} : Rp K G v d → RpL K G vs ds → RpL K G (v :: vs) (d :: ds)
inductive RpK (K : PySem.W.Frag) (G : Hp) : List (Key × V) → List (Key × D) → Prop
  | nil : RpK K G [] []
  | cons {k : Key} {v : V} {kvs : List (Key × V)} {d : D} {ds : List (Key × D)} : Rp K G v d → RpK K G kvs ds → RpK K G ((k, v) :: kvs) ((k, d) :: ds)
inductive RpF (K : PySem.W.Frag) (G : Hp) : List (Str × V) → List (Str × D) → Prop
  | nil : RpF K G [] []
  | cons {f : Str} {v : V} {fs : List (Str × V)} {d : D} {ds : List (Str × D)} : Rp K G v d → RpF K G fs ds → RpF K G ((f, v) :: fs) ((f, d) :: ds)
end
theorem seqT {K : PySem.W.Frag} {H H' : Hp} {a : Addr} {xs : List V} (e : Same H H') (h : SqT K H a xs) : SqT K H' a xs := by
  rcases h with (h | ⟨o, h⟩) | h
  · exact .inl (.inl (e _ _ h))
  · exact .inl (.inr ⟨o, e _ _ h⟩)
  · exact .inr h
section
variable {K : PySem.W.Frag} {G G' : Hp}
mutual
theorem Rp.mono (s : Same G G') : ∀ {v : V} {d : D}, Rp K G v d → Rp K G' v d
  | _, _, .non => .non
  | _, _, .bl b => .bl b
  | _, _, .int i => .int i
  | _, _, .str x => .str x
  | _, _, .tup h r => .tup (seqT s h) (RpL.mono s r)
  | _, _, .lst h r => .lst (s _ _ h) (RpL.mono s r)
  | _, _, .dct h r => .dct (s _ _ h) (RpK.mono s r)
  | _, _, .obj h h' r => .obj (s _ _ h) (s _ _ h') (RpF.mono s r)
  | _, _, .ref a => .ref a
  | _, _, .ty n => .ty n
  | _, _, .scr h => .scr (s.seq h)
  | _, _, .exc0 h => .exc0 (s _ _ h)
  | _, _, .exc1 h h' r => .exc1 (s _ _ h) (s _ _ h') (RpF.mono s r)
theorem RpL.mono (s : Same G G') : ∀ {vs : List V} {ds : List D}, RpL K G vs ds → RpL K G' vs ds
  | _, _, .nil => .nil
  | _, _, .cons h r => .cons (Rp.mono s h) (RpL.mono s r)
theorem RpK.mono (s : Same G G') : ∀ {vs : List (Key × V)} {ds : List (Key × D)}, RpK K G vs ds → RpK K G' vs ds
  | _, _, .nil => .nil
  | _, _, .cons h r => .cons (Rp.mono s h) (RpK.mono s r)
theorem RpF.mono (s : Same G G') : ∀ {vs : List (Str × V)} {ds : List (Str × D)}, RpF K G vs ds → RpF K G' vs ds
  | _, _, .nil => .nil
  | _, _, .cons h r => .cons (Rp.mono s h) (RpF.mono s r)
end
theorem RpL.length : ∀ {vs : List V} {ds : List D}, RpL K G vs ds → vs.length = ds.length
  | _, _, .nil => rfl
  | _, _, .cons _ r => congrArg (· + 1) r.length
theorem RpL.append : ∀ {vs ws : List V} {ds es : List D}, RpL K G vs ds → RpL K G ws es → RpL K G (vs ++ ws) (ds ++ es)
  | _, _, _, _, .nil, s => s
  | _, _, _, _, .cons h r, s => .cons h (r.append s)
theorem RpL.get : ∀ {vs : List V} {ds : List D} {i : Nat} {d : D}, RpL K G vs ds → ds[i]? = some d → ∃ v, vs[i]? = some v ∧ Rp K G v d
  | _, _, _, _, .nil, h => by simp at h
  | _, _, 0, _, .cons h _, e => by simp at e; subst e; exact ⟨_, rfl, h⟩
  | _, _, i + 1, _, .cons _ r, e => by
    obtain ⟨v, h1, h2⟩ := RpL.get (i := i) r (by simpa using e)
    exact ⟨v, by simpa using h1, h2⟩
theorem RpL.drop : ∀ {vs : List V} {ds : List D} (n : Nat), RpL K G vs ds → RpL K G (vs.drop n) (ds.drop n)
  | _, _, 0, r => r
  | _, _, _ + 1, .nil => .nil
  | _, _, n + 1, .cons _ r => r.drop n
theorem RpL.set {v : V} {d : D} (h : Rp K G v d) : ∀ {vs : List V} {ds : List D} (i : Nat), RpL K G vs ds → RpL K G (vs.set i v) (ds.set i d)
  | _, _, _, .nil => .nil
  | _, _, 0, .cons _ r => .cons h r
  | _, _, i + 1, .cons h' r => .cons h' (RpL.set h i r)
theorem RpL.rep {vs : List V} {ds : List D} (h : RpL K G vs ds) : ∀ k : Nat, RpL K G (List.replicate k vs).flatten (List.replicate k ds).flatten
  | 0 => .nil
  | k + 1 => by rw [List.replicate_succ, List.replicate_succ, List.flatten_cons, List.flatten_cons]; exact h.append (h.rep k)
theorem RpL.ints : ∀ ns : List Int, RpL K G (ns.map V.int) (ns.map D.int)
  | [] => .nil
  | n :: ns => .cons (.int n) (RpL.ints ns)
end
mutual
def nkD : D → NestedKey
  | .int i => .num i
  | .bl b => .num (if b = true then 1 else 0)
  | .str x => .text x
  | .tup ds => .tup (nkDs ds)
  | _ => .none
def nkDs : List D → List NestedKey
  | [] => []
  | d :: ds => nkD d :: nkDs ds
end
mutual
def kyD : D → Bool
  | .non => true
  | .int _ => true
  | .bl _ => true
  | .str _ => true
  | .tup ds => kyDs ds
  | _ => false
def kyDs : List D → Bool
  | [] => true
  | d :: ds => kyD d && kyDs ds
end
mutual
theorem nk_rp {K : PySem.W.Frag} {G H : Hp} (s : Same G H) : ∀ {v : V} {d : D}, Rp K G v d → kyD d = true → NkH K H (nkD d) v
  | _, _, .non, _ => .non
  | _, _, .bl b, _ => .bl b
  | _, _, .int i, _ => .int i
  | _, _, .str x, _ => .str x
  | _, _, .tup h r, k => .tup (seqT s h) (nk_rps s r k)
  | _, _, .lst _ _, k => by cases k
  | _, _, .dct _ _, k => by cases k
  | _, _, .obj _ _ _, k => by cases k
  | _, _, .ref _, k => by cases k
  | _, _, .ty _, k => by cases k
  | _, _, .scr _, k => by cases k
  | _, _, .exc0 _, k => by cases k
  | _, _, .exc1 _ _ _, k => by cases k
theorem nk_rps {K : PySem.W.Frag} {G H : Hp} (s : Same G H) : ∀ {vs : List V} {ds : List D}, RpL K G vs ds → kyDs ds = true → NkHL K H (nkDs ds) vs
  | _, _, .nil, _ => .nil
  | _, _, .cons h r, k => .cons (nk_rp s h (Bool.and_eq_true_iff.mp k).1) (nk_rps s r (Bool.and_eq_true_iff.mp k).2)
end
structure KyOk (d : D) : Prop where
  tup : ∃ ds, d = .tup ds
  ky : kyD d = true
  dp : (nkD d).depth ≤ 8
inductive TbR (K : PySem.W.Frag) (G : Hp) : List TbE → List (D × Option Int) → Prop
  | nil : TbR K G [] []
  | cons {a : Addr} {d : D} {o : Option Int} {xs : List TbE} {ys : List (D × Option Int)} : Rp K G (.ref a) d → KyOk d → TbR K G xs ys → TbR K G ((nkD d, a, o) :: xs) ((d, o) :: ys)
theorem TbR.mono {K : PySem.W.Frag} {G G' : Hp} (s : Same G G') : ∀ {xs : List TbE} {ys : List (D × Option Int)}, TbR K G xs ys → TbR K G' xs ys
  | _, _, .nil => .nil
  | _, _, .cons r k t => .cons (r.mono s) k (TbR.mono s t)
theorem TbR.app {K : PySem.W.Frag} {G : Hp} : ∀ {xs xs2 : List TbE} {ys ys2 : List (D × Option Int)}, TbR K G xs ys → TbR K G xs2 ys2 → TbR K G (xs ++ xs2) (ys ++ ys2)
  | _, _, _, _, .nil, t => t
  | _, _, _, _, .cons r k t, u => .cons r k (t.app u)
theorem TbR.keys {K : PySem.W.Frag} {G : Hp} : ∀ {xs : List TbE} {ys : List (D × Option Int)}, TbR K G xs ys → xs.map (·.1) = ys.map fun y => nkD y.1
  | _, _, .nil => rfl
  | _, _, .cons _ _ t => by rw [List.map_cons, List.map_cons, t.keys]
theorem TbR.vals {K : PySem.W.Frag} {G : Hp} : ∀ {xs : List TbE} {ys : List (D × Option Int)}, TbR K G xs ys → xs.map (·.2.2) = ys.map (·.2)
  | _, _, .nil => rfl
  | _, _, .cons _ _ t => by rw [List.map_cons, List.map_cons, t.vals]
theorem TbR.len {K : PySem.W.Frag} {G : Hp} {xs : List TbE} {ys : List (D × Option Int)} (h : TbR K G xs ys) : xs.length = ys.length := by
  have := congrArg List.length h.vals
  rwa [List.length_map, List.length_map] at this
abbrev Stt := L2.St
inductive Res where
  | st (b : Nat)
  | stx (L C : List Int) (r t : Int) (b : Nat)
  | ob (C : Addr) (fs : List (Str × D))
  | sg (b : Nat)
  | sgx (L C : List Int) (r t : Int) (b : Nat)
  | kd (ks : List (Option Int))
  | tb (w : World) (kvs : List (D × Option Int))
  | ex (C : Addr) (fs : List (Str × D))
structure FoX where
  P : PySem.W.Frag → Hp → HO → Prop
  mono : ∀ {K : PySem.W.Frag} {G G' : Hp} {o : HO}, Same G G' → P K G o → P K G' o
inductive Fo where
  | ls (ds : List D) | dc (kvs : List (Key × D)) | ins (C : Addr) (fs : List (Str × D)) | tp (ds : List D) | ext (x : FoX)
abbrev Os := Addr → Option Fo
inductive Sl where
  | un | fr (d : D) | ls (xs : List D) | dc (kvs : List (Key × D)) | rs (r : Res) | hp (r : Option Addr) (os : Os)
def Sl.own : Sl → Bool
  | .ls _ => true
  | .dc _ => true
  | .rs _ => true
  | .hp _ _ => true
  | _ => false
abbrev Env := List Sl
def StX (G H : Hp) (F : Addr → Prop) (v : V) (large cells : List Int) (rest turn : Int) (b : Nat) : Prop :=
  ∃ (S L C : Addr), v = .ref S ∧ F S ∧ F L ∧
    H S = some (.dK [(Sum.inr "large", .ref L), (Sum.inr "cells", .ref C), (Sum.inr "rest", .int rest), (Sum.inr "turn", .int turn)]) ∧
    H L = some (.lst (large.map V.int)) ∧ G C = some (.lst (cells.map V.int)) ∧ large.length ≤ 63 ∧ cells.length ≤ 63 ∧ 0 ≤ turn ∧ turn + b ≤ 1000000000000
def SgX (G H : Hp) (F : Addr → Prop) (v : V) (great cells : List Int) (rest turn : Int) (b : Nat) : Prop :=
  ∃ (S L C : Addr), v = .ref S ∧ F S ∧ F L ∧
    H S = some (.dK [(Sum.inr "great", .ref L), (Sum.inr "cells", .ref C), (Sum.inr "rest", .int rest), (Sum.inr "turn", .int turn)]) ∧
    H L = some (.lst (great.map V.int)) ∧ G C = some (.lst (cells.map V.int)) ∧ great.length ≤ 63 ∧ cells.length ≤ 63 ∧ 0 ≤ turn ∧ turn + b ≤ 1000000000000
def RpX (K : PySem.W.Frag) (G : Hp) (d : Option Addr) (fs : List (Str × D)) : Prop := (d = none ∧ fs = []) ∨ ∃ (dd : Addr) (vs : List (Str × V)), d = some dd ∧ G dd = some (.xd vs) ∧ RpF K G vs fs
def Res.ok (K : PySem.W.Frag) (G H : Hp) (F : Addr → Prop) (v : V) : Res → Prop
  | .st b => ∃ large cells rest turn, StX G H F v large cells rest turn b
  | .stx L C r t b => StX G H F v L C r t b
  | .ob C fs => ∃ (a dx : Addr) (vs : List (Str × V)), v = .ref a ∧ F a ∧ F dx ∧ H a = some (.ins C dx vs) ∧ H dx = some (.own a) ∧ RpF K G vs fs
  | .sg b => ∃ great cells rest turn, SgX G H F v great cells rest turn b
  | .sgx L C r t b => SgX G H F v L C r t b
  | .kd ks => ∃ a, v = .ref a ∧ F a ∧ H a = some (.ext (KdP a ks))
  | .tb w kvs => ∃ a xs, v = .ref a ∧ F a ∧ H a = some (.ext (TbP w a xs)) ∧ TbR K G xs kvs
  | .ex C fs => ∃ (a : Addr) (d : Option Addr), v = .ref a ∧ G a = some (exv a (.ref C) d) ∧ RpX K G d fs
def Fo.ok (K : PySem.W.Frag) (G H : Hp) (F : Addr → Prop) (a : Addr) : Fo → Prop
  | .ls ds => ∃ vs, H a = some (.lst vs) ∧ RpL K G vs ds
  | .dc ds => ∃ vs, H a = some (.dK vs) ∧ RpK K G vs ds
  | .ins C fs => ∃ (dx : Addr) (vs : List (Str × V)), F dx ∧ H a = some (.ins C dx vs) ∧ H dx = some (.own a) ∧ RpF K G vs fs
  | .tp ds => ∃ vs, H a = some (.tup vs) ∧ RpL K G vs ds
  | .ext x => ∃ o, H a = some o ∧ x.P K G o ∧ (∀ b, o ≠ .own b)
theorem Fo.ok.mono {K : PySem.W.Frag} {G G' H H' : Hp} {F F' : Addr → Prop} {a : Addr} {x : Fo} (s : Same G G') (ha : H' a = H a) (hF : ∀ b, F b → F' b ∧ H' b = H b) (h : x.ok K G H F a) : x.ok K G' H' F' a := by
  cases x with
  | ls ds => obtain ⟨vs, h1, r⟩ := h; exact ⟨vs, ha.trans h1, r.mono s⟩
  | dc ds => obtain ⟨vs, h1, r⟩ := h; exact ⟨vs, ha.trans h1, r.mono s⟩
  | ins C fs => obtain ⟨dx, vs, f, h1, h2, r⟩ := h; exact ⟨dx, vs, (hF _ f).1, ha.trans h1, (hF _ f).2.trans h2, r.mono s⟩
  | tp ds => obtain ⟨vs, h1, r⟩ := h; exact ⟨vs, ha.trans h1, r.mono s⟩
  | ext x => obtain ⟨o, h1, q, n⟩ := h; exact ⟨o, ha.trans h1, x.mono s q, n⟩
def SlOk (K : PySem.W.Frag) (G H : Hp) (F : Addr → Prop) (ov : Option (Option V)) : Sl → Prop
  | .un => True
  | .fr d => ∃ v, ov = some (some v) ∧ Rp K G v d
  | .ls ds => ∃ a vs, ov = some (some (.ref a)) ∧ F a ∧ H a = some (.lst vs) ∧ RpL K G vs ds
  | .dc ds => ∃ a vs, ov = some (some (.ref a)) ∧ F a ∧ H a = some (.dK vs) ∧ RpK K G vs ds
  | .rs r => ∃ v, ov = some (some v) ∧ r.ok K G H F v
  | .hp r os => (∀ a, r = some a → ov = some (some (.ref a))) ∧ ∀ a x, os a = some x → F a ∧ x.ok K G H F a
theorem StX.mono {G G' H H' : Hp} {F F' : Addr → Prop} {v : V} {lg cs : List Int} {rest turn : Int} {b : Nat} (s : Same G G') (hF : ∀ a, F a → F' a ∧ H' a = H a) (h : StX G H F v lg cs rest turn b) : StX G' H' F' v lg cs rest turn b := by
  obtain ⟨S, L, C, e, f1, f2, h1, h2, h3, h4⟩ := h
  exact ⟨S, L, C, e, (hF _ f1).1, (hF _ f2).1, (hF _ f1).2.trans h1, (hF _ f2).2.trans h2, s _ _ h3, h4⟩
theorem SgX.mono {G G' H H' : Hp} {F F' : Addr → Prop} {v : V} {lg cs : List Int} {rest turn : Int} {b : Nat} (s : Same G G') (hF : ∀ a, F a → F' a ∧ H' a = H a) (h : SgX G H F v lg cs rest turn b) : SgX G' H' F' v lg cs rest turn b := by
  obtain ⟨S, L, C, e, f1, f2, h1, h2, h3, h4⟩ := h
  exact ⟨S, L, C, e, (hF _ f1).1, (hF _ f2).1, (hF _ f1).2.trans h1, (hF _ f2).2.trans h2, s _ _ h3, h4⟩
theorem RpX.mono {K : PySem.W.Frag} {G G' : Hp} {d : Option Addr} {fs : List (Str × D)} (s : Same G G') (h : RpX K G d fs) : RpX K G' d fs := by
  rcases h with h | ⟨dd, vs, e, g, r⟩
  · exact .inl h
  · exact .inr ⟨dd, vs, e, s _ _ g, RpF.mono s r⟩
theorem Res.ok.mono {K : PySem.W.Frag} {G G' H H' : Hp} {F F' : Addr → Prop} {v : V} {r : Res} (s : Same G G') (hF : ∀ a, F a → F' a ∧ H' a = H a) (h : r.ok K G H F v) : r.ok K G' H' F' v := by
  cases r with
  | st b =>
    obtain ⟨lg, cs, rest, turn, h⟩ := h
    exact ⟨lg, cs, rest, turn, h.mono s hF⟩
  | stx L C r t b => exact StX.mono s hF h
  | sg b =>
    obtain ⟨lg, cs, rest, turn, h⟩ := h
    exact ⟨lg, cs, rest, turn, h.mono s hF⟩
  | sgx L C r t b => exact SgX.mono s hF h
  | tb w kvs =>
    obtain ⟨a, xs, e, f1, h1, r⟩ := h
    exact ⟨a, xs, e, (hF _ f1).1, (hF _ f1).2.trans h1, r.mono s⟩
  | ex C fs =>
    obtain ⟨a, d, e, g, r⟩ := h
    exact ⟨a, d, e, s _ _ g, r.mono s⟩
  | kd ks =>
    obtain ⟨a, e, f1, h1⟩ := h
    exact ⟨a, e, (hF _ f1).1, (hF _ f1).2.trans h1⟩
  | ob C fs =>
    obtain ⟨a, dx, vs, e, f1, f2, h1, h2, r⟩ := h
    exact ⟨a, dx, vs, e, (hF _ f1).1, (hF _ f2).1, (hF _ f1).2.trans h1, (hF _ f2).2.trans h2, RpF.mono s r⟩
theorem SlOk.mono {K : PySem.W.Frag} {G G' H H' : Hp} {F F' : Addr → Prop} {ov : Option (Option V)} {s : Sl} (g : Same G G') (hF : ∀ a, F a → F' a ∧ H' a = H a) (h : SlOk K G H F ov s) : SlOk K G' H' F' ov s := by
  cases s with
  | un => trivial
  | fr d => obtain ⟨v, e, r⟩ := h; exact ⟨v, e, r.mono g⟩
  | ls ds => obtain ⟨a, vs, e, f, h1, r⟩ := h; exact ⟨a, vs, e, (hF _ f).1, (hF _ f).2.trans h1, r.mono g⟩
  | dc ds => obtain ⟨a, vs, e, f, h1, r⟩ := h; exact ⟨a, vs, e, (hF _ f).1, (hF _ f).2.trans h1, r.mono g⟩
  | rs r => obtain ⟨v, e, q⟩ := h; exact ⟨v, e, q.mono g hF⟩
  | hp r os => exact ⟨h.1, fun a x e => ⟨(hF _ (h.2 a x e).1).1, (h.2 a x e).2.mono g (hF _ (h.2 a x e).1).2 hF⟩⟩
structure Bs where
  G0 : Hp
  H0 : Hp
  A0 : Addr → Prop
  P : Stt
  T : List (Addr × Str)
abbrev Own := Addr → Option Nat
def Bs.tab (B : Bs) (a : Addr) : Prop := ∃ q, (a, q) ∈ B.T
def TabG (G H : Hp) (P : Addr) (q : Str) : Prop := ∃ ps : Array Value, H P = some (.tbl ps) ∧ TriplesOk ps.toList ∧ ∀ (pos : Pos) (cv : Value), codeAmong pos ps.toList = some cv → ∃ c, cv = .ref c ∧ G c = some (LamX.CodeO c q)
theorem TabG.mono {G G' H H' : Hp} {P : Addr} {q : Str} (g : Same G G') (h : H' P = H P) (t : TabG G H P q) : TabG G' H' P q := by
  obtain ⟨ps, h1, h2, h3⟩ := t
  refine ⟨ps, h.trans h1, h2, fun pos cv hc => ?_⟩
  obtain ⟨c, e1, e2⟩ := h3 pos cv hc
  exact ⟨c, e1, g _ _ e2⟩
structure Kp (B : Bs) (G H : Hp) : Prop where
  old : ∀ a o, B.H0 a = some o → ¬ B.A0 a → ¬ B.tab a → H a = some o
  tin : ∀ a, B.tab a → B.G0 a = none ∧ ¬ B.A0 a ∧ ∃ ps, B.H0 a = some (.tbl ps)
  tabs : ∀ p ∈ B.T, TabG G H p.1 p.2
section
variable {B : Bs} {G G' H H' : Hp}
theorem Kp.isT (k : Kp B G H) {a : Addr} (h : B.tab a) : ∃ ps, H a = some (.tbl ps) := by
  obtain ⟨q, hq⟩ := h
  obtain ⟨ps, h1, _⟩ := k.tabs _ hq
  exact ⟨ps, h1⟩
theorem Kp.mono (k : Kp B G H) (g : Same G G') (h : Same H H') : Kp B G' H' where
  old := fun a o q n t => h _ _ (k.old a o q n t)
  tin := k.tin
  tabs := fun p hp => by
    obtain ⟨ps, h1, h2⟩ := k.tabs p hp
    exact (k.tabs p hp).mono g ((h _ _ h1).trans h1.symm)
theorem Kp.g (k : Kp B G H) (g : Same G G') : Kp B G' H := k.mono g (.refl _)
theorem Kp.gone (k : Kp B G H) {a : Addr} (h : H a = none) : B.A0 a ∨ B.H0 a = none := by
  cases q : B.H0 a with
  | none => exact .inr rfl
  | some o =>
    refine .inl (Classical.byContradiction fun n => ?_)
    by_cases t : B.tab a
    · obtain ⟨ps, e⟩ := k.isT t
      rw [h] at e; cases e
    · rw [k.old a o q n t] at h; cases h
theorem Kp.upd (k : Kp B G H) {p : Addr} {o : HO} (hp : B.A0 p ∨ B.H0 p = none) : Kp B G (L2.upd H p o) where
  old := fun a u q n t => by
    rw [upd_ne (fun z => by
      subst z
      rcases hp with y | y
      · exact n y
      · rw [y] at q; cases q)]
    exact k.old a u q n t
  tin := k.tin
  tabs := fun r hr => by
    refine (k.tabs r hr).mono (.refl _) (upd_ne fun z => ?_)
    obtain ⟨_, h2, ps, h3⟩ := k.tin r.1 ⟨r.2, hr⟩
    rw [z] at h2 h3
    rcases hp with y | y
    · exact h2 y
    · rw [y] at h3; cases h3
end
structure EnvW (K : PySem.W.Frag) (B : Bs) (G : Hp) (ω : Own) (ρ : Env) (σ : Stt) (H : Hp) : Prop where
  gle : Same G H
  g0 : ∀ a o, G a = some o → B.G0 a = some o ∨ B.H0 a = none ∨ B.A0 a
  keep : Kp B G H
  own : ∀ (a : Addr) (i : Nat), ω a = some i → G a = none ∧ H a ≠ none ∧ (B.A0 a ∨ B.H0 a = none)
  len : ρ.length = σ.length
  slot : ∀ (i : Nat) (s : Sl), ρ[i]? = some s → SlOk K G H (fun a => ω a = some i) σ[i]? s
  pin : ∀ (i : Nat) (s : Sl) (v : V), ρ[i]? = some s → s.own = true → B.P[i]? = some (some v) → σ[i]? = some (some v)
inductive Rs where
  | dat (d : D) | sl (i : Nat) | nw (s : Sl)
def RsOk (K : PySem.W.Frag) (G H : Hp) (ω : Own) (σ : Stt) (v : V) : Rs → Prop
  | .dat d => Rp K G v d
  | .sl i => σ[i]? = some (some v)
  | .nw s => s.own = true ∧ SlOk K G H (fun a => ω a = some σ.length) (some (some v)) s
def stl : Rs → Rs
  | .nw (.ls xs) => .dat (.lst xs)
  | .nw (.dc xs) => .dat (.dct xs)
  | r => r
def val (ρ : Env) : Rs → Option D
  | .dat d => some d
  | .sl i => match ρ[i]? with
    | some (.ls xs) => some (.lst xs)
    | some (.dc xs) => some (.dct xs)
    | _ => none
  | .nw (.ls xs) => some (.lst xs)
  | .nw (.dc xs) => some (.dct xs)
  | .nw _ => none
def RdV (K : PySem.W.Frag) (G H : Hp) (v : V) (d : D) : Prop :=
  Rp K G v d ∨ (∃ a vs ds, v = .ref a ∧ d = .lst ds ∧ H a = some (.lst vs) ∧ RpL K G vs ds) ∨ ∃ a vs ds, v = .ref a ∧ d = .dct ds ∧ H a = some (.dK vs) ∧ RpK K G vs ds
def Fin (K : PySem.W.Frag) (B : Bs) (G : Hp) (ρ : Env) (σ : Stt) (H : Hp) (v : V) (r : Rs) : Prop := ∃ ω, EnvW K B G ω ρ σ H ∧ RsOk K G H ω σ v r
def EnvOk (K : PySem.W.Frag) (B : Bs) (G : Hp) (ρ : Env) (σ : Stt) (H : Hp) : Prop := ∃ ω, EnvW K B G ω ρ σ H
section
variable {K : PySem.W.Frag} {B : Bs} {G G' : Hp} {ω : Own} {ρ : Env} {σ : Stt} {H H' : Hp} {v : V} {r : Rs} {d : D}
theorem Fin.env (f : Fin K B G ρ σ H v r) : EnvOk K B G ρ σ H := let ⟨ω, e, _⟩ := f; ⟨ω, e⟩
theorem EnvW.dat (e : EnvW K B G ω ρ σ H) (h : Rp K G v d) : Fin K B G ρ σ H v (.dat d) := ⟨ω, e, h⟩
theorem EnvOk.dat (e : EnvOk K B G ρ σ H) (h : Rp K G v d) : Fin K B G ρ σ H v (.dat d) := let ⟨ω, e⟩ := e; ⟨ω, e, h⟩
theorem RdV.tup {xs : List D} (r : RdV K G H v (.tup xs)) : ∃ a vs, v = .ref a ∧ SqT K G a vs ∧ RpL K G vs xs := by
  rcases r with r | ⟨_, _, _, _, e, _⟩ | ⟨_, _, _, _, e, _⟩
  · cases r with | tup h r => exact ⟨_, _, rfl, h, r⟩
  · cases e
  · cases e
theorem RdV.lst {xs : List D} (s : Same G H) (r : RdV K G H v (.lst xs)) : ∃ a vs, v = .ref a ∧ H a = some (.lst vs) ∧ RpL K G vs xs := by
  rcases r with r | ⟨a, vs, ds, e1, e, h, r⟩ | ⟨_, _, _, _, e, _⟩
  · cases r with | lst h r => exact ⟨_, _, rfl, s _ _ h, r⟩
  · cases e; exact ⟨a, vs, e1, h, r⟩
  · cases e
theorem RdV.dct {xs : List (Key × D)} (s : Same G H) (r : RdV K G H v (.dct xs)) : ∃ a vs, v = .ref a ∧ H a = some (.dK vs) ∧ RpK K G vs xs := by
  rcases r with r | ⟨a, vs, ds, e1, e, _⟩ | ⟨a, vs, ds, e1, e, h, r⟩
  · cases r with | dct h r => exact ⟨_, _, rfl, s _ _ h, r⟩
  · cases e
  · cases e; exact ⟨a, vs, e1, h, r⟩
theorem RdV.int {i : Int} (r : RdV K G H v (.int i)) : v = .int i := by
  rcases r with r | ⟨_, _, _, _, e, _⟩ | ⟨_, _, _, _, e, _⟩
  · cases r; rfl
  · cases e
  · cases e
theorem RdV.str {i : Str} (r : RdV K G H v (.str i)) : v = .str i := by
  rcases r with r | ⟨_, _, _, _, e, _⟩ | ⟨_, _, _, _, e, _⟩
  · cases r; rfl
  · cases e
  · cases e
theorem RdV.bl {i : Bool} (r : RdV K G H v (.bl i)) : v = .bl i := by
  rcases r with r | ⟨_, _, _, _, e, _⟩ | ⟨_, _, _, _, e, _⟩
  · cases r; rfl
  · cases e
  · cases e
theorem RdV.non (r : RdV K G H v .non) : v = .non := by
  rcases r with r | ⟨_, _, _, _, e, _⟩ | ⟨_, _, _, _, e, _⟩
  · cases r; rfl
  · cases e
  · cases e
theorem RdV.scr {ns : List Int} (r : RdV K G H v (.scr ns)) : ∃ a, v = .ref a ∧ SqL K G a (ns.map V.int) := by
  rcases r with r | ⟨_, _, _, _, e, _⟩ | ⟨_, _, _, _, e, _⟩
  · cases r with | scr h => exact ⟨_, rfl, h⟩
  · cases e
  · cases e
theorem EnvW.gone (e : EnvW K B G ω ρ σ H) {a : Addr} (h : H a = none) : B.A0 a ∨ B.H0 a = none := e.keep.gone h
theorem EnvW.tab (e : EnvW K B G ω ρ σ H) {a : Addr} (h : B.tab a) : G a = none ∧ ω a = none ∧ ∃ ps, H a = some (.tbl ps) := by
  obtain ⟨h1, h2, ps, h3⟩ := e.keep.tin a h
  refine ⟨?_, ?_, e.keep.isT h⟩
  · cases q : G a with
    | none => rfl
    | some o =>
      rcases e.g0 a o q with z | z | z
      · rw [h1] at z; cases z
      · rw [h3] at z; cases z
      · exact absurd z h2
  · cases q : ω a with
    | none => rfl
    | some i =>
      rcases (e.own a i q).2.2 with z | z
      · exact absurd z h2
      · rw [h3] at z; cases z
theorem EnvW.grow (e : EnvW K B G ω ρ σ H) (g : Same G G') (h : Same H H') (gl : Same G' H') (hn : ∀ a o, G' a = some o → G a = some o ∨ H a = none) : EnvW K B G' ω ρ σ H' where
  gle := gl
  g0 := fun a o q => by
    rcases hn a o q with q | q
    · exact e.g0 a o q
    · rcases e.gone q with z | z
      · exact .inr (.inr z)
      · exact .inr (.inl z)
  keep := e.keep.mono g h
  own := fun a i q => by
    obtain ⟨h1, h2, h3⟩ := e.own a i q
    refine ⟨?_, ?_, h3⟩
    · cases z : G' a with
      | none => rfl
      | some o =>
        rcases hn a o z with z | z
        · rw [h1] at z; cases z
        · exact absurd z h2
    · intro z
      cases w : H a with
      | none => exact h2 w
      | some o => rw [h a o w] at z; cases z
  len := e.len
  slot := fun i s q => (e.slot i s q).mono g fun a z => ⟨z, by
    obtain ⟨_, h2, _⟩ := e.own a i z
    cases w : H a with
    | none => exact absurd w h2
    | some o => exact h a o w⟩
  pin := e.pin
theorem same_upd {p : Addr} {o : HO} (h : H p = none) : Same H (upd H p o) := fun b x e => by
  rw [upd_ne (ne_of_none e h)]; exact e
theorem same_upd2 {p : Addr} {o : HO} (s : Same G H) : Same (upd G p o) (upd H p o) := fun b x e => by
  by_cases hb : b = p
  · subst hb; rw [upd_same] at e ⊢; exact e
  · rw [upd_ne hb] at e ⊢; exact s _ _ e
theorem Same.none {a : Addr} (s : Same G H) (h : H a = none) : G a = none := by
  cases q : G a with
  | none => rfl
  | some o => rw [s a o q] at h; cases h
theorem EnvW.newG (e : EnvW K B G ω ρ σ H) {p : Addr} {o : HO} (h : H p = none) : Same G (upd G p o) ∧ EnvW K B (upd G p o) ω ρ σ (upd H p o) := by
  have hg := Same.none e.gle h
  refine ⟨same_upd hg, e.grow (same_upd hg) (same_upd h) (same_upd2 e.gle) fun a u q => ?_⟩
  by_cases hb : a = p
  · subst hb; exact .inr h
  · rw [upd_ne hb] at q; exact .inl q
def tagd (ω : Own) (p : Addr) (i : Nat) : Own := fun a => if a = p then some i else if ω a = some i then none else ω a
def untag (ω : Own) (i : Nat) : Own := fun a => if ω a = some i then none else ω a
def retag (ω : Own) (i j : Nat) : Own := fun a => if ω a = some i then some j else if ω a = some j then none else ω a
theorem untag_some {i j : Nat} {a : Addr} (h : untag ω i a = some j) : ω a = some j ∧ j ≠ i := by
  unfold untag at h
  split at h
  · cases h
  · rename_i n; exact ⟨h, fun z => n (z ▸ h)⟩
theorem untag_ne {i j : Nat} {a : Addr} (hj : j ≠ i) (h : ω a = some j) : untag ω i a = some j := by
  unfold untag
  rw [if_neg (fun z => by rw [h] at z; exact hj (Option.some.inj z))]; exact h
theorem EnvW.newW (e : EnvW K B G ω ρ σ H) {p : Addr} {o : HO} (h : H p = none) : EnvW K B G (tagd ω p σ.length) ρ σ (upd H p o) where
  gle := fun a u q => same_upd h _ _ (e.gle a u q)
  g0 := e.g0
  keep := e.keep.mono (.refl _) (same_upd h)
  own := fun a i q => by
    unfold tagd at q
    by_cases ha : a = p
    · subst ha
      refine ⟨Same.none e.gle h, by rw [upd_same]; simp, e.gone h⟩
    · rw [if_neg ha] at q
      split at q
      · cases q
      · obtain ⟨h1, h2, h3⟩ := e.own a i q
        exact ⟨h1, by rw [upd_ne ha]; exact h2, h3⟩
  len := e.len
  slot := fun j s q => (e.slot j s q).mono (.refl _) fun a z => by
    obtain ⟨_, h2, _⟩ := e.own a j z
    have ha : a ≠ p := fun w => h2 (w ▸ h)
    refine ⟨?_, upd_ne ha⟩
    unfold tagd
    have : j < ρ.length := (List.getElem?_eq_some_iff.mp q).1
    have := e.len
    rw [if_neg ha, if_neg (fun w => by rw [z] at w; have := Option.some.inj w; omega)]
    exact z
  pin := e.pin
theorem tagd_same {p : Addr} {i : Nat} : tagd ω p i p = some i := by unfold tagd; rw [if_pos rfl]
theorem EnvW.newL (e : EnvW K B G ω ρ σ H) {p : Addr} {vs : List V} {ds : List D} (h : H p = none) (r : RpL K G vs ds) : Fin K B G ρ σ (upd H p (.lst vs)) (.ref p) (.nw (.ls ds)) :=
  ⟨_, e.newW h, rfl, p, vs, rfl, tagd_same, upd_same, r⟩
theorem EnvW.newD (e : EnvW K B G ω ρ σ H) {p : Addr} {vs : List (Key × V)} {ds : List (Key × D)} (h : H p = none) (r : RpK K G vs ds) : Fin K B G ρ σ (upd H p (.dK vs)) (.ref p) (.nw (.dc ds)) :=
  ⟨_, e.newW h, rfl, p, vs, rfl, tagd_same, upd_same, r⟩
theorem EnvW.newT (e : EnvW K B G ω ρ σ H) {p : Addr} {vs : List V} {ds : List D} (h : H p = none) (r : RpL K G vs ds) :
    Same G (upd G p (.tup vs)) ∧ Fin K B (upd G p (.tup vs)) ρ σ (upd H p (.tup vs)) (.ref p) (.dat (.tup ds)) := by
  obtain ⟨s, e'⟩ := e.newG (o := .tup vs) h
  exact ⟨s, ω, e', .tup (.inl (.inl upd_same)) (r.mono s)⟩
theorem EnvW.freeze (e : EnvW K B G ω ρ σ H) {p : Addr} {i : Nat} {o : HO} (hp : ω p = some i) (ho : H p = some o) (hi : ∀ s, ρ[i]? = some s → s.own = true → False) :
    Same G (upd G p o) ∧ EnvW K B (upd G p o) (untag ω i) ρ σ H := by
  obtain ⟨g1, g2, g3⟩ := e.own p i hp
  have sg : Same G (upd G p o) := same_upd g1
  refine ⟨sg, ⟨fun a u q => ?_, fun a u q => ?_, e.keep.g sg, fun a j q => ?_, e.len, fun j s q => ?_, e.pin⟩⟩
  · by_cases ha : a = p
    · subst ha; rw [upd_same] at q; rw [ho]; exact q
    · rw [upd_ne ha] at q; exact e.gle _ _ q
  · by_cases ha : a = p
    · subst ha
      rcases g3 with z | z
      · exact .inr (.inr z)
      · exact .inr (.inl z)
    · rw [upd_ne ha] at q; exact e.g0 _ _ q
  · obtain ⟨q1, q2⟩ := untag_some q
    obtain ⟨h1, h2, h3⟩ := e.own a j q1
    refine ⟨?_, h2, h3⟩
    have ha : a ≠ p := fun z => by subst z; rw [hp] at q1; exact q2 (Option.some.inj q1).symm
    rw [upd_ne ha]; exact h1
  · by_cases hj : j = i
    · subst hj
      have q' := e.slot j s q
      cases s with
      | un => trivial
      | fr d => obtain ⟨v, e1, r⟩ := q'; exact ⟨v, e1, r.mono sg⟩
      | ls _ => exact (hi _ q rfl).elim
      | dc _ => exact (hi _ q rfl).elim
      | rs _ => exact (hi _ q rfl).elim
      | hp _ _ => exact (hi _ q rfl).elim
    · exact (e.slot j s q).mono sg fun a z => ⟨untag_ne hj z, rfl⟩
theorem EnvW.setUn (e : EnvW K B G ω ρ σ H) {i : Nat} {s' : Sl} (hs : SlOk K G H (fun _ => False) σ[i]? s') (ho : s'.own = false) : EnvW K B G (untag ω i) (ρ.set i s') σ H where
  gle := e.gle
  g0 := e.g0
  keep := e.keep
  own := fun a j q => e.own a j (untag_some q).1
  len := by rw [List.length_set]; exact e.len
  slot := fun j s q => by
    by_cases hj : j = i
    · subst hj
      have hl : j < ρ.length := by have := (List.getElem?_eq_some_iff.mp q).1; rwa [List.length_set] at this
      rw [List.getElem?_set_self hl] at q
      cases q
      exact hs.mono (.refl _) fun a z => z.elim
    · rw [List.getElem?_set_ne (Ne.symm hj)] at q
      exact (e.slot j s q).mono (.refl _) fun a z => ⟨untag_ne hj z, rfl⟩
  pin := fun j s v q o p => by
    by_cases hj : j = i
    · subst hj
      have hl : j < ρ.length := by have := (List.getElem?_eq_some_iff.mp q).1; rwa [List.length_set] at this
      rw [List.getElem?_set_self hl] at q
      cases q
      rw [ho] at o; cases o
    · rw [List.getElem?_set_ne (Ne.symm hj)] at q
      exact e.pin j s v q o p
theorem Fin.stl (f : Fin K B G ρ σ H v r) : ∃ G', Same G G' ∧ Fin K B G' ρ σ H v (stl r) := by
  obtain ⟨ω, e, h⟩ := f
  have hi : ∀ s, ρ[σ.length]? = some s → s.own = true → False := fun s q _ => by
    have := (List.getElem?_eq_some_iff.mp q).1
    have := e.len
    omega
  cases r with
  | dat d => exact ⟨G, .refl _, ω, e, h⟩
  | sl i => exact ⟨G, .refl _, ω, e, h⟩
  | nw s =>
    cases s with
    | ls xs =>
      obtain ⟨_, a, vs, ev, hf, hh, rr⟩ := h
      cases ev
      obtain ⟨sg, e'⟩ := e.freeze hf hh hi
      exact ⟨_, sg, _, e', .lst upd_same (rr.mono sg)⟩
    | dc xs =>
      obtain ⟨_, a, vs, ev, hf, hh, rr⟩ := h
      cases ev
      obtain ⟨sg, e'⟩ := e.freeze hf hh hi
      exact ⟨_, sg, _, e', .dct upd_same (rr.mono sg)⟩
    | un => exact ⟨G, .refl _, ω, e, h⟩
    | fr d => exact ⟨G, .refl _, ω, e, h⟩
    | rs r => exact ⟨G, .refl _, ω, e, h⟩
    | hp _ _ => exact ⟨G, .refl _, ω, e, h⟩
theorem RsOk.mono {ω' : Own} {H' : Hp} (s : Same G G') (hr : stl r = r) (hnw : ∀ s, r ≠ .nw s) (h : RsOk K G H ω σ v r) : RsOk K G' H' ω' σ v r := by
  cases r with
  | dat d => exact Rp.mono s h
  | sl i => exact h
  | nw s => exact absurd rfl (hnw s)
theorem EnvW.rd (e : EnvW K B G ω ρ σ H) (h : RsOk K G H ω σ v r) (hv : val ρ r = some d) : RdV K G H v d := by
  cases r with
  | dat d' => cases hv; exact .inl h
  | sl i =>
    have hv' : (match ρ[i]? with | some (.ls xs) => some (D.lst xs) | some (.dc xs) => some (.dct xs) | _ => none) = some d := hv
    cases q : ρ[i]? with
    | none => rw [q] at hv'; cases hv'
    | some s =>
      rw [q] at hv'
      have sl := e.slot i s q
      cases s with
      | ls xs =>
        cases hv'
        obtain ⟨a, vs, e1, _, e3, e4⟩ := sl
        have e5 : σ[i]? = some (some v) := h
        rw [e1] at e5; cases e5
        exact .inr (.inl ⟨a, vs, xs, rfl, rfl, e3, e4⟩)
      | dc xs =>
        cases hv'
        obtain ⟨a, vs, e1, _, e3, e4⟩ := sl
        have e5 : σ[i]? = some (some v) := h
        rw [e1] at e5; cases e5
        exact .inr (.inr ⟨a, vs, xs, rfl, rfl, e3, e4⟩)
      | un => cases hv'
      | fr _ => cases hv'
      | rs _ => cases hv'
      | hp _ _ => cases hv'
  | nw s =>
    cases s with
    | ls xs =>
      cases hv
      obtain ⟨_, a, vs, ev, _, h2, h3⟩ := h
      cases ev
      exact .inr (.inl ⟨a, vs, xs, rfl, rfl, h2, h3⟩)
    | dc xs =>
      cases hv
      obtain ⟨_, a, vs, ev, _, h2, h3⟩ := h
      cases ev
      exact .inr (.inr ⟨a, vs, xs, rfl, rfl, h2, h3⟩)
    | un => cases hv
    | fr _ => cases hv
    | rs _ => cases hv
    | hp _ _ => cases hv
end
def reB (B : Bs) (G : Hp) (ω : Own) (n : Nat) (H : Hp) : Bs := ⟨G, H, fun a => ∃ i, i < n ∧ ω a = some i, B.P, B.T⟩
theorem EnvW.back {K K' : PySem.W.Frag} {B : Bs} {G G' : Hp} {ω ω' : Own} {ρ ρ' : Env} {σ σ' : Stt} {H H' : Hp} {n : Nat} (e : EnvW K B G ω ρ σ H) (f : EnvW K' (reB B G ω n H) G' ω' ρ' σ' H') : EnvW K' B G' ω' ρ' σ' H' where
  gle := f.gle
  g0 := fun a o q => by
    rcases f.g0 a o q with z | z | ⟨i, _, z⟩
    · exact e.g0 a o z
    · rcases e.gone z with y | y
      · exact .inr (.inr y)
      · exact .inr (.inl y)
    · rcases (e.own a i z).2.2 with y | y
      · exact .inr (.inr y)
      · exact .inr (.inl y)
  keep := {
    old := fun a o q n t => f.keep.old a o (e.keep.old a o q n t) (fun ⟨i, _, z⟩ => by
      rcases (e.own a i z).2.2 with y | y
      · exact n y
      · rw [y] at q; cases q) t
    tin := e.keep.tin
    tabs := f.keep.tabs }
  own := fun a i q => by
    obtain ⟨h1, h2, h3⟩ := f.own a i q
    refine ⟨h1, h2, ?_⟩
    rcases h3 with ⟨j, _, z⟩ | z
    · exact (e.own a j z).2.2
    · exact e.gone z
  len := f.len
  slot := f.slot
  pin := f.pin
structure Np where
  n : Nat
  T : List (Addr × Str)
  C : Bs → Prop
def Np.of (T : List (Addr × Str)) (n : Nat) : Np := ⟨n, T, fun _ => True⟩
def Back (B B0 : Bs) : Prop := ∀ (K : PySem.W.Frag) (G : Hp) (ω : Own) (ρ : Env) (σ : Stt) (H : Hp), EnvW K B G ω ρ σ H → EnvW K B0 G ω ρ σ H
structure Np.ok (np : Np) (B : Bs) : Prop where
  n : B.P.length = np.n
  T : B.T = np.T
  c : ∃ B0, np.C B0 ∧ Back B B0
theorem Np.ok.mk' {np : Np} {B : Bs} (h1 : B.P.length = np.n) (h2 : B.T = np.T) (h3 : np.C B) : np.ok B := ⟨h1, h2, B, h3, fun _ _ _ _ _ _ e => e⟩
theorem Np.ok.re {np : Np} {K : PySem.W.Frag} {B : Bs} {G : Hp} {ω : Own} {ρ : Env} {σ : Stt} {H : Hp} {m : Nat} (h : np.ok B) (e : EnvW K B G ω ρ σ H) : np.ok (reB B G ω m H) :=
  ⟨h.n, h.T, let ⟨B0, c, k⟩ := h.c; ⟨B0, c, fun K G ω ρ σ H f => k K G ω ρ σ H (e.back f)⟩⟩
end TL
namespace TL
open PySem PySem.Spec PyProof.Rows L2
abbrev DTE := Env → (Rs → Env → Prop) → Prop
abbrev DTT := Env → (Bool → Env → Prop) → Prop
abbrev DTA := Env → (List Rs → Env → Prop) → Prop
structure DEnds where
  nx : Env → Prop
  rt : Rs → Env → Prop
  bk : Env → Prop := fun _ => False
  ct : Env → Prop := fun _ => False
abbrev DTS := DEnds → Env → Prop
def lift (K : PySem.W.Frag) (np : Np) (t : DTE) : TE := fun σ H Q => ∃ B G ρ Qd, np.ok B ∧ EnvOk K B G ρ σ H ∧ t ρ Qd ∧
  ∀ G' v r ρ' H', Same G G' → Fin K B G' ρ' σ H' v r → Qd r ρ' → Q v H'
def liftT (K : PySem.W.Frag) (np : Np) (t : DTT) : TT := fun σ H Q => ∃ B G ρ Qd, np.ok B ∧ EnvOk K B G ρ σ H ∧ t ρ Qd ∧
  ∀ G' b ρ' H', Same G G' → EnvOk K B G' ρ' σ H' → Qd b ρ' → Q b H'
inductive ArgOk (K : PySem.W.Frag) (G : Hp) (σ : Stt) : V → Rs → Prop
  | dat {v : V} {d : D} : Rp K G v d → ArgOk K G σ v (.dat d)
  | sl {v : V} {i : Nat} : σ[i]? = some (some v) → ArgOk K G σ v (.sl i)
abbrev ArgsOk (K : PySem.W.Frag) (G : Hp) (σ : Stt) : List V → List Rs → Prop := Paired (ArgOk K G σ)
def liftA (K : PySem.W.Frag) (np : Np) (t : DTA) : TA := fun σ H Q => ∃ B G ρ Qd, np.ok B ∧ EnvOk K B G ρ σ H ∧ t ρ Qd ∧
  ∀ G' vs rs ρ' H', Same G G' → EnvOk K B G' ρ' σ H' → ArgsOk K G' σ vs rs → Qd rs ρ' → Q vs H'
def liftS (K : PySem.W.Frag) (np : Np) (t : DTS) : TS := fun D σ H => ∃ B G ρ Dd, np.ok B ∧ EnvOk K B G ρ σ H ∧ t Dd ρ ∧
  (∀ G' ρ' σ' H', Same G G' → EnvOk K B G' ρ' σ' H' → Dd.nx ρ' → D.nx σ' H') ∧
  (∀ G' v r ρ' σ' H', Same G G' → Fin K B G' ρ' σ' H' v r → Dd.rt r ρ' → D.rt v H') ∧
  (∀ G' ρ' σ' H', Same G G' → EnvOk K B G' ρ' σ' H' → Dd.bk ρ' → D.bk σ' H') ∧
  (∀ G' ρ' σ' H', Same G G' → EnvOk K B G' ρ' σ' H' → Dd.ct ρ' → D.ct σ' H')
section
variable {X : Cx} {e : Expr} {es : List Expr} {st : Stmt} {sts : List Stmt}
theorem _root_.L2.PE.mo {t t' : TE} (h : PE X e t) (m : ∀ σ H Q, t' σ H Q → t σ H Q) : PE X e t' := ⟨fun pins s σ H Q I q => h.run pins s σ H Q I (m _ _ _ q)⟩
theorem _root_.L2.PT.mo {t t' : TT} (h : PT X e t) (m : ∀ σ H Q, t' σ H Q → t σ H Q) : PT X e t' := ⟨fun pins s σ H Q I q => h.run pins s σ H Q I (m _ _ _ q)⟩
theorem _root_.L2.PW.mo {t t' : TT} (h : PW X e t) (m : ∀ σ H Q, t' σ H Q → t σ H Q) : PW X e t' := ⟨fun wh pins s σ H Q I q => h.run wh pins s σ H Q I (m _ _ _ q)⟩
theorem _root_.L2.PA.mo {t t' : TA} (h : PA X es t) (m : ∀ σ H Q, t' σ H Q → t σ H Q) : PA X es t' := ⟨fun pos pins s σ H Q I q => h.run pos pins s σ H Q I (m _ _ _ q)⟩
theorem _root_.L2.PS.mo {t t' : TS} (h : PS X st t) (m : ∀ D σ H, t' D σ H → t D σ H) : PS X st t' := ⟨fun pins s σ H D I q => h.run pins s σ H D I (m _ _ _ q)⟩
theorem _root_.L2.PSs.mo {t t' : TS} (h : PSs X sts t) (m : ∀ D σ H, t' D σ H → t D σ H) : PSs X sts t' := ⟨fun pins s σ H D I q => h.run pins s σ H D I (m _ _ _ q)⟩
end
def W1 (o : Option D) (P : D → Prop) : Prop := match o with | some x => P x | none => False
def W2 (o p : Option D) (P : D → D → Prop) : Prop := match o, p with | some x, some y => P x y | _, _ => False
def WB (o : Option D) (P : Bool → Prop) : Prop := match o with | some (.bl b) => P b | _ => False
def vals (ρ : Env) : List Rs → Option (List D)
  | [] => some []
  | r :: rs => match val ρ r, vals ρ rs with | some d, some ds => some (d :: ds) | _, _ => none
def WL (o : Option (List D)) (P : List D → Prop) : Prop := match o with | some x => P x | none => False
def datL : List Rs → Option (List D)
  | [] => some []
  | .dat d :: rs => match datL rs with | some ds => some (d :: ds) | none => none
  | _ :: _ => none
def dVar (i : Nat) : DTE := fun ρ Q => match ρ[i]? with
  | some (.fr d) => Q (.dat d) ρ
  | some .un => False
  | none => False
  | some (.hp none _) => False
  | some _ => Q (.sl i) ρ
def dC (d : D) : DTE := fun ρ Q => Q (.dat d) ρ
def dFrz (t : DTE) : DTE := fun ρ Q => t ρ fun r ρ1 => match stl r with
  | .dat d => Q (.dat d) ρ1
  | .sl i => (match ρ1[i]? with
    | some (.ls xs) => Q (.dat (.lst xs)) (ρ1.set i (.fr (.lst xs)))
    | some (.dc xs) => Q (.dat (.dct xs)) (ρ1.set i (.fr (.dct xs)))
    | _ => False)
  | _ => False
abbrev DOp1 := D → (Rs → Prop) → Prop
abbrev DOp2 := D → D → (Rs → Prop) → Prop
abbrev DOpL := List D → (Rs → Prop) → Prop
def dUn (g : DOp1) (ta : DTE) : DTE := fun ρ Q => ta ρ fun ra ρ1 => W1 (val ρ1 ra) fun x => g x fun r => Q r ρ1
def dBin (g : DOp2) (ta tb : DTE) : DTE := fun ρ Q => ta ρ fun ra ρ1 => tb ρ1 fun rb ρ2 => W2 (val ρ2 (stl ra)) (val ρ2 rb) fun x y => g x y fun r => Q r ρ2
def dNil : DTA := fun ρ Q => Q [] ρ
def dCons (t : DTE) (ts : DTA) : DTA := fun ρ Q => t ρ fun r ρ1 => match stl r with
  | .nw _ => False
  | r' => ts ρ1 fun rs ρ2 => Q (r' :: rs) ρ2
def dTup (t : DTA) : DTE := fun ρ Q => t ρ fun rs ρ1 => WL (datL rs) fun ds => ds.length ≤ sizeLine ∧ Q (.dat (.tup ds)) ρ1
def dLst (t : DTA) : DTE := fun ρ Q => t ρ fun rs ρ1 => WL (datL rs) fun ds => ds.length ≤ sizeLine ∧ Q (.nw (.ls ds)) ρ1
def dCB (g : DOpL) (t : DTA) : DTE := fun ρ Q => t ρ fun rs ρ1 => WL (vals ρ1 rs) fun ds => g ds fun r => Q r ρ1
def dTst (t : DTE) : DTT := fun ρ Q => t ρ fun r ρ1 => WB (val ρ1 r) fun b => Q b ρ1
def dOrT (t u : DTT) : DTT := fun ρ Q => t ρ fun c ρ1 => if c = true then Q true ρ1 else u ρ1 Q
def dNotT (t : DTT) : DTT := fun ρ Q => t ρ fun c ρ1 => Q (!c) ρ1
def dAndV (t u : DTE) : DTE := fun ρ Q => t ρ fun r ρ1 => WB (val ρ1 r) fun c => if c = true then u ρ1 Q else Q (.dat (.bl false)) ρ1
def dIfE (c : DTT) (t u : DTE) : DTE := fun ρ Q => c ρ fun b ρ1 => if b = true then t ρ1 Q else u ρ1 Q
theorem W1.of {o : Option D} {P : D → Prop} (h : W1 o P) : ∃ x, o = some x ∧ P x := by
  cases o with
  | none => exact h.elim
  | some x => exact ⟨x, rfl, h⟩
theorem W2.of {o p : Option D} {P : D → D → Prop} (h : W2 o p P) : ∃ x y, o = some x ∧ p = some y ∧ P x y := by
  cases o with
  | none => exact (show False from h).elim
  | some x =>
    cases p with
    | none => exact (show False from h).elim
    | some y => exact ⟨x, y, rfl, rfl, h⟩
theorem WB.of {o : Option D} {P : Bool → Prop} (h : WB o P) : ∃ b, o = some (.bl b) ∧ P b := by
  cases o with
  | none => exact (show False from h).elim
  | some x =>
    cases x with
    | bl b => exact ⟨b, rfl, h⟩
    | _ => exact (show False from h).elim
theorem WL.of {o : Option (List D)} {P : List D → Prop} (h : WL o P) : ∃ x, o = some x ∧ P x := by
  cases o with
  | none => exact h.elim
  | some x => exact ⟨x, rfl, h⟩
inductive RdL (K : PySem.W.Frag) (G H : Hp) : List V → List D → Prop
  | nil : RdL K G H [] []
  | cons {v : V} {vs : List V} {d : D} {ds : List D} : RdV K G H v d → RdL K G H vs ds → RdL K G H (v :: vs) (d :: ds)
def C1 (np : Np) (K : PySem.W.Frag) (r : V → Hp → VK → Prop) (g : DOp1) : Prop :=
  ∀ {B : Bs} {G : Hp} {ω : Own} {ρ : Env} {σ : Stt} {H : Hp} {v : V} {x : D} {P : Rs → Prop} {Q : VK}, np.ok B → EnvW K B G ω ρ σ H → RdV K G H v x → g x P →
    (∀ G' v' r' H', Same G G' → Fin K B G' ρ σ H' v' r' → P r' → Q v' H') → r v H Q
def C2 (np : Np) (K : PySem.W.Frag) (r : R2) (g : DOp2) : Prop :=
  ∀ {B : Bs} {G : Hp} {ω : Own} {ρ : Env} {σ : Stt} {H : Hp} {v w : V} {x y : D} {P : Rs → Prop} {Q : VK}, np.ok B → EnvW K B G ω ρ σ H → RdV K G H v x → RdV K G H w y → g x y P →
    (∀ G' v' r' H', Same G G' → Fin K B G' ρ σ H' v' r' → P r' → Q v' H') → r v w H Q
def CL (np : Np) (K : PySem.W.Frag) (r : List V → Hp → VK → Prop) (g : DOpL) : Prop :=
  ∀ {B : Bs} {G : Hp} {ω : Own} {ρ : Env} {σ : Stt} {H : Hp} {vs : List V} {xs : List D} {P : Rs → Prop} {Q : VK}, np.ok B → EnvW K B G ω ρ σ H → RdL K G H vs xs → g xs P →
    (∀ G' v' r' H', Same G G' → Fin K B G' ρ σ H' v' r' → P r' → Q v' H') → r vs H Q
section
variable {K : PySem.W.Frag} {B : Bs} {G G' : Hp} {ω : Own} {ρ : Env} {σ : Stt} {H H' : Hp}
theorem ArgOk.mono {v : V} {r : Rs} (s : Same G G') (h : ArgOk K G σ v r) : ArgOk K G' σ v r := by
  cases h with
  | dat h => exact .dat (h.mono s)
  | sl h => exact .sl h
theorem ArgOk.rs {v : V} {r : Rs} (h : ArgOk K G σ v r) : RsOk K G H ω σ v r := by
  cases h with
  | dat h => exact h
  | sl h => exact h
theorem ArgsOk.rd (e : EnvW K B G ω ρ σ H) : ∀ {vs : List V} {rs : List Rs} {ds : List D}, ArgsOk K G σ vs rs → vals ρ rs = some ds → RdL K G H vs ds
  | _, _, _, .nil, h => by cases h; exact .nil
  | v :: vs, r :: rs, ds, .cons a t, h => by
    unfold vals at h
    cases h1 : val ρ r with
    | none => rw [h1] at h; cases h
    | some d =>
      cases h2 : vals ρ rs with
      | none => rw [h1, h2] at h; cases h
      | some ds' =>
        rw [h1, h2] at h
        cases h
        exact .cons (e.rd (a.rs (ω := ω)) h1) (ArgsOk.rd e t h2)
theorem ArgsOk.dat : ∀ {vs : List V} {rs : List Rs} {ds : List D}, ArgsOk K G σ vs rs → datL rs = some ds → RpL K G vs ds
  | _, _, _, .nil, h => by cases h; exact .nil
  | v :: vs, r :: rs, ds, .cons a t, h => by
    cases r with
    | dat d =>
      unfold datL at h
      cases h2 : datL rs with
      | none => rw [h2] at h; cases h
      | some ds' =>
        rw [h2] at h
        cases h
        cases a with
        | dat a => exact .cons a (ArgsOk.dat t h2)
    | sl i => cases h
    | nw s => cases h
theorem RdL.one {vs : List V} {d : D} (h : RdL K G H vs [d]) : ∃ v, vs = [v] ∧ RdV K G H v d := by
  cases h with
  | cons a t => cases t; exact ⟨_, rfl, a⟩
theorem RdL.two {vs : List V} {d e : D} (h : RdL K G H vs [d, e]) : ∃ v w, vs = [v, w] ∧ RdV K G H v d ∧ RdV K G H w e := by
  cases h with
  | cons a t =>
    cases t with
    | cons b t => cases t; exact ⟨_, _, rfl, a, b⟩
end
section
variable {X : Cx} {a b c e : Expr} {es : List Expr} {ta tb : DTE} {tc td : DTT} {ts : DTA} {pos : Pos} {np : Np}
theorem d_var (i : Nat) {x : Str} (hN : X.N[i]? = some x := by rfl) (hv : Vis X.env.scope x := by first | exact Or.inl rfl | exact Or.inr (Or.inl rfl) | exact Or.inr (Or.inr rfl)) (hd : (x == ("__debug__" : Str)) = false := by decide)
    (hcd : (x == ("__classdict__" : Str)) = false := by decide) : PE X (.Name x pos) (lift X.K np (dVar i)) := by
  refine (pe_var (i := i) hN hv hd hcd).mo fun σ H Q h => ?_
  obtain ⟨B, G, ρ, Qd, _, ⟨ω, ew⟩, h, k⟩ := h
  unfold dVar at h
  cases q : ρ[i]? with
  | none => rw [q] at h; exact h.elim
  | some s =>
    rw [q] at h
    have sl := ew.slot i s q
    cases s with
    | un => exact h.elim
    | fr d =>
      obtain ⟨v, e1, r⟩ := sl
      exact ⟨v, e1, k _ _ _ _ _ (.refl _) (ew.dat r) h⟩
    | ls xs =>
      obtain ⟨p, vs, e1, r⟩ := sl
      exact ⟨.ref p, e1, k _ _ (.sl i) _ _ (.refl _) ⟨ω, ew, e1⟩ h⟩
    | dc xs =>
      obtain ⟨p, vs, e1, r⟩ := sl
      exact ⟨.ref p, e1, k _ _ (.sl i) _ _ (.refl _) ⟨ω, ew, e1⟩ h⟩
    | rs xs =>
      obtain ⟨v, e1, r⟩ := sl
      exact ⟨v, e1, k _ _ (.sl i) _ _ (.refl _) ⟨ω, ew, e1⟩ h⟩
    | hp r os =>
      cases r with
      | none => exact h.elim
      | some a => exact ⟨.ref a, sl.1 a rfl, k _ _ (.sl i) _ _ (.refl _) ⟨ω, ew, sl.1 a rfl⟩ h⟩
theorem d_const {t : TE} {v : V} {d : D} (h : PE X e t) (ht : ∀ σ H Q, Q v H → t σ H Q) (r : ∀ G, Rp X.K G v d) : PE X e (lift X.K np (dC d)) :=
  h.mo fun σ H Q ⟨B, G, ρ, Qd, _, eo, h, k⟩ => ht σ H Q (k _ _ _ _ _ (.refl _) (eo.dat (r G)) h)
theorem d_int {i j pos} : PE X (.Constant (.int i) j pos) (lift X.K np (dC (.int i))) := d_const pe_int (fun _ _ _ q => q) fun _ => .int i
theorem d_bl {i j pos} : PE X (.Constant (.bool i) j pos) (lift X.K np (dC (.bl i))) := d_const pe_bl (fun _ _ _ q => q) fun _ => .bl i
theorem d_non {j pos} : PE X (.Constant .none j pos) (lift X.K np (dC .non)) := d_const pe_non (fun _ _ _ q => q) fun _ => .non
theorem d_str {i j pos} : PE X (.Constant (.str i) j pos) (lift X.K np (dC (.str i))) := d_const pe_str (fun _ _ _ q => q) fun _ => .str i
theorem d_glob {x : Str} {v : V} {u : Value} {d : D} (hg : Gl X x) (hm : X.mg x = some u) (r : RelV v u) (rd : ∀ G, Rp X.K G v d) (hd : (x == ("__debug__" : Str)) = false := by decide) : PE X (.Name x pos) (lift X.K np (dC d)) :=
  d_const (pe_glob hg hm r hd) (fun _ _ _ q => q) rd
theorem d_frz (h : PE X e (lift X.K np ta)) : PE X e (lift X.K np (dFrz ta)) := by
  refine h.mo fun σ H Q h => ?_
  obtain ⟨B, G, ρ, Qd, hn, eo, h, k⟩ := h
  refine ⟨B, G, ρ, _, hn, eo, h, fun G1 v r ρ1 H1 s1 f1 q1 => ?_⟩
  obtain ⟨G2, s2, f2⟩ := f1.stl
  cases hr : stl r with
  | dat d =>
    rw [hr] at q1 f2
    exact k _ _ _ _ _ (s1.trans s2) f2 q1
  | nw s => rw [hr] at q1; exact q1.elim
  | sl i =>
    rw [hr] at q1 f2
    dsimp only at q1
    obtain ⟨ω2, e2, r2⟩ := f2
    have r2' : σ[i]? = some (some v) := r2
    cases q : ρ1[i]? with
    | none => rw [q] at q1; exact q1.elim
    | some s =>
      rw [q] at q1
      have sl := e2.slot i s q
      have hl : i < ρ1.length := (List.getElem?_eq_some_iff.mp q).1
      cases s with
      | un => exact q1.elim
      | fr _ => exact q1.elim
      | rs _ => exact q1.elim
      | hp _ _ => exact q1.elim
      | ls xs =>
        obtain ⟨p, vs, e1, f, hp, rr⟩ := sl
        rw [r2'] at e1
        cases e1
        have e3 := e2.setUn (i := i) (s' := .un) trivial rfl
        have eb : EnvW X.K B G2 ω2 (ρ1.set i .un) σ H1 := ⟨e2.gle, e2.g0, e2.keep, e2.own, by rw [List.length_set]; exact e2.len, fun j s qj => by
          by_cases hj : j = i
          · subst hj; rw [List.getElem?_set_self hl] at qj; cases qj; trivial
          · rw [List.getElem?_set_ne (Ne.symm hj)] at qj; exact e2.slot j s qj, fun j s w qj o p' => by
          by_cases hj : j = i
          · subst hj; rw [List.getElem?_set_self hl] at qj; cases qj; cases o
          · rw [List.getElem?_set_ne (Ne.symm hj)] at qj; exact e2.pin j s w qj o p'⟩
        obtain ⟨sg, e4⟩ := eb.freeze f hp fun s qs o => by rw [List.getElem?_set_self hl] at qs; cases qs; cases o
        have rp : Rp X.K (upd G2 p (.lst vs)) (.ref p) (.lst xs) := .lst upd_same (rr.mono sg)
        have e5 := e4.setUn (i := i) (s' := .fr (.lst xs)) ⟨.ref p, r2', rp⟩ rfl
        rw [List.set_set] at e5
        exact k _ _ (.dat _) _ _ ((s1.trans s2).trans sg) ⟨_, e5, rp⟩ q1
      | dc xs =>
        obtain ⟨p, vs, e1, f, hp, rr⟩ := sl
        rw [r2'] at e1
        cases e1
        have eb : EnvW X.K B G2 ω2 (ρ1.set i .un) σ H1 := ⟨e2.gle, e2.g0, e2.keep, e2.own, by rw [List.length_set]; exact e2.len, fun j s qj => by
          by_cases hj : j = i
          · subst hj; rw [List.getElem?_set_self hl] at qj; cases qj; trivial
          · rw [List.getElem?_set_ne (Ne.symm hj)] at qj; exact e2.slot j s qj, fun j s w qj o p' => by
          by_cases hj : j = i
          · subst hj; rw [List.getElem?_set_self hl] at qj; cases qj; cases o
          · rw [List.getElem?_set_ne (Ne.symm hj)] at qj; exact e2.pin j s w qj o p'⟩
        obtain ⟨sg, e4⟩ := eb.freeze f hp fun s qs o => by rw [List.getElem?_set_self hl] at qs; cases qs; cases o
        have rp : Rp X.K (upd G2 p (.dK vs)) (.ref p) (.dct xs) := .dct upd_same (rr.mono sg)
        have e5 := e4.setUn (i := i) (s' := .fr (.dct xs)) ⟨.ref p, r2', rp⟩ rfl
        rw [List.set_set] at e5
        exact k _ _ (.dat _) _ _ ((s1.trans s2).trans sg) ⟨_, e5, rp⟩ q1
theorem two_ok {r : R2} {g : DOp2} (hc : C2 np X.K r g) (σ : Stt) (H : Hp) (Q : VK) (h : lift X.K np (dBin g ta tb) σ H Q) : tOp r (lift X.K np ta) (lift X.K np tb) σ H Q := by
  obtain ⟨B, G, ρ, Qd, hn, eo, h, k⟩ := h
  refine ⟨B, G, ρ, _, hn, eo, h, fun G1 v ra ρ1 H1 s1 f1 q1 => ?_⟩
  obtain ⟨G2, s2, f2⟩ := f1.stl
  refine ⟨B, G2, ρ1, _, hn, f2.env, q1, fun G3 w rb ρ2 H2 s3 f3 q2 => ?_⟩
  obtain ⟨x, y, ex, ey, q2⟩ := W2.of q2
  obtain ⟨ω2, e2, r2⟩ := f2
  obtain ⟨ω3, e3, r3⟩ := f3
  have ra' : RsOk X.K G3 H2 ω3 σ v (stl ra) := by
    cases hr : stl ra with
    | dat d => rw [hr] at r2; exact Rp.mono s3 r2
    | sl i => rw [hr] at r2; exact r2
    | nw s =>
      cases ra with
      | dat d => cases hr
      | sl i => cases hr
      | nw s' =>
        cases s' with
        | ls _ => cases hr
        | dc _ => cases hr
        | un => cases ex
        | fr _ => cases ex
        | rs _ => cases ex
        | hp _ _ => cases ex
  exact hc hn e3 (e3.rd ra' ex) (e3.rd r3 ey) q2 fun G' v' r' H' s f p => k _ _ _ _ _ (((s1.trans s2).trans s3).trans s) f p
theorem d_bin {op : Operator} {r : R2} {g : DOp2} (ho : OpR X (binaryOp op) r) (hc : C2 np X.K r g) (ha : PE X a (lift X.K np ta)) (hb : PE X b (lift X.K np tb)) : PE X (.BinOp a op b pos) (lift X.K np (dBin g ta tb)) :=
  (pe_op ho ha hb).mo fun σ H Q h => two_ok hc σ H Q h
theorem d_cmp {op : CmpOp} {r : R2} {g : DOp2} (ho : OpR X (compareOp op) r) (hc : C2 np X.K r g) (ha : PE X a (lift X.K np ta)) (hb : PE X b (lift X.K np tb)) (hm : behindInMarks op b = false) : PE X (.Compare a [op] [b] pos) (lift X.K np (dBin g ta tb)) :=
  (pe_cmpR ho ha hb hm).mo fun σ H Q h => two_ok hc σ H Q h
theorem tst_ok {t : TE} {td : DTE} (m : ∀ σ H Q, lift X.K np td σ H Q → t σ H Q) (σ : Stt) (H : Hp) (Q : Bool → Hp → Prop) (h : liftT X.K np (dTst td) σ H Q) : tTest t σ H Q := by
  obtain ⟨B, G, ρ, Qd, hn, eo, h, k⟩ := h
  refine m σ H _ ⟨B, G, ρ, _, hn, eo, h, fun G1 v r ρ1 H1 s1 f1 q1 => ?_⟩
  obtain ⟨b, eb, q1⟩ := WB.of q1
  obtain ⟨ω, e, rr⟩ := f1
  exact ⟨b, (e.rd rr eb).bl, k _ _ _ _ s1 ⟨ω, e⟩ q1⟩
theorem d_cmpT {op : CmpOp} {r : R2} {g : DOp2} (ho : OpR X (compareOp op) r) (hc : C2 np X.K r g) (ha : PE X a (lift X.K np ta)) (hb : PE X b (lift X.K np tb)) (hm : behindInMarks op b = false) : PT X (.Compare a [op] [b] pos) (liftT X.K np (dTst (dBin g ta tb))) :=
  (pt_cmpR ho ha hb hm).mo fun σ H Q h => tst_ok (fun σ H Q h => two_ok hc σ H Q h) σ H Q h
theorem d_tst (h : PE X e (lift X.K np ta)) (he : ∀ whole, isTrue e X.env whole = (do let v ← whole; standAt e.pos; holding [v] (truthy v)) := by intro _; rfl) : PT X e (liftT X.K np (dTst ta)) :=
  (pt_val h he).mo fun σ H Q h => tst_ok (fun _ _ _ h => h) σ H Q h
theorem d_un {op : UnaryOp} {r : V → Hp → VK → Prop} {g : DOp1} (ho : UnR X (unaryOp op) r) (hc : C1 np X.K r g) (ha : PE X a (lift X.K np ta)) : PE X (.UnaryOp op a pos) (lift X.K np (dUn g ta)) := by
  refine (pe_un ho ha).mo fun σ H Q h => ?_
  obtain ⟨B, G, ρ, Qd, hn, eo, h, k⟩ := h
  refine ⟨B, G, ρ, _, hn, eo, h, fun G1 v ra ρ1 H1 s1 f1 q1 => ?_⟩
  obtain ⟨x, ex, q1⟩ := W1.of q1
  obtain ⟨ω, e, rr⟩ := f1
  exact hc hn e (e.rd rr ex) q1 fun G' v' r' H' s f p => k _ _ _ _ _ (s1.trans s) f p
theorem d_or1T (h : PT X a (liftT X.K np tc)) : PW X (.BoolOp .Or [a] pos) (liftT X.K np tc) := pw_or1 h
theorem d_orT (h : PT X a (liftT X.K np tc)) (h2 : PW X (.BoolOp .Or (b :: es) pos) (liftT X.K np td)) : PW X (.BoolOp .Or (a :: b :: es) pos) (liftT X.K np (dOrT tc td)) := by
  refine (pw_or h h2).mo fun σ H Q h => ?_
  obtain ⟨B, G, ρ, Qd, hn, eo, h, k⟩ := h
  refine ⟨B, G, ρ, _, hn, eo, h, fun G1 c ρ1 H1 s1 e1 q1 => ?_⟩
  cases c with
  | false => exact iteF ⟨B, G1, ρ1, Qd, hn, e1, q1, fun G' b ρ' H' s e q => k _ _ _ _ (s1.trans s) e q⟩
  | true => exact iteT (k _ _ _ _ s1 e1 q1)
theorem d_notT (h : PT X a (liftT X.K np tc)) : PT X (.UnaryOp .Not a pos) (liftT X.K np (dNotT tc)) := by
  refine (pt_not h).mo fun σ H Q h => ?_
  obtain ⟨B, G, ρ, Qd, hn, eo, h, k⟩ := h
  exact ⟨B, G, ρ, _, hn, eo, h, fun G1 c ρ1 H1 s1 e1 q1 => k _ _ _ _ s1 e1 q1⟩
theorem d_one {op} (h : PE X a (lift X.K np ta)) : PE X (.BoolOp op [a] pos) (lift X.K np ta) := pe_one h
theorem d_and (ha : PE X a (lift X.K np ta)) (hb : PE X (.BoolOp .And (b :: es) pos) (lift X.K np tb)) : PE X (.BoolOp .And (a :: b :: es) pos) (lift X.K np (dAndV ta tb)) := by
  refine (pe_and ha hb).mo fun σ H Q h => ?_
  obtain ⟨B, G, ρ, Qd, hn, eo, h, k⟩ := h
  refine ⟨B, G, ρ, _, hn, eo, h, fun G1 v r ρ1 H1 s1 f1 q1 => ?_⟩
  obtain ⟨c, eb, q1⟩ := WB.of q1
  obtain ⟨ω, e, rr⟩ := f1
  refine ⟨c, (e.rd rr eb).bl, ?_⟩
  cases c with
  | true => exact iteT ⟨B, G1, ρ1, Qd, hn, ⟨ω, e⟩, q1, fun G' v r ρ' H' s f q => k _ _ _ _ _ (s1.trans s) f q⟩
  | false => exact iteF (k _ _ _ _ _ s1 (e.dat (.bl false)) q1)
theorem d_ife (hc : PT X c (liftT X.K np tc)) (ha : PE X a (lift X.K np ta)) (hb : PE X b (lift X.K np tb)) : PE X (.IfExp c a b pos) (lift X.K np (dIfE tc ta tb)) := by
  refine (pe_ifExp hc ha hb).mo fun σ H Q h => ?_
  obtain ⟨B, G, ρ, Qd, hn, eo, h, k⟩ := h
  refine ⟨B, G, ρ, _, hn, eo, h, fun G1 c ρ1 H1 s1 e1 q1 => ?_⟩
  cases c with
  | true => exact iteT ⟨B, G1, ρ1, Qd, hn, e1, q1, fun G' v r ρ' H' s f q => k _ _ _ _ _ (s1.trans s) f q⟩
  | false => exact iteF ⟨B, G1, ρ1, Qd, hn, e1, q1, fun G' v r ρ' H' s f q => k _ _ _ _ _ (s1.trans s) f q⟩
theorem d_nil : PA X [] (liftA X.K np dNil) := pa_nil.mo fun σ H Q ⟨B, G, ρ, Qd, hn, eo, h, k⟩ => k _ _ _ _ _ (.refl _) eo .nil h
theorem d_cons (ha : PE X e (lift X.K np ta)) (hr : PA X es (liftA X.K np ts)) (hs : starEach (e :: es) X.env = (false, eval e X.env) :: starEach es X.env := by rfl) : PA X (e :: es) (liftA X.K np (dCons ta ts)) := by
  refine (pa_cons ha hr hs).mo fun σ H Q h => ?_
  obtain ⟨B, G, ρ, Qd, hn, eo, h, k⟩ := h
  refine ⟨B, G, ρ, _, hn, eo, h, fun G1 v r ρ1 H1 s1 f1 q1 => ?_⟩
  obtain ⟨G2, s2, f2⟩ := f1.stl
  have key : ∀ r', r' = stl r → ArgOk X.K G2 σ v r' → ts ρ1 (fun rs ρ2 => Qd (r' :: rs) ρ2) → liftA X.K np ts σ H1 fun xs H2 => Q (v :: xs) H2 := fun r' er ao q =>
    ⟨B, G2, ρ1, _, hn, f2.env, q, fun G' vs rs ρ' H' s e ar qq => k _ _ _ _ _ ((s1.trans s2).trans s) e (.cons (ao.mono s) ar) qq⟩
  obtain ⟨ω, e2, r2⟩ := f2
  cases hr : stl r with
  | dat d => rw [hr] at q1 r2; exact key _ hr.symm (.dat r2) q1
  | sl i => rw [hr] at q1 r2; exact key _ hr.symm (.sl r2) q1
  | nw s => rw [hr] at q1; exact q1.elim
theorem d_tup {x1} (h : PA X es (liftA X.K np ts)) : PE X (.Tuple es x1 pos) (lift X.K np (dTup ts)) := by
  refine (pe_tup h).mo fun σ H Q h => ?_
  obtain ⟨B, G, ρ, Qd, hn, eo, h, k⟩ := h
  refine ⟨B, G, ρ, _, hn, eo, h, fun G1 vs rs ρ1 H1 s1 e1 ar q1 => ?_⟩
  obtain ⟨ds, ed, hz, q1⟩ := WL.of q1
  have rr := ar.dat ed
  refine ⟨by rw [rr.length]; exact hz, fun p hp => ?_⟩
  obtain ⟨ω, e1⟩ := e1
  obtain ⟨sg, f⟩ := e1.newT hp rr
  exact k _ _ _ _ _ (s1.trans sg) f q1
theorem d_lst (h : PA X es (liftA X.K np ts)) : PE X (.List es pos) (lift X.K np (dLst ts)) := by
  refine (pe_lst h).mo fun σ H Q h => ?_
  obtain ⟨B, G, ρ, Qd, hn, eo, h, k⟩ := h
  refine ⟨B, G, ρ, _, hn, eo, h, fun G1 vs rs ρ1 H1 s1 e1 ar q1 => ?_⟩
  obtain ⟨ds, ed, hz, q1⟩ := WL.of q1
  have rr := ar.dat ed
  refine ⟨by rw [rr.length]; exact hz, fun p hp => ?_⟩
  obtain ⟨ω, e1⟩ := e1
  exact k _ _ _ _ _ s1 (e1.newL hp rr) q1
theorem cb_ok {r : List V → Hp → VK → Prop} {g : DOpL} (hc : CL np X.K r g) (σ : Stt) (H : Hp) (Q : VK) (h : lift X.K np (dCB g ts) σ H Q) : tCB r (liftA X.K np ts) σ H Q := by
  obtain ⟨B, G, ρ, Qd, hn, eo, h, k⟩ := h
  refine ⟨B, G, ρ, _, hn, eo, h, fun G1 vs rs ρ1 H1 s1 e1 ar q1 => ?_⟩
  obtain ⟨ds, ed, q1⟩ := WL.of q1
  obtain ⟨ω, e1⟩ := e1
  exact hc hn e1 (ar.rd e1 ed) q1 fun G' v' r' H' s f p => k _ _ _ _ _ (s1.trans s) f p
theorem d_callB {x : Str} {p : Pos} {id : String} {r : List V → Hp → VK → Prop} {g : DOpL} (hcr : CallR X (.builtin id) r) (hc : CL np X.K r g) (hg : Gl X x) (hm : X.mg x = none) (hv : bootBuiltins x = some (.builtin id)) (ha : PA X (e :: es) (liftA X.K np ts))
    (hn : x ≠ "__name__" := by decide) (hdb : (x == ("__debug__" : Str)) = false := by decide) (he : starEach (e :: es) X.env = (false, eval e X.env) :: starEach es X.env := by rfl) (hpl : (backTo pos (starEach es X.env)).any (·.1) = false := by rfl) :
    PE X (.Call (.Name x p) (e :: es) [] pos) (lift X.K np (dCB g ts)) := (pe_callB hcr hg hm hv ha hn hdb he hpl).mo fun σ H Q h => cb_ok hc σ H Q h
theorem d_callT {x : Str} {p : Pos} {T : String} {r : List V → Hp → VK → Prop} {g : DOpL} (hcr : CallR X (.type T) r) (hc : CL np X.K r g) (hg : Gl X x) (hm : X.mg x = none) (hv : bootBuiltins x = some (.type T)) (ha : PA X (e :: es) (liftA X.K np ts))
    (hn : x ≠ "__name__" := by decide) (hdb : (x == ("__debug__" : Str)) = false := by decide) (he : starEach (e :: es) X.env = (false, eval e X.env) :: starEach es X.env := by rfl) (hpl : (backTo pos (starEach es X.env)).any (·.1) = false := by rfl) :
    PE X (.Call (.Name x p) (e :: es) [] pos) (lift X.K np (dCB g ts)) := (pe_callTy hcr hg hm hv ha hn hdb he hpl).mo fun σ H Q h => cb_ok hc σ H Q h
end
end TL
namespace TL
variable {np : Np}
open PySem PySem.Spec PyProof.Rows L2
def kD : Key → PyData
  | .inl i => .int i
  | .inr x => .str x
mutual
def py : D → PyData
  | .non => .none
  | .bl b => .bool b
  | .int i => .int i
  | .str x => .str x
  | .tup xs => .tuple (pyL xs)
  | .lst xs => .list (pyL xs)
  | .dct kvs => .dict (pyK kvs)
  | .obj _ _ => .none
  | .ref _ => .none
  | .ty _ => .none
  | .scr ns => .list (ns.map .int)
  | .exc _ _ => .none
def pyL : List D → List PyData
  | [] => []
  | x :: xs => py x :: pyL xs
def pyK : List (Key × D) → List (PyData × PyData)
  | [] => []
  | (k, v) :: r => (kD k, py v) :: pyK r
end
mutual
def plain : D → Bool
  | .non => true
  | .bl _ => true
  | .int _ => true
  | .str _ => true
  | .tup xs => plainL xs
  | .lst xs => plainL xs
  | .dct kvs => plainK kvs
  | .obj _ _ => false
  | .ref _ => false
  | .ty _ => false
  | .scr _ => false
  | .exc _ _ => false
def plainL : List D → Bool
  | [] => true
  | x :: xs => plain x && plainL xs
def plainK : List (Key × D) → Bool
  | [] => true
  | (_, v) :: r => plain v && plainK r
end
def DictsOff (h : Heap) (as : List Addr) : Prop := ∀ b ∈ as, (∃ o, h.get? b = some o ∧ o.cls = .type "dict") → (b == sysModules) = false
theorem DictsOff.nil {h : Heap} : DictsOff h [] := fun _ z => nomatch z
theorem DictsOff.app {h : Heap} {as bs : List Addr} (a : DictsOff h as) (b : DictsOff h bs) : DictsOff h (as ++ bs) := fun c hc => (List.mem_append.mp hc).elim (a c) (b c)
theorem pairs_keys {P : Program} {w : World} {h : Heap} : ∀ {es : List DictEntry} {vs : List (Key × Value)}, Pairs (mixKind P w) es vs → ∃ as, ReadsAll h (es.map (·.key)) (vs.map fun p => kD p.1) as ∧ DictsOff h as ∧ es.map (·.val) = vs.map (·.2)
  | _, _, .nil => ⟨[], .nil, .nil, rfl⟩
  | _, _, .cons hk hv hr => by
    obtain ⟨as, r, o, e⟩ := pairs_keys (h := h) hr
    rcases keyIs_shape hk with ⟨i, t, e1, e2⟩ | ⟨x, t, e1, e2⟩
    · refine ⟨[] ++ as, ?_, o, by simp [e, hv]⟩
      simp only [List.map_cons]
      rw [e1, e2]
      exact .cons (.int i t) r
    · refine ⟨[] ++ as, ?_, o, by simp [e, hv]⟩
      simp only [List.map_cons]
      rw [e1, e2]
      exact .cons (.str x t) r
theorem kv_split : ∀ {kvs : List (Key × V)} {vs : List (Key × Value)}, KV kvs vs → Vals (kvs.map (·.2)) (vs.map (·.2)) ∧ kvs.map (·.1) = vs.map (·.1)
  | _, _, .nil => ⟨.nil, rfl⟩
  | _, _, .cons h r => ⟨.cons h.2 (kv_split r).1, by simp [h.1, (kv_split r).2]⟩
theorem pyK_keys : ∀ kvs : List (Key × D), (pyK kvs).map (·.1) = kvs.map fun p => kD p.1
  | [] => rfl
  | (k, v) :: r => by simp [pyK, pyK_keys r]
theorem pyK_vals : ∀ kvs : List (Key × D), (pyK kvs).map (·.2) = pyL (kvs.map (·.2))
  | [] => rfl
  | (k, v) :: r => by simp [pyK, pyL, pyK_vals r]
section
variable {K : PySem.W.Frag} {G : Hp}
theorem RpK.split : ∀ {kvs : List (Key × V)} {ds : List (Key × D)}, RpK K G kvs ds → RpL K G (kvs.map (·.2)) (ds.map (·.2)) ∧ kvs.map (·.1) = ds.map (·.1)
  | _, _, .nil => ⟨.nil, rfl⟩
  | _, _, .cons h r => ⟨.cons h r.split.1, by simp [r.split.2]⟩
end
section
variable {X : Cx} {pins : List (Addr × Obj)} {σ : Stt} {H G : Hp} {s : Shared}
mutual
theorem Rp.reads (I : Inv X pins σ H s) (g : Same G H) : ∀ (d : D) (v : V) (u : Value), Rp X.K G v d → RelV v u → plain d = true → ∃ as, Reads s.heap u (py d) as ∧ DictsOff s.heap as
  | .non, _, _, .non, r, _ => by cases r; exact ⟨_, .none, .nil⟩
  | .bl b, _, _, .bl _, r, _ => by cases r; exact ⟨_, .bool b, .nil⟩
  | .int i, _, _, .int _, r, _ => by obtain ⟨t, rfl⟩ := r; exact ⟨_, .int i t, .nil⟩
  | .str x, _, _, .str _, r, _ => by obtain ⟨t, rfl⟩ := r; exact ⟨_, .str x t, .nil⟩
  | .tup ds, _, _, .tup h ha, r, hp => by
    cases r
    obtain ⟨its, rv, ⟨o, ho, hc, n, hd⟩, _⟩ := I.tuple (seqT g h)
    obtain ⟨as, hr, hf⟩ := RpL.reads I g ds _ its ha rv hp
    exact ⟨_, .tuple ho hc hd hr, hf⟩
  | .lst ds, _, _, .lst h ha, r, hp => by
    cases r
    obtain ⟨its, rv, ⟨o, n, ho, hc, _, hd⟩, _⟩ := I.list (.of (g _ _ h))
    obtain ⟨as, hr, hf⟩ := RpL.reads I g ds _ its ha rv hp
    refine ⟨_, .list ho hc hd hr, fun b hb => ?_⟩
    rcases List.mem_cons.mp hb with e | hb
    · subst e
      rintro ⟨o', ho', hc'⟩
      rw [ho] at ho'
      cases ho'
      rw [hc] at hc'
      injection hc' with q
      exact absurd q (by decide)
    · exact hf b hb
  | .dct ds, _, _, .dct h ha, r, hp => by
    cases r
    obtain ⟨_, hm, vs, rel, o, es, ep, ho, hx, hd, _, hpr, _⟩ := (show ObjOk X.prog X.w H s.heap _ (.dK _) from I.hok _ _ (g _ _ h))
    obtain ⟨as, hk, hf, hv⟩ := pairs_keys (h := s.heap) hpr
    obtain ⟨rv, ek⟩ := kv_split rel
    have ek2 := ha.split.2
    obtain ⟨bs, hr, hg⟩ := RpK.reads I g ds _ _ ha rv hp
    have h1 : ReadsAll s.heap (es.toList.map (·.key)) ((pyK ds).map (·.1)) as := by
      rw [pyK_keys]
      have e : vs.map (fun p => kD p.1) = ds.map fun p => kD p.1 := by
        have := congrArg (List.map kD) (ek.symm.trans ek2)
        rw [List.map_map, List.map_map] at this
        exact this
      rw [← e]
      exact hk
    have h2 : ReadsAll s.heap (es.toList.map (·.val)) ((pyK ds).map (·.2)) bs := by rw [pyK_vals, hv]; exact hr
    refine ⟨_, .dict ho hx.1 hd h1 h2, fun b hb => ?_⟩
    rcases List.mem_append.mp hb with hb | hb
    · rcases List.mem_cons.mp hb with e | hb
      · subst e; exact fun _ => hm
      · exact hf b hb
    · exact hg b hb
  | .obj _ _, _, _, _, _, hp => by cases hp
  | .ref _, _, _, _, _, hp => by cases hp
  | .ty _, _, _, _, _, hp => by cases hp
  | .scr _, _, _, _, _, hp => by cases hp
  | .exc _ _, _, _, _, _, hp => by cases hp
theorem RpL.reads (I : Inv X pins σ H s) (g : Same G H) : ∀ (ds : List D) (vs : List V) (us : List Value), RpL X.K G vs ds → Vals vs us → plainL ds = true → ∃ as, ReadsAll s.heap us (pyL ds) as ∧ DictsOff s.heap as
  | [], _, _, .nil, .nil, _ => ⟨_, .nil, .nil⟩
  | d :: ds, _, _, .cons h1 h2, .cons r1 r2, hp => by
    have hp' : plain d = true ∧ plainL ds = true := by simpa [plainL] using hp
    obtain ⟨as, q1, f1⟩ := Rp.reads I g d _ _ h1 r1 hp'.1
    obtain ⟨bs, q2, f2⟩ := RpL.reads I g ds _ _ h2 r2 hp'.2
    exact ⟨_, .cons q1 q2, f1.app f2⟩
theorem RpK.reads (I : Inv X pins σ H s) (g : Same G H) : ∀ (ds : List (Key × D)) (vs : List (Key × V)) (us : List Value), RpK X.K G vs ds → Vals (vs.map (·.2)) us → plainK ds = true → ∃ as, ReadsAll s.heap us (pyL (ds.map (·.2))) as ∧ DictsOff s.heap as
  | [], _, _, .nil, .nil, _ => ⟨_, .nil, .nil⟩
  | (k, d) :: ds, _, _, .cons h1 h2, .cons r1 r2, hp => by
    have hp' : plain d = true ∧ plainK ds = true := by simpa [plainK] using hp
    obtain ⟨as, q1, f1⟩ := Rp.reads I g d _ _ h1 r1 hp'.1
    obtain ⟨bs, q2, f2⟩ := RpK.reads I g ds _ _ h2 r2 hp'.2
    exact ⟨_, .cons q1 q2, f1.app f2⟩
end
theorem RdV.rp {K : PySem.W.Frag} {v : V} {d : D} (g : Same G H) (r : RdV K G H v d) : Rp K H v d := by
  rcases r with r | ⟨a, vs, ds, rfl, rfl, h, r⟩ | ⟨a, vs, ds, rfl, rfl, h, r⟩
  · exact r.mono g
  · exact .lst h (r.mono g)
  · exact .dct h (r.mono g)
end
section
variable {prog : Program} {w : World} {h₀ : Heap}
mutual
theorem reprK : ∀ {v : Value} {d : PyData} {as : List Addr}, Reads h₀ v d as → d.showable = true → DictsOff h₀ as → d.shown.length ≤ sizeLine → ∃ bs, ReadAtMost h₀ d.depth bs ∧ ReprK prog w bs h₀ d.depth v d.shown
  | _, _, _, .none, _, _, _ => ⟨[], (fun _ h => nomatch h), by simp only [PyData.shown]; exact .of_is .none _ _ _⟩
  | _, _, _, .bool b, _, _, _ => ⟨[], (fun _ h => nomatch h), by simp only [PyData.shown]; exact .of_is (.bool b) _ _ _⟩
  | _, _, _, .int i t, hs, _, _ => ⟨[], (fun _ h => nomatch h), by simp only [PyData.shown]; exact .of_is (.int t (by simpa [PyData.showable] using hs)) _ _ _⟩
  | _, _, _, .str x t, _, _, hz => ⟨[], (fun _ h => nomatch h), by simp only [PyData.shown] at hz ⊢; exact .of_is (.str x t hz) _ _ _⟩
  | _, _, _, .list (a := a) (vs := vs) (xs := xs) h1 h2 h3 h4, hs, ho, hz => by
    have r : Reads h₀ (.ref a) (.list xs) _ := .list h1 h2 h3 h4
    simp only [PyData.shown] at hz
    obtain ⟨bs, hb, hk⟩ := reprAllK h4 (by simpa [PyData.showable] using hs) (fun b hb => ho b (List.mem_cons_of_mem _ hb)) fun t ht => Nat.le_trans (listText_mem_le ht) hz
    have hd : PyData.depthAll xs < (PyData.list xs).depth := by simp only [PyData.depth]; omega
    refine ⟨a :: bs, .cons r (Nat.le_of_lt hd) hb, ?_⟩
    simp only [PyData.depth, PyData.shown]
    obtain ⟨l⟩ := vs
    cases l with
    | nil =>
      have hx : ReadsAll h₀ [] xs _ := h4
      cases hx
      simp only [PyData.shownAll, listText_nil]
      exact .listEmpty h1 h2 h3
    | cons x l => exact .list h1 h2 h3 (not_mem_of_deeper r hd hb) (by simpa using hk.length_eq) fun i y e => hk.item i y (by simpa using e)
  | _, _, _, .tuple (a := a) (xs := xs) h1 h2 h3 h4, hs, ho, hz => by
    have r : Reads h₀ (.ref a) (.tuple xs) _ := .tuple h1 h2 h3 h4
    simp only [PyData.shown] at hz
    obtain ⟨bs, hb, hk⟩ := reprAllK h4 (by simpa [PyData.showable] using hs) ho fun t ht => Nat.le_trans (tupleText_mem_le ht) hz
    have hd : PyData.depthAll xs < (PyData.tuple xs).depth := by simp only [PyData.depth]; omega
    refine ⟨a :: bs, .cons r (Nat.le_of_lt hd) hb, ?_⟩
    simp only [PyData.depth, PyData.shown]
    exact .tuple h1 h2 h3 (not_mem_of_deeper r hd hb) hk
  | _, _, _, .dict (a := a) (es := es) (kvs := kvs) (as := a1) (bs := a2) h1 h2 h3 h4 h5, hs, ho, hz => by
    have r : Reads h₀ (.ref a) (.dict kvs) _ := .dict h1 h2 h3 h4 h5
    simp only [PyData.shown] at hz
    obtain ⟨s1, s2⟩ := PyData.showableKv_split kvs (by simpa [PyData.showable] using hs)
    obtain ⟨b1, m1, k1⟩ := reprAllK h4 s1 (fun b hb => ho b (List.mem_append_left _ (List.mem_cons_of_mem _ hb))) fun t ht => by
      obtain ⟨p, hp, hl⟩ := PyData.shownKv_key_le kvs t ht
      exact Nat.le_trans hl (Nat.le_trans (dictText_mem_le hp) hz)
    obtain ⟨b2, m2, k2⟩ := reprAllK h5 s2 (fun b hb => ho b (List.mem_append_right _ hb)) fun t ht => by
      obtain ⟨p, hp, hl⟩ := PyData.shownKv_val_le kvs t ht
      exact Nat.le_trans hl (Nat.le_trans (dictText_mem_le hp) hz)
    have hb : ReadAtMost h₀ (PyData.depthKv kvs) (b1 ++ b2) := .append (m1.mono (PyData.depthAll_keys_le kvs)) (m2.mono (PyData.depthAll_vals_le kvs))
    have hd : PyData.depthKv kvs < (PyData.dict kvs).depth := by simp only [PyData.depth]; omega
    refine ⟨a :: (b1 ++ b2), .cons r (Nat.le_of_lt hd) hb, ?_⟩
    simp only [PyData.depth, PyData.shown, PyData.shownKv_eq]
    refine .dict h1 h2 h3 (ho a (List.mem_append_left _ List.mem_cons_self) ⟨_, h1, h2⟩) (not_mem_of_deeper r hd hb) (.of_two es.toList _ _ ?_ ?_)
    · exact k1.more_le (fun b q => List.mem_append_left _ q) (PyData.depthAll_keys_le kvs)
    · exact k2.more_le (fun b q => List.mem_append_right _ q) (PyData.depthAll_vals_le kvs)
theorem reprAllK : ∀ {vs : List Value} {ds : List PyData} {as : List Addr}, ReadsAll h₀ vs ds as → PyData.showableAll ds = true → DictsOff h₀ as → (∀ t ∈ PyData.shownAll ds, t.length ≤ sizeLine) →
    ∃ bs, ReadAtMost h₀ (PyData.depthAll ds) bs ∧ ReprAllK prog w bs h₀ (PyData.depthAll ds) vs (PyData.shownAll ds)
  | _, _, _, .nil, _, _, _ => ⟨[], (fun _ h => nomatch h), by simp only [PyData.shownAll]; exact .nil⟩
  | _, _, _, .cons (d := d) (ds := ds) r rs, hs, ho, hz => by
    have hs' : d.showable = true ∧ PyData.showableAll ds = true := by simpa [PyData.showableAll] using hs
    simp only [PyData.shownAll] at hz ⊢
    obtain ⟨b1, m1, k1⟩ := reprK r hs'.1 (fun b hb => ho b (List.mem_append_left _ hb)) (hz _ List.mem_cons_self)
    obtain ⟨b2, m2, k2⟩ := reprAllK rs hs'.2 (fun b hb => ho b (List.mem_append_right _ hb)) fun t ht => hz t (List.mem_cons_of_mem _ ht)
    simp only [PyData.depthAll]
    refine ⟨b1 ++ b2, .append (m1.mono (Nat.le_max_left _ _)) (m2.mono (Nat.le_max_right _ _)), ?_⟩
    exact .cons ((k1.more fun b q => List.mem_append_left _ q).level_le (Nat.le_max_left _ _)) (k2.more_le (fun b q => List.mem_append_right _ q) (Nat.le_max_right _ _))
end
variable {A : Around} {E : Value → Shared → Prop} {s : Shared} {Q : Value → Shared → Prop}
theorem repr_of {v : Value} {d : PyData} {as : List Addr} (r : Reads s.heap v d as) (hs : d.showable = true) (ho : DictsOff s.heap as) (hz : d.shown.length ≤ sizeLine) (hg : A.guards = some []) (hu : A.units + (d.depth + 2) < cLine)
    (hQ : ∀ h' u tk, (∀ b o, s.heap.get? b = some o → h'.get? b = some o) → Q (.str d.shown u) { s with heap := h', toks := tk }) : wpAny (model prog w) A (call (.builtin "repr") [v]) Q E s := by
  cases r with
  | none => simp only [PyData.shown] at hQ; exact PySem.P.repr_of_none (hQ s.heap _ _ fun _ _ e => e)
  | bool b => simp only [PyData.shown] at hQ; exact PySem.P.repr_of_bool (hQ s.heap _ _ fun _ _ e => e)
  | int i t => simp only [PyData.shown] at hQ; exact PySem.P.repr_of_int (by simpa [PyData.showable] using hs) (hQ s.heap _ _ fun _ _ e => e)
  | str x t => simp only [PyData.shown] at hQ hz; exact PySem.P.repr_of_str (hQ s.heap _ _ fun _ _ e => e) hz
  | list h1 h2 h3 h4 =>
    rename_i a o vs n xs bs₀
    have r : Reads s.heap (.ref a) (.list xs) _ := .list h1 h2 h3 h4
    simp only [PyData.shown] at hz hQ
    simp only [PyData.depth] at hu
    obtain ⟨bs, hb, hk⟩ := reprAllK (prog := prog) (w := w) h4 (by simpa [PyData.showable] using hs) (fun b hb => ho b (List.mem_cons_of_mem _ hb)) fun t ht => Nat.le_trans (listText_mem_le ht) hz
    have hd : PyData.depthAll xs < (PyData.list xs).depth := by simp only [PyData.depth]; omega
    refine call_repr_slot (by omega) ⟨o, h1, h2⟩ F.slot_list_repr.toG ?_
    obtain ⟨l⟩ := vs
    cases l with
    | nil =>
      have hx : ReadsAll s.heap [] xs _ := h4
      cases hx
      simp only [PyData.shownAll, listText_nil] at hQ
      exact call_list_repr_empty ⟨o, h1, h2⟩ h1 h3 ⟨_, _, rfl, hQ s.heap _ _ fun _ _ e => e⟩
    | cons x l =>
      exact call_list_reprK h1 h2 h3 (not_mem_of_deeper r hd hb) (by simpa using hk.length_eq) (fun i y e => hk.item i y (by simpa using e)) hg (fun b _ => Clear.nil b)
        (by show A.units + 1 + (PyData.depthAll xs + 1) < cLine; omega) (fun _ _ e => e) (fun h' u tk k => ⟨_, _, rfl, hQ h' u tk k⟩) hz
  | tuple h1 h2 h3 h4 =>
    rename_i a o vs n xs
    have r : Reads s.heap (.ref a) (.tuple xs) _ := .tuple h1 h2 h3 h4
    simp only [PyData.shown] at hz hQ
    simp only [PyData.depth] at hu
    obtain ⟨bs, hb, hk⟩ := reprAllK (prog := prog) (w := w) h4 (by simpa [PyData.showable] using hs) ho fun t ht => Nat.le_trans (tupleText_mem_le ht) hz
    have hd : PyData.depthAll xs < (PyData.tuple xs).depth := by simp only [PyData.depth]; omega
    refine call_repr_slot (by omega) ⟨o, h1, h2⟩ F.slot_tuple_repr ?_
    exact call_tuple_reprK h1 h2 h3 (not_mem_of_deeper r hd hb) hk hg (fun b _ => Clear.nil b) (by show A.units + 1 + (PyData.depthAll xs + 1) < cLine; omega) (fun _ _ e => e) (fun h' u tk k => ⟨_, _, rfl, hQ h' u tk k⟩) hz
  | dict h1 h2 h3 h4 h5 =>
    rename_i a o es n kvs a1 a2
    have r : Reads s.heap (.ref a) (.dict kvs) _ := .dict h1 h2 h3 h4 h5
    simp only [PyData.shown, PyData.shownKv_eq] at hQ
    simp only [PyData.shown] at hz
    simp only [PyData.depth] at hu
    obtain ⟨s1, s2⟩ := PyData.showableKv_split kvs (by simpa [PyData.showable] using hs)
    obtain ⟨b1, m1, k1⟩ := reprAllK (prog := prog) (w := w) h4 s1 (fun b hb => ho b (List.mem_append_left _ (List.mem_cons_of_mem _ hb))) fun t ht => by
      obtain ⟨p, hp, hl⟩ := PyData.shownKv_key_le kvs t ht
      exact Nat.le_trans hl (Nat.le_trans (dictText_mem_le hp) hz)
    obtain ⟨b2, m2, k2⟩ := reprAllK (prog := prog) (w := w) h5 s2 (fun b hb => ho b (List.mem_append_right _ hb)) fun t ht => by
      obtain ⟨p, hp, hl⟩ := PyData.shownKv_val_le kvs t ht
      exact Nat.le_trans hl (Nat.le_trans (dictText_mem_le hp) hz)
    have hb : ReadAtMost s.heap (PyData.depthKv kvs) (b1 ++ b2) := .append (m1.mono (PyData.depthAll_keys_le kvs)) (m2.mono (PyData.depthAll_vals_le kvs))
    have hd : PyData.depthKv kvs < (PyData.dict kvs).depth := by simp only [PyData.depth]; omega
    refine call_repr_slot (by omega) ⟨o, h1, h2⟩ F.slot_dict_repr ?_
    refine call_dict_reprK h1 h2 h3 (ho a (List.mem_append_left _ List.mem_cons_self) ⟨_, h1, h2⟩) (not_mem_of_deeper r hd hb) (.of_two es.toList _ _
      (k1.more_le (fun b q => List.mem_append_left _ q) (PyData.depthAll_keys_le kvs)) (k2.more_le (fun b q => List.mem_append_right _ q) (PyData.depthAll_vals_le kvs))) hg (fun b _ => Clear.nil b)
      (by show A.units + 1 + (PyData.depthKv kvs + 1) < cLine; omega) (fun _ _ e => e) (fun h' u tk k => ⟨_, _, rfl, hQ h' u tk k⟩) (by rw [← PyData.shownKv_eq]; exact hz)
end
def ShowOk (d : D) : Prop := plain d = true ∧ (py d).showable = true ∧ (py d).shown.length ≤ sizeLine ∧ (py d).depth ≤ 50
def shown (d : D) : Str := (py d).shown
section
variable {X : Cx}
def rRepr (K : PySem.W.Frag) : List V → Hp → VK → Prop := fun vs H Q => ∃ v d, vs = [v] ∧ Rp K H v d ∧ ShowOk d ∧ Q (.str (shown d)) H
theorem call_repr (hg : X.A.guards = some []) (hu : X.A.units + 64 < cLine) : CallR X (.builtin "repr") (rRepr X.K) := by
  intro pins s σ H vs us Q I r h
  obtain ⟨v, d, rfl, rp, ⟨h1, h2, h3, h4⟩, q⟩ := h
  obtain ⟨u, rfl, ru⟩ := vals1 r
  obtain ⟨as, rd, ho⟩ := rp.reads I (.refl _) d v u ru h1
  exact repr_of rd h2 ho h3 hg (by omega) fun h' t tk k => ⟨.str (shown d), H, I.kept k, ⟨t, rfl⟩, q⟩
def gRepr : DOpL := fun xs P => ∃ d, xs = [d] ∧ ShowOk d ∧ P (.dat (.str (shown d)))
theorem c_repr (K : PySem.W.Frag) : CL np K (rRepr K) gRepr := by
  intro B G ω ρ σ H vs xs P Q hn e r g k
  obtain ⟨d, rfl, hs, p⟩ := g
  obtain ⟨v, rfl, rv⟩ := r.one
  exact ⟨v, d, rfl, rv.rp e.gle, hs, k _ _ _ _ (.refl _) (e.dat (.str _)) p⟩
end
end TL
namespace TL
variable {np : Np}
open PySem PySem.Spec PyProof.Rows L2
theorem OpR_or {X : Cx} {f : Value → Value → Sem Value} {r r' : R2} (h : OpR X f r) (h' : OpR X f r') : OpR X f (fun x y H Q => r x y H Q ∨ r' x y H Q) := by
  intro pins s σ H x y v u Q I rx ry q
  rcases q with q | q
  · exact h pins s σ H x y v u Q I rx ry q
  · exact h' pins s σ H x y v u Q I rx ry q
def fv : D → Option V
  | .non => some .non
  | .bl b => some (.bl b)
  | .int i => some (.int i)
  | .str x => some (.str x)
  | _ => none
def fvs : List D → Option (List V)
  | [] => some []
  | d :: ds => match fv d, fvs ds with | some v, some vs => some (v :: vs) | _, _ => none
section
variable {K : PySem.W.Frag} {G H : Hp} {v : V} {d : D}
theorem RdV.flat {w : V} (r : RdV K G H v d) (h : fv d = some w) : v = w ∧ flatV v = true := by
  cases d with
  | non => cases h; exact ⟨r.non, by rw [r.non]; rfl⟩
  | bl b => cases h; exact ⟨r.bl, by rw [r.bl]; rfl⟩
  | int b => cases h; exact ⟨r.int, by rw [r.int]; rfl⟩
  | str b => cases h; exact ⟨r.str, by rw [r.str]; rfl⟩
  | _ => cases h
theorem Rp.rd (r : Rp K G v d) : RdV K G H v d := .inl r
theorem RpL.flat : ∀ {vs : List V} {ds : List D} {ws : List V}, RpL K G vs ds → fvs ds = some ws → vs = ws ∧ vs.all flatV = true
  | _, _, _, .nil, h => by cases h; exact ⟨rfl, rfl⟩
  | v :: vs, d :: ds, ws, .cons r t, h => by
    unfold fvs at h
    cases h1 : fv d with
    | none => rw [h1] at h; cases h
    | some w =>
      cases h2 : fvs ds with
      | none => rw [h1, h2] at h; cases h
      | some ws' =>
        rw [h1, h2] at h
        cases h
        obtain ⟨e1, f1⟩ := (Rp.rd (H := G) r).flat h1
        obtain ⟨e2, f2⟩ := t.flat h2
        exact ⟨by rw [e1, e2], by rw [List.all_cons, f1, f2]; rfl⟩
theorem fvs_ints : ∀ ns : List Int, fvs (ns.map D.int) = some (ns.map V.int)
  | [] => rfl
  | n :: ns => by simp [fvs, fv, fvs_ints ns]
theorem RpL.ints_eq {vs : List V} {ns : List Int} (r : RpL K G vs (ns.map D.int)) : vs = ns.map V.int := (r.flat (fvs_ints ns)).1
end
def gAdd : DOp2 := fun x y P => match x, y with
  | .int i, .int j => P (.dat (.int (i + j)))
  | .str a, .str b => a.length + b.length ≤ sizeLine ∧ P (.dat (.str (a ++ b)))
  | .lst xs, .lst ys => xs.length + ys.length ≤ sizeLine ∧ P (.nw (.ls (xs ++ ys)))
  | .tup xs, .tup ys => xs.length + ys.length ≤ sizeLine ∧ P (.dat (.tup (xs ++ ys)))
  | _, _ => False
def rAdd4 (K : PySem.W.Frag) : R2 := fun x y H Q => (rI0 fun i j => .int (i + j)) x y H Q ∨ (∃ i j, x = .str i ∧ y = .str j ∧ i.length + j.length ≤ sizeLine ∧ Q (.str (i ++ j)) H) ∨ rCat x y H Q ∨ rCatA K x y H Q
theorem op_add4 {X : Cx} : OpR X (binaryOp .Add) (rAdd4 X.K) := OpR_or op_add (OpR_or op_add_str (OpR_or op_cat op_catA))
theorem c_add (K : PySem.W.Frag) : C2 np K (rAdd4 K) gAdd := by
  intro B G ω ρ σ H v w x y P Q hn e rx ry g k
  cases x with
  | int i =>
    cases y with
    | int j => rw [rx.int, ry.int]; exact .inl ⟨i, j, rfl, rfl, k _ _ _ _ (.refl _) (e.dat (.int _)) g⟩
    | _ => exact g.elim
  | str a =>
    cases y with
    | str b => rw [rx.str, ry.str]; exact .inr (.inl ⟨a, b, rfl, rfl, g.1, k _ _ _ _ (.refl _) (e.dat (.str _)) g.2⟩)
    | _ => exact g.elim
  | lst xs =>
    cases y with
    | lst ys =>
      obtain ⟨a, vs, rfl, h1, r1⟩ := rx.lst e.gle
      obtain ⟨b, ws, rfl, h2, r2⟩ := ry.lst e.gle
      exact .inr (.inr (.inl ⟨a, b, vs, ws, rfl, rfl, h1, h2, by rw [r1.length, r2.length]; exact g.1, fun p hp => k _ _ _ _ (.refl _) (e.newL hp (r1.append r2)) g.2⟩))
    | _ => exact g.elim
  | tup xs =>
    cases y with
    | tup ys =>
      obtain ⟨a, vs, rfl, h1, r1⟩ := rx.tup
      obtain ⟨b, ws, rfl, h2, r2⟩ := ry.tup
      refine .inr (.inr (.inr ⟨a, b, vs, ws, rfl, rfl, seqT e.gle h1, seqT e.gle h2, by rw [r1.length, r2.length]; exact g.1, fun hx => ?_, fun _ hy => ?_, fun _ _ p hp => ?_⟩))
      · subst hx
        cases r1
        exact k _ _ _ _ (.refl _) (e.dat (.tup h2 r2)) g.2
      · subst hy
        cases r2
        exact k _ _ (.dat (.tup (xs ++ []))) _ (.refl _) (e.dat (by rw [List.append_nil]; exact .tup h1 r1)) g.2
      · obtain ⟨sg, f⟩ := e.newT hp (r1.append r2)
        exact k _ _ _ _ sg f g.2
    | _ => exact g.elim
  | _ => cases y <;> exact g.elim
def gI2 (C : Int → Int → Prop) (f : Int → Int → D) : DOp2 := fun x y P => match x, y with
  | .int i, .int j => C i j ∧ P (.dat (f i j))
  | _, _ => False
theorem c_I (K : PySem.W.Frag) {C : Int → Int → Prop} {f : Int → Int → Int} : C2 np K (rI C fun i j => .int (f i j)) (gI2 C fun i j => .int (f i j)) := by
  intro B G ω ρ σ H v w x y P Q hn e rx ry g k
  cases x with
  | int i =>
    cases y with
    | int j => rw [rx.int, ry.int]; exact ⟨i, j, rfl, rfl, g.1, k _ _ _ _ (.refl _) (e.dat (.int _)) g.2⟩
    | _ => exact g.elim
  | _ => cases y <;> exact g.elim
theorem c_I0 (K : PySem.W.Frag) {f : Int → Int → Int} : C2 np K (rI0 fun i j => .int (f i j)) (gI2 (fun _ _ => True) fun i j => .int (f i j)) := by
  intro B G ω ρ σ H v w x y P Q hn e rx ry g k
  cases x with
  | int i =>
    cases y with
    | int j => rw [rx.int, ry.int]; exact ⟨i, j, rfl, rfl, k _ _ _ _ (.refl _) (e.dat (.int _)) g.2⟩
    | _ => exact g.elim
  | _ => cases y <;> exact g.elim
def gSub : DOp2 := gI2 (fun _ _ => True) fun i j => .int (i - j)
theorem c_sub (K : PySem.W.Frag) : C2 np K (rI0 fun i j => .int (i - j)) gSub := c_I0 K
def gDiv : DOp2 := gI2 CDiv fun i j => .int (i / j)
theorem c_div (K : PySem.W.Frag) : C2 np K (rI CDiv fun i j => .int (i / j)) gDiv := c_I K
def gMod : DOp2 := gI2 (fun _ j => 0 < j) fun i j => .int (i % j)
theorem c_mod (K : PySem.W.Frag) : C2 np K (rI (fun _ j => 0 < j) fun i j => .int (i % j)) gMod := c_I K
def gPow : DOp2 := gI2 CPow fun i j => .int (i ^ j.toNat)
theorem c_pow (K : PySem.W.Frag) : C2 np K (rI CPow fun i j => .int (i ^ j.toNat)) gPow := c_I K
def gMul : DOp2 := fun x y P => match x, y with
  | .int i, .int j => CMul i j ∧ P (.dat (.int (i * j)))
  | .lst xs, .int k => -(2 ^ 63) ≤ k ∧ k < 2 ^ 63 ∧ xs.length * k.toNat ≤ sizeLine ∧ P (.nw (.ls (List.replicate k.toNat xs).flatten))
  | _, _ => False
def rMul2 : R2 := fun x y H Q => (rI CMul fun i j => .int (i * j)) x y H Q ∨ rRep x y H Q
theorem op_mul2 {X : Cx} : OpR X (binaryOp .Mult) rMul2 := OpR_or op_mul op_rep
theorem c_mul (K : PySem.W.Frag) : C2 np K rMul2 gMul := by
  intro B G ω ρ σ H v w x y P Q hn e rx ry g k
  cases x with
  | int i =>
    cases y with
    | int j => rw [rx.int, ry.int]; exact .inl ⟨i, j, rfl, rfl, g.1, k _ _ _ _ (.refl _) (e.dat (.int _)) g.2⟩
    | _ => exact g.elim
  | lst xs =>
    cases y with
    | int j =>
      obtain ⟨a, vs, rfl, h1, r1⟩ := rx.lst e.gle
      rw [ry.int]
      exact .inr ⟨a, j, vs, rfl, rfl, h1, g.1, g.2.1, by rw [r1.length]; exact g.2.2.1, fun p hp => k _ _ _ _ (.refl _) (e.newL hp (r1.rep _)) g.2.2.2⟩
    | _ => exact g.elim
  | _ => cases y <;> exact g.elim
def gNeg : DOp1 := fun x P => match x with
  | .int i => P (.dat (.int (-i)))
  | _ => False
theorem c_neg (K : PySem.W.Frag) : C1 np K (rU fun i => .int (-i)) gNeg := by
  intro B G ω ρ σ H v x P Q hn e rx g k
  cases x with
  | int i => rw [rx.int]; exact ⟨i, rfl, k _ _ _ _ (.refl _) (e.dat (.int _)) g⟩
  | _ => exact g.elim
def shD (d : D) : Bool := plain d && SeqAt.shaped (py d)
def eqD (x y : D) : Bool := PyData.eqv (py x) (py y)
theorem Rp.dp {K : PySem.W.Frag} {H : Hp} : ∀ {v : V} {d : D}, Rp K H v d → shD d = true → Dp K H v (py d) := by
  have main : ∀ (n : Nat), (∀ (d : D) (v : V), sizeOf d ≤ n → Rp K H v d → plain d = true → PyData.canLay0 (py d) = true → Dp K H v (py d)) ∧
      ∀ (ds : List D) (vs : List V), sizeOf ds ≤ n → RpL K H vs ds → plainL ds = true → PyData.canLayAll0 (pyL ds) = true → DpAll K H vs (pyL ds) := by
    intro n
    induction n with
    | zero =>
      refine ⟨fun d v hz => ?_, fun ds vs hz => ?_⟩
      · cases d <;> simp at hz
      · cases ds <;> simp at hz
    | succ n ih =>
      refine ⟨fun d v hz r hp hc => ?_, fun ds vs hz r hp hc => ?_⟩
      · cases r with
        | non => exact .non
        | bl b => exact .bl b
        | int i => exact .int i
        | str x => exact .str x
        | tup h t => exact .tup h (ih.2 _ _ (by simp at hz; omega) t hp (by simpa [py, PyData.canLay0] using hc))
        | lst h t => exact .lst (.of h) (ih.2 _ _ (by simp at hz; omega) t hp (by simpa [py, PyData.canLay0] using hc))
        | dct h t => simp [py, PyData.canLay0] at hc
        | obj h h' t => cases hp
        | ref a => cases hp
        | ty n => cases hp
        | scr h => cases hp
        | exc0 h => cases hp
        | exc1 h h' r => cases hp
      · cases r with
        | nil => exact .nil
        | @cons v1 vs1 d1 ds1 h t =>
          have hp' : plain d1 = true ∧ plainL ds1 = true := by simpa [plainL] using hp
          have hc' : PyData.canLay0 (py d1) = true ∧ PyData.canLayAll0 (pyL ds1) = true := by simpa [pyL, PyData.canLayAll0] using hc
          exact .cons (ih.1 _ _ (by simp at hz; omega) h hp'.1 hc'.1) (ih.2 _ _ (by simp at hz; omega) t hp'.2 hc'.2)
  intro v d r h
  unfold shD SeqAt.shaped at h
  simp only [Bool.and_eq_true] at h
  exact (main (sizeOf d)).1 d v (Nat.le_refl _) r h.1 h.2.1
def rEqE (K : PySem.W.Frag) (neg : Bool) : R2 := fun x y H Q => ∃ a b, x = .ref a ∧ y = .ref b ∧ ((∃ xs, SqT K H a xs ∧ SqT K H b [] ∧ Q (.bl (neg ^^ xs.isEmpty)) H) ∨ ∃ xs, SqL K H a xs ∧ SqL K H b [] ∧ Q (.bl (neg ^^ xs.isEmpty)) H)
theorem empty_size {xs : List V} {its : List Value} (r : Vals xs its) : (its.toArray.size == 0) = xs.isEmpty := by
  cases r with
  | nil => rfl
  | cons _ _ => simp
theorem op_eqE {X : Cx} (hu : X.A.units < cLine) : OpR X (compareOp .Eq) (rEqE X.K false) := by
  intro pins s σ H x y v u Q I rx ry h
  obtain ⟨a, b, rfl, rfl, h⟩ := h
  cases rx
  cases ry
  rcases h with ⟨xs, h1, h2, q⟩ | ⟨xs, h1, h2, q⟩
  · obtain ⟨its, r1, p1, _⟩ := I.tuple h1
    obtain ⟨its2, r2, p2, _⟩ := I.tuple h2
    cases r2
    refine SeqAt.eq_tupleAt (e := fun _ => true) p1 p2 hu (fun j _ h2 => absurd h2 (by simp)) ⟨.bl _, H, I, ?_, q⟩
    have e := empty_size r1
    show Value.bool _ = Value.bool _
    rw [Bool.false_xor, ← e]
    simp
  · obtain ⟨its, r1, p1, _⟩ := I.list h1
    obtain ⟨its2, r2, p2, _⟩ := I.list h2
    cases r2
    have e := empty_size r1
    by_cases hz : its.toArray.size = 0
    · refine SeqAt.eq_listAt (e := fun _ => true) p1.isList p2.isList (by simpa using hz) hu (fun j _ h2 => absurd h2 (by simp)) ⟨.bl _, H, I, ?_, q⟩
      show Value.bool _ = Value.bool _
      rw [Bool.false_xor, ← e, hz]
      rfl
    · refine SeqAt.eq_list_lengthsAt p1.isList p2.isList (by simpa using hz) hu ⟨.bl _, H, I, ?_, q⟩
      show Value.bool _ = Value.bool _
      rw [Bool.false_xor, ← e]
      congr 1
      exact (beq_eq_false_iff_ne.mpr hz).symm
theorem op_neE {X : Cx} (hu : X.A.units < cLine) : OpR X (compareOp .NotEq) (rEqE X.K true) := by
  intro pins s σ H x y v u Q I rx ry h
  obtain ⟨a, b, rfl, rfl, h⟩ := h
  cases rx
  cases ry
  rcases h with ⟨xs, h1, h2, q⟩ | ⟨xs, h1, h2, q⟩
  · obtain ⟨its, r1, p1, _⟩ := I.tuple h1
    obtain ⟨its2, r2, p2, _⟩ := I.tuple h2
    cases r2
    refine SeqAt.RcNeAt.tuples (e := fun _ => true) p1 p2 hu (fun j _ h2 => absurd h2 (by simp)) _ _ _ _ ⟨.bl _, H, I, ?_, q⟩
    have e := empty_size r1
    show Value.bool _ = Value.bool _
    rw [Bool.true_xor, ← e]
    simp
  · obtain ⟨its, r1, p1, _⟩ := I.list h1
    obtain ⟨its2, r2, p2, _⟩ := I.list h2
    cases r2
    have e := empty_size r1
    by_cases hz : its.toArray.size = 0
    · refine SeqAt.RcNeAt.lists (e := fun _ => true) p1.isList p2.isList (by simpa using hz) hu (fun j _ h2 => absurd h2 (by simp)) _ _ _ _ ⟨.bl _, H, I, ?_, q⟩
      show Value.bool _ = Value.bool _
      rw [Bool.true_xor, ← e, hz]
      rfl
    · refine SeqAt.RcNeAt.lists_lengths p1.isList p2.isList (by simpa using hz) hu _ _ _ _ ⟨.bl _, H, I, ?_, q⟩
      show Value.bool _ = Value.bool _
      rw [Bool.true_xor, ← e]
      congr 1
      rw [beq_eq_false_iff_ne.mpr hz]
      rfl
def rEqDT (K : PySem.W.Frag) : R2 := fun x y H Q => ∃ a b xs, x = .ref a ∧ y = .ref b ∧ ((∃ kvs, H a = some (.dK kvs)) ∨ ∃ zs, SqL K H a zs) ∧ SqT K H b xs ∧ Q (.bl false) H
theorem tuple_eq_no_dict (l b : Addr) (items : Array Value) (n : Nat) (d1 d2 : Option Addr) (s1 s2 : Array (Option Value)) (es : Array DictEntry) (ep : Nat) :
    Meets (Builtin.«tuple.__eq__» ⟨[.ref l, .ref b], []⟩) (fun _ R s => s.heap.get? l = some { cls := .type "tuple", dict := d1, data := .seq items n, slots := s1 } ∧ s.heap.get? b = some { cls := .type "dict", dict := d2, data := .dict es ep, slots := s2 } ∧ R (.ok (.ret .notImplemented)) s) :=
  .of_wp fun P0 w0 A0 R0 st0 hh => by
    obtain ⟨h1, h2, h3, h4, h5⟩ := st0
    obtain ⟨hl, hb, h⟩ := hh
    have f1 := F.sub_dict_tuple
    wp_walk using wpAny_loadPart' hl, wpAny_loadPart' hb
    exact ⟨_, rfl, h⟩
theorem op_eqDT {X : Cx} (hu : X.A.units < cLine) : OpR X (compareOp .Eq) (rEqDT X.K) := by
  intro pins s σ H x y v u Q I rx ry h
  obtain ⟨a, b, xs, rfl, rfl, h1, h2, q⟩ := h
  cases rx
  cases ry
  obtain ⟨its, r, pl, _⟩ := I.tuple h2
  rcases h1 with ⟨kvs, h1⟩ | ⟨zs, h1⟩
  case inr =>
    obtain ⟨its1, r1, p1, _⟩ := I.list h1
    exact SeqAt.RcAt.list_tuple p1.isList pl hu _ _ _ _ ⟨.bl false, H, I, rfl, q⟩
  obtain ⟨⟨cls, dd, data, sl⟩, ho, hc, n, hd⟩ := id pl
  simp only at hc hd
  subst hc hd
  obtain ⟨z, hsm, vs, rel, D⟩ := dk_rd I.hok (.inl h1)
  obtain ⟨ob, es, ep, g1, g2, g3, _⟩ := id D
  obtain ⟨ocls, odict, odata, osl⟩ := ob
  simp only [Obj.ExactDict] at g2
  obtain ⟨e1, e2, e3⟩ := g2
  simp only at e1 e2 e3 g3
  subst e1
  subst g3
  have hne : a ≠ b := fun z => by
    subst z
    rw [ho] at g1
    simp at g1
  refine SeqAt.rc_eq_decline_or (k := false) D.typeIs ⟨_, ho, rfl⟩ (by decide) F.sub_tuple_dict F.slot_dict_eq F.slot_tuple_eq_refl (fun Q0 hq => ?_)
    (fun _ hq => call_meets F.slot_tuple_eq_refl ⟨_, ho, rfl⟩ F.entry_tuple_eq (F.args_tuple_eq_2 _ _) (tuple_eq_no_dict b a _ n dd _ sl _ _ _) ⟨ho, g1, hq⟩)
    (fun _ hq => wpAny_isSame_ref_other hne g1 ho (by simp) hq) (.inr hu) ⟨.bl false, H, I, rfl, q⟩
  refine wpAny_call_entry PySem.F.slot_dict_eq D.typeIs PySem.F.entry_dict_eq ?_ (PySem.F.args_dict_eq_2 _ _)
  show wpAny _ _ (Builtin.Dict.dictSlotArgs "__eq__" ⟨[.ref a, .ref b], []⟩ >>= _) _ _ s
  refine wpAny_bind ?_
  unfold Builtin.Dict.dictSlotArgs
  refine wpAny_bind (wpAny_notOrdered_dict D.typeIs ?_)
  refine wpAny_pure ?_
  refine wpAny_bind (wpAny_isInstance (v := .ref b) (T := "tuple") (U := "dict") ⟨_, ho, rfl⟩ F.sub_tuple_dict ?_)
  simp only [Bool.not_false, if_true]
  refine wpAny_bind (wpAny_rule ?_)
  exact wpAny_pure ⟨_, rfl, hq⟩
def gEq (neg : Bool) : DOp2 := fun x y P => match fv x, fv y with
  | some a, some b => (match scal a b with
    | true => P (.dat (.bl (neg ^^ decide (a = b))))
    | false => shD x = true ∧ shD y = true ∧ P (.dat (.bl (neg ^^ eqD x y))))
  | _, _ => match x, y with
    | .tup xs, .tup [] => P (.dat (.bl (neg ^^ xs.isEmpty)))
    | .lst xs, .lst [] => P (.dat (.bl (neg ^^ xs.isEmpty)))
    | .dct _, .tup _ => neg = false ∧ P (.dat (.bl false))
    | .lst _, .tup _ => neg = false ∧ P (.dat (.bl false))
    | _, _ => shD x = true ∧ shD y = true ∧ P (.dat (.bl (neg ^^ eqD x y)))
def rEq3 (K : PySem.W.Frag) : R2 := fun x y H Q => rEq x y H Q ∨ rEqE K false x y H Q ∨ rEqDT K x y H Q ∨ rEqD K x y H Q
def rNe3 (K : PySem.W.Frag) : R2 := fun x y H Q => rNe x y H Q ∨ rEqE K true x y H Q ∨ rNeD K x y H Q
theorem op_eq3 {X : Cx} (hu : X.A.units + 64 < cLine) : OpR X (compareOp .Eq) (rEq3 X.K) := OpR_or op_eq (OpR_or (op_eqE (by omega)) (OpR_or (op_eqDT (by omega)) (op_eqD hu)))
theorem op_ne3 {X : Cx} (hu : X.A.units + 64 < cLine) : OpR X (compareOp .NotEq) (rNe3 X.K) := OpR_or op_ne (OpR_or (op_neE (by omega)) (op_neD hu))
theorem eq_cases {neg : Bool} {x y : D} {P : Rs → Prop} (g : gEq neg x y P) : (∃ a b, fv x = some a ∧ fv y = some b ∧ scal a b = true ∧ P (.dat (.bl (neg ^^ decide (a = b))))) ∨
    (∃ xs, x = .tup xs ∧ y = .tup [] ∧ P (.dat (.bl (neg ^^ xs.isEmpty)))) ∨ (∃ xs, x = .lst xs ∧ y = .lst [] ∧ P (.dat (.bl (neg ^^ xs.isEmpty)))) ∨ (∃ xs, ((∃ kvs, x = .dct kvs) ∨ ∃ zs, x = .lst zs) ∧ y = .tup xs ∧ neg = false ∧ P (.dat (.bl false))) ∨ (shD x = true ∧ shD y = true ∧ P (.dat (.bl (neg ^^ eqD x y)))) := by
  unfold gEq at g
  split at g
  · rename_i a b ea eb
    split at g
    · rename_i hs
      exact .inl ⟨a, b, ea, eb, hs, g⟩
    · exact .inr (.inr (.inr (.inr g)))
  · split at g
    · exact .inr (.inl ⟨_, rfl, rfl, g⟩)
    · exact .inr (.inr (.inl ⟨_, rfl, rfl, g⟩))
    · exact .inr (.inr (.inr (.inl ⟨_, .inl ⟨_, rfl⟩, rfl, g⟩)))
    · exact .inr (.inr (.inr (.inl ⟨_, .inr ⟨_, rfl⟩, rfl, g⟩)))
    · exact .inr (.inr (.inr (.inr g)))
theorem RpL.isE {K : PySem.W.Frag} {G : Hp} {vs : List V} {ds : List D} (r : RpL K G vs ds) : vs.isEmpty = ds.isEmpty := by cases r <;> rfl
theorem c_eq (K : PySem.W.Frag) : C2 np K (rEq3 K) (gEq false) := by
  intro B G ω ρ σ H v w x y P Q hn e rx ry g k
  rcases eq_cases g with ⟨a, b, ea, eb, hs, p⟩ | ⟨xs, rfl, rfl, p⟩ | ⟨xs, rfl, rfl, p⟩ | ⟨xs, hx, rfl, hn, p⟩ | ⟨h1, h2, p⟩
  · obtain ⟨rfl, _⟩ := rx.flat ea
    obtain ⟨rfl, _⟩ := ry.flat eb
    exact .inl ⟨hs, k _ _ _ _ (.refl _) (e.dat (.bl _)) (by rw [Bool.false_xor] at p; exact p)⟩
  · obtain ⟨a, vs, rfl, t1, r1⟩ := rx.tup
    obtain ⟨b, ws, rfl, t2, r2⟩ := ry.tup
    cases r2
    exact .inr (.inl ⟨a, b, rfl, rfl, .inl ⟨vs, seqT e.gle t1, seqT e.gle t2, k _ _ _ _ (.refl _) (e.dat (.bl _)) (by rw [r1.isE]; exact p)⟩⟩)
  · obtain ⟨a, vs, rfl, t1, r1⟩ := rx.lst e.gle
    obtain ⟨b, ws, rfl, t2, r2⟩ := ry.lst e.gle
    cases r2
    exact .inr (.inl ⟨a, b, rfl, rfl, .inr ⟨vs, .of t1, .of t2, k _ _ _ _ (.refl _) (e.dat (.bl _)) (by rw [r1.isE]; exact p)⟩⟩)
  · obtain ⟨b, ws, rfl, t2, r2⟩ := ry.tup
    rcases hx with ⟨kvs, rfl⟩ | ⟨zs, rfl⟩
    · obtain ⟨a, vs, rfl, t1, r1⟩ := rx.dct e.gle
      exact .inr (.inr (.inl ⟨a, b, ws, rfl, rfl, .inl ⟨_, t1⟩, seqT e.gle t2, k _ _ _ _ (.refl _) (e.dat (.bl _)) p⟩))
    · obtain ⟨a, vs, rfl, t1, r1⟩ := rx.lst e.gle
      exact .inr (.inr (.inl ⟨a, b, ws, rfl, rfl, .inr ⟨_, .of t1⟩, seqT e.gle t2, k _ _ _ _ (.refl _) (e.dat (.bl _)) p⟩))
  · refine .inr (.inr (.inr ⟨py x, py y, (rx.rp e.gle).dp h1, (ry.rp e.gle).dp h2, ?_, ?_, k _ _ _ _ (.refl _) (e.dat (.bl _)) (by rw [Bool.false_xor] at p; exact p)⟩))
    · unfold shD at h1; simp only [Bool.and_eq_true] at h1; exact h1.2
    · unfold shD at h2; simp only [Bool.and_eq_true] at h2; exact h2.2
theorem c_ne (K : PySem.W.Frag) : C2 np K (rNe3 K) (gEq true) := by
  intro B G ω ρ σ H v w x y P Q hn e rx ry g k
  rcases eq_cases g with ⟨a, b, ea, eb, hs, p⟩ | ⟨xs, rfl, rfl, p⟩ | ⟨xs, rfl, rfl, p⟩ | ⟨xs, hx, rfl, hn, p⟩ | ⟨h1, h2, p⟩
  · obtain ⟨rfl, _⟩ := rx.flat ea
    obtain ⟨rfl, _⟩ := ry.flat eb
    exact .inl ⟨hs, k _ _ _ _ (.refl _) (e.dat (.bl _)) (by rw [Bool.true_xor] at p; exact p)⟩
  · obtain ⟨a, vs, rfl, t1, r1⟩ := rx.tup
    obtain ⟨b, ws, rfl, t2, r2⟩ := ry.tup
    cases r2
    exact .inr (.inl ⟨a, b, rfl, rfl, .inl ⟨vs, seqT e.gle t1, seqT e.gle t2, k _ _ _ _ (.refl _) (e.dat (.bl _)) (by rw [r1.isE]; exact p)⟩⟩)
  · obtain ⟨a, vs, rfl, t1, r1⟩ := rx.lst e.gle
    obtain ⟨b, ws, rfl, t2, r2⟩ := ry.lst e.gle
    cases r2
    exact .inr (.inl ⟨a, b, rfl, rfl, .inr ⟨vs, .of t1, .of t2, k _ _ _ _ (.refl _) (e.dat (.bl _)) (by rw [r1.isE]; exact p)⟩⟩)
  · cases hn
  · refine .inr (.inr ⟨py x, py y, (rx.rp e.gle).dp h1, (ry.rp e.gle).dp h2, ?_, ?_, k _ _ _ _ (.refl _) (e.dat (.bl _)) (by rw [Bool.true_xor] at p; exact p)⟩)
    · unfold shD at h1; simp only [Bool.and_eq_true] at h1; exact h1.2
    · unfold shD at h2; simp only [Bool.and_eq_true] at h2; exact h2.2
def gOrd (f : Int → Int → Bool) (fs : Str → Str → Bool) : DOp2 := fun x y P => match x, y with
  | .int i, .int j => P (.dat (.bl (f i j)))
  | .str a, .str b => P (.dat (.bl (fs a b)))
  | _, _ => False
def rOrd (f : Int → Int → Bool) (fs : Str → Str → Bool) : R2 := fun x y H Q => (rI0 fun i j => .bl (f i j)) x y H Q ∨ ∃ i j, x = .str i ∧ y = .str j ∧ Q (.bl (fs i j)) H
theorem c_ord (K : PySem.W.Frag) {f : Int → Int → Bool} {fs : Str → Str → Bool} : C2 np K (rOrd f fs) (gOrd f fs) := by
  intro B G ω ρ σ H v w x y P Q hn e rx ry g k
  cases x with
  | int i =>
    cases y with
    | int j => rw [rx.int, ry.int]; exact .inl ⟨i, j, rfl, rfl, k _ _ _ _ (.refl _) (e.dat (.bl _)) g⟩
    | _ => exact g.elim
  | str i =>
    cases y with
    | str j => rw [rx.str, ry.str]; exact .inr ⟨i, j, rfl, rfl, k _ _ _ _ (.refl _) (e.dat (.bl _)) g⟩
    | _ => exact g.elim
  | _ => cases y <;> exact g.elim
def gGe : DOp2 := gOrd (fun i j => decide (j ≤ i)) fun i j => !decide (i.cps.toList < j.cps.toList)
theorem op_ge2 {X : Cx} : OpR X (compareOp .GtE) (rOrd (fun i j => decide (j ≤ i)) fun i j => !decide (i.cps.toList < j.cps.toList)) := OpR_or op_ge op_ge_str
def strIn (a z : Str) : Bool := !(Builtin.Str.occurrences z a 0 z.length 1).isEmpty
def gIn (neg : Bool) : DOp2 := fun x y P => match fv x, y with
  | some (.str a), .str z => P (.dat (.bl (neg ^^ strIn a z)))
  | some a, .lst ys => (match fvs ys with | some bs => P (.dat (.bl (neg ^^ inV a bs))) | none => False)
  | some a, .tup ys => (match fvs ys with | some bs => P (.dat (.bl (neg ^^ inV a bs))) | none => False)
  | _, _ => False
def rIn2 (K : PySem.W.Frag) (neg : Bool) : R2 := fun x y H Q => (∃ i j, x = .str i ∧ y = .str j ∧ Q (.bl (neg ^^ strIn i j)) H) ∨ rIn K neg x y H Q
theorem op_in2 {X : Cx} : OpR X (compareOp .In) (rIn2 X.K false) := by
  refine OpR_or ?_ op_in_seq
  intro pins s σ H x y v u Q I rx ry h
  obtain ⟨i, j, e1, e2, q⟩ := h
  exact op_in_str pins s σ H x y v u Q I rx ry ⟨i, j, e1, e2, by rw [Bool.false_xor] at q; exact q⟩
theorem neg_in {neg b : Bool} : (if neg = true then !b else b) = (neg ^^ b) := by cases neg <;> cases b <;> rfl
theorem c_in (K : PySem.W.Frag) {neg : Bool} : C2 np K (rIn2 K neg) (gIn neg) := by
  intro B G ω ρ σ H v w x y P Q hn e rx ry g k
  unfold gIn at g
  split at g
  · rename_i a z ex
    obtain ⟨rfl, _⟩ := rx.flat ex
    rw [ry.str]
    exact .inl ⟨a, z, rfl, rfl, k _ _ _ _ (.refl _) (e.dat (.bl _)) g⟩
  · rename_i a ys _ ex
    split at g
    · rename_i bs eb
      obtain ⟨rfl, f⟩ := rx.flat ex
      obtain ⟨p, vs, rfl, h, r⟩ := ry.lst e.gle
      obtain ⟨rfl, f2⟩ := r.flat eb
      exact .inr ⟨p, vs, rfl, .inl (.of h), f, f2, by rw [neg_in]; exact k _ _ _ _ (.refl _) (e.dat (.bl _)) g⟩
    · exact g.elim
  · rename_i a ys _ ex
    split at g
    · rename_i bs eb
      obtain ⟨rfl, f⟩ := rx.flat ex
      obtain ⟨p, vs, rfl, h, r⟩ := ry.tup
      obtain ⟨rfl, f2⟩ := r.flat eb
      exact .inr ⟨p, vs, rfl, .inr (seqT e.gle h), f, f2, by rw [neg_in]; exact k _ _ _ _ (.refl _) (e.dat (.bl _)) g⟩
    · exact g.elim
  · exact g.elim
end TL
namespace TL
variable {np : Np}
open PySem PySem.Spec PyProof.Rows L2
def gLen : DOpL := fun xs P => match xs with
  | [.str z] => z.length ≤ sizeLine ∧ P (.dat (.int z.length))
  | [.lst ys] => P (.dat (.int ys.length))
  | [.tup ys] => P (.dat (.int ys.length))
  | [.scr ns] => P (.dat (.int ns.length))
  | [.dct kvs] => P (.dat (.int kvs.length))
  | _ => False
def rLen2 (K : PySem.W.Frag) : List V → Hp → VK → Prop := fun xs H Q => (∃ x n, xs = [x] ∧ LenV K x H n ∧ Q (.int n) H) ∨ ∃ d kvs, xs = [.ref d] ∧ H d = some (.dK kvs) ∧ Q (.int kvs.length) H
theorem call_len2 {X : Cx} : CallR X (.builtin "len") (rLen2 X.K) := by
  refine CallR.or call_len ?_
  intro pins s σ H xs us Q I r h
  obtain ⟨d, kvs, e, hd, q⟩ := h
  exact call_lenD pins s σ H xs us Q I r ⟨d, kvs, e, hd, q⟩
theorem RpK.length {K : PySem.W.Frag} {G : Hp} : ∀ {vs : List (Key × V)} {ds : List (Key × D)}, RpK K G vs ds → vs.length = ds.length
  | _, _, .nil => rfl
  | _, _, .cons _ r => congrArg (· + 1) r.length
theorem c_len (K : PySem.W.Frag) : CL np K (rLen2 K) gLen := by
  intro B G ω ρ σ H vs xs P Q hn e r g k
  unfold gLen at g
  split at g
  · obtain ⟨v, rfl, rv⟩ := r.one
    rw [rv.str]
    exact .inl ⟨_, _, rfl, ⟨g.1, rfl⟩, k _ _ _ _ (.refl _) (e.dat (.int _)) g.2⟩
  · obtain ⟨v, rfl, rv⟩ := r.one
    obtain ⟨a, ws, rfl, h, rr⟩ := rv.lst e.gle
    exact .inl ⟨_, _, rfl, .inl ⟨ws, .of h, rfl⟩, k _ _ _ _ (.refl _) (e.dat (.int _)) (by rw [rr.length]; exact g)⟩
  · obtain ⟨v, rfl, rv⟩ := r.one
    obtain ⟨a, ws, rfl, h, rr⟩ := rv.tup
    exact .inl ⟨_, _, rfl, .inr ⟨ws, seqT e.gle h, rfl⟩, k _ _ _ _ (.refl _) (e.dat (.int _)) (by rw [rr.length]; exact g)⟩
  · obtain ⟨v, rfl, rv⟩ := r.one
    obtain ⟨a, rfl, h⟩ := rv.scr
    exact .inl ⟨_, _, rfl, .inl ⟨_, e.gle.seq h, rfl⟩, k _ _ _ _ (.refl _) (e.dat (.int _)) (by rw [List.length_map]; exact g)⟩
  · obtain ⟨v, rfl, rv⟩ := r.one
    obtain ⟨a, ws, rfl, h, rr⟩ := rv.dct e.gle
    exact .inr ⟨_, _, rfl, h, k _ _ _ _ (.refl _) (e.dat (.int _)) (by rw [rr.length]; exact g)⟩
  · exact g.elim
def tyN : D → Option String
  | .non => some "NoneType"
  | .bl _ => some "bool"
  | .int _ => some "int"
  | .str _ => some "str"
  | .tup _ => some "tuple"
  | .lst _ => some "list"
  | .dct _ => some "dict"
  | .scr _ => some "list"
  | _ => none
def subT (t n : String) : Bool := t == n || (t == "bool" && n == "int")
def isT (n : String) (d : D) : Bool := match tyN d with
  | some t => subT t n
  | none => false
theorem Rp.tyv {K : PySem.W.Frag} {G : Hp} {v : V} {n : String} (r : Rp K G v (.ty n)) : v = .ty n := by cases r; rfl
theorem RdV.tyv {K : PySem.W.Frag} {G H : Hp} {v : V} {n : String} (r : RdV K G H v (.ty n)) : v = .ty n := by
  rcases r with r | ⟨_, _, _, _, e, _⟩ | ⟨_, _, _, _, e, _⟩
  · exact r.tyv
  · cases e
  · cases e
def gInt : DOpL := fun xs P => match xs with
  | [.int i] => P (.dat (.int i))
  | [.bl b] => P (.dat (.int (if b then 1 else 0)))
  | _ => False
theorem c_int (K : PySem.W.Frag) : CL np K (fun xs H Q => (∃ i, xs = [.int i] ∧ Q (.int i) H) ∨ ∃ k, xs = [.bl k] ∧ Q (.int (if k then 1 else 0)) H) gInt := by
  intro B G ω ρ σ H vs xs P Q hn e r g k
  unfold gInt at g
  split at g
  · obtain ⟨v, rfl, rv⟩ := r.one
    rw [rv.int]
    exact .inl ⟨_, rfl, k _ _ _ _ (.refl _) (e.dat (.int _)) g⟩
  · obtain ⟨v, rfl, rv⟩ := r.one
    rw [rv.bl]
    exact .inr ⟨_, rfl, k _ _ _ _ (.refl _) (e.dat (.int _)) g⟩
  · exact g.elim
def gMin2 : DOpL := fun xs P => match xs with
  | [.int i, .int j] => P (.dat (.int (if j < i then j else i)))
  | _ => False
theorem c_min2 (K : PySem.W.Frag) : CL np K (fun xs H Q => ∃ i j, xs = [.int i, .int j] ∧ Q (.int (if j < i then j else i)) H) gMin2 := by
  intro B G ω ρ σ H vs xs P Q hn e r g k
  unfold gMin2 at g
  split at g
  · obtain ⟨v, w, rfl, rv, rw'⟩ := r.two
    rw [rv.int, rw'.int]
    exact ⟨_, _, rfl, k _ _ _ _ (.refl _) (e.dat (.int _)) g⟩
  · exact g.elim
def gIx : DOp2 := fun x y P => match x, y with
  | .lst xs, .int i => (match atI xs i with | some d => P (.dat d) | none => False)
  | .tup xs, .int i => (match atI xs i with | some d => P (.dat d) | none => False)
  | .str z, .int i => (match atI z.cps.toList i with | some c => z.length ≤ sizeLine ∧ P (.dat (.str ⟨#[c]⟩)) | none => False)
  | _, _ => False
theorem RpL.atI {K : PySem.W.Frag} {G : Hp} {vs : List V} {ds : List D} {i : Int} {d : D} (r : RpL K G vs ds) (h : L2.atI ds i = some d) : ∃ v, L2.atI vs i = some v ∧ Rp K G v d := by
  unfold L2.atI at h ⊢
  rw [r.length]
  cases q : ixN ds.length i with
  | none => rw [q] at h; cases h
  | some j =>
    rw [q] at h
    exact r.get h
theorem c_ix (K : PySem.W.Frag) : C2 np K (rIx K) gIx := by
  intro B G ω ρ σ H v w x y P Q hn e rx ry g k
  unfold gIx at g
  split at g
  · split at g
    · rename_i d ed
      obtain ⟨a, ws, rfl, h, rr⟩ := rx.lst e.gle
      rw [ry.int]
      obtain ⟨u, h1, h2⟩ := rr.atI ed
      exact .inl ⟨a, ws, _, u, rfl, rfl, .of h, h1, k _ _ _ _ (.refl _) (e.dat h2) g⟩
    · exact g.elim
  · split at g
    · rename_i d ed
      obtain ⟨a, ws, rfl, h, rr⟩ := rx.tup
      rw [ry.int]
      obtain ⟨u, h1, h2⟩ := rr.atI ed
      exact .inr (.inl ⟨a, ws, _, u, rfl, rfl, seqT e.gle h, h1, k _ _ _ _ (.refl _) (e.dat h2) g⟩)
    · exact g.elim
  · split at g
    · rename_i c ec
      rw [rx.str, ry.int]
      exact .inr (.inr ⟨_, _, c, rfl, rfl, g.1, ec, k _ _ _ _ (.refl _) (e.dat (.str _)) g.2⟩)
    · exact g.elim
  · exact g.elim
abbrev DPO := Env → (Option Int → Env → Prop) → Prop
section
variable {X : Cx} {e : Expr} {lo hi : Option Expr} {t : DTE} {tl th : DPO} {np : Np} {pos p2 : Pos}
theorem _root_.L2.PO.mo {o : Option Expr} {t t' : TO} (h : PO X o t) (m : ∀ σ H Q, t' σ H Q → t σ H Q) : PO X o t' := ⟨fun pins s σ H Q I q => h.run pins s σ H Q I (m _ _ _ q)⟩
theorem d_ix {a b : Expr} {ta tb : DTE} (ha : PE X a (lift X.K np ta)) (hb : PE X b (lift X.K np tb)) (hs : PlainIx b := by exact fun _ _ => rfl) : PE X (.Subscript a b pos) (lift X.K np (dBin gIx ta tb)) :=
  (pe_ix ix_seq ha hb hs).mo fun σ H Q h => two_ok (c_ix X.K) σ H Q h
end
end TL
namespace TL
variable {np : Np}
open PySem PySem.Spec PyProof.Rows L2
section
variable {K : PySem.W.Frag} {B : Bs} {G : Hp} {ω : Own} {ρ : Env} {σ : Stt} {H : Hp} {v : V}
theorem retag_i {i j : Nat} {a : Addr} (h : ω a = some i) : retag ω i j a = some j := by unfold retag; rw [if_pos h]
theorem retag_some {i j l : Nat} {a : Addr} (h : retag ω i j a = some l) : (l = j ∧ ω a = some i) ∨ (ω a = some l ∧ l ≠ j ∧ l ≠ i) := by
  unfold retag at h
  split at h
  · rename_i q; exact .inl ⟨(Option.some.inj h).symm, q⟩
  · rename_i n1
    split at h
    · cases h
    · rename_i n2
      exact .inr ⟨h, fun z => n2 (z ▸ h), fun z => n1 (z ▸ h)⟩
theorem retag_ne {i j l : Nat} {a : Addr} (h : ω a = some l) (hi : l ≠ i) (hj : l ≠ j) : retag ω i j a = some l := by
  unfold retag
  rw [if_neg (fun z => by rw [h] at z; exact hi (Option.some.inj z)), if_neg (fun z => by rw [h] at z; exact hj (Option.some.inj z))]
  exact h
theorem EnvW.setD (e : EnvW K B G ω ρ σ H) {i : Nat} {d : D} (r : Rp K G v d) : EnvOk K B G (ρ.set i (.fr d)) (σ.set i (some v)) H := by
  refine ⟨untag ω i, e.gle, e.g0, e.keep, fun a j q => e.own a j (untag_some q).1, by rw [List.length_set, List.length_set]; exact e.len, fun j s q => ?_, fun j s w q o p => ?_⟩
  · by_cases hj : j = i
    · subst hj
      have hl : j < ρ.length := by have := (List.getElem?_eq_some_iff.mp q).1; rwa [List.length_set] at this
      rw [List.getElem?_set_self hl] at q
      cases q
      exact ⟨v, List.getElem?_set_self (by rw [← e.len]; exact hl), r⟩
    · rw [List.getElem?_set_ne (Ne.symm hj)] at q
      rw [List.getElem?_set_ne (Ne.symm hj)]
      exact (e.slot j s q).mono (.refl _) fun a z => ⟨untag_ne hj z, rfl⟩
  · by_cases hj : j = i
    · subst hj
      have hl : j < ρ.length := by have := (List.getElem?_eq_some_iff.mp q).1; rwa [List.length_set] at this
      rw [List.getElem?_set_self hl] at q
      cases q
      cases o
    · rw [List.getElem?_set_ne (Ne.symm hj)] at q
      rw [List.getElem?_set_ne (Ne.symm hj)]
      exact e.pin j s w q o p
theorem SlOk.ov {F : Addr → Prop} {ov ov' : Option (Option V)} {s : Sl} (h : SlOk K G H F ov s) (e : ov' = ov) : SlOk K G H F ov' s := by subst e; exact h
theorem EnvW.setN (e : EnvW K B G ω ρ σ H) {i : Nat} {s : Sl} (o : s.own = true) (h : SlOk K G H (fun a => ω a = some σ.length) (some (some v)) s) (hp : B.P.length ≤ i) : EnvOk K B G (ρ.set i s) (σ.set i (some v)) H := by
  refine ⟨retag ω σ.length i, e.gle, e.g0, e.keep, fun a j q => ?_, by rw [List.length_set, List.length_set]; exact e.len, fun j s' q => ?_, fun j s' w q o' p => ?_⟩
  · rcases retag_some q with ⟨_, q⟩ | ⟨q, _⟩
    · exact e.own a _ q
    · exact e.own a _ q
  · by_cases hj : j = i
    · subst hj
      have hl : j < ρ.length := by have := (List.getElem?_eq_some_iff.mp q).1; rwa [List.length_set] at this
      rw [List.getElem?_set_self hl] at q
      cases q
      exact (h.mono (.refl _) fun a z => ⟨retag_i z, rfl⟩).ov (List.getElem?_set_self (by rw [← e.len]; exact hl))
    · have hl : j < ρ.length := by have := (List.getElem?_eq_some_iff.mp q).1; rwa [List.length_set] at this
      have := e.len
      rw [List.getElem?_set_ne (Ne.symm hj)] at q
      rw [List.getElem?_set_ne (Ne.symm hj)]
      exact (e.slot j s' q).mono (.refl _) fun a z => ⟨retag_ne z (by omega) hj, rfl⟩
  · by_cases hj : j = i
    · subst hj
      have : j < B.P.length := (List.getElem?_eq_some_iff.mp p).1
      omega
    · rw [List.getElem?_set_ne (Ne.symm hj)] at q
      rw [List.getElem?_set_ne (Ne.symm hj)]
      exact e.pin j s' w q o' p
end
def dNext : DTS := fun D ρ => D.nx ρ
def dSeq (t u : DTS) : DTS := fun D ρ => t { D with nx := u D } ρ
def dRet (t : DTE) : DTS := fun D ρ => t ρ D.rt
def dIf (c : DTT) (t u : DTS) : DTS := fun D ρ => c ρ fun b ρ1 => if b = true then t D ρ1 else u D ρ1
def dPut (np i : Nat) (r : Rs) (ρ : Env) (k : Env → Prop) : Prop := match r with
  | .dat d => k (ρ.set i (.fr d))
  | .nw s => np ≤ i ∧ k (ρ.set i s)
  | .sl _ => False
def dSet (np i : Nat) (t : DTE) : DTS := fun D ρ => t ρ fun r ρ1 => dPut np i r ρ1 D.nx
abbrev DTG := D → Env → (Env → Prop) → Prop
abbrev DTGs := List D → Env → (Env → Prop) → Prop
def hName (i : Nat) : DTG := fun d ρ k => k (ρ.set i (.fr d))
def hNil : DTGs := fun ds ρ k => ds = [] ∧ k ρ
def hCons (t : DTG) (u : DTGs) : DTGs := fun ds ρ k => match ds with
  | d :: r => t d ρ fun ρ1 => u r ρ1 k
  | [] => False
def hTup (n : Nat) (t : DTGs) : DTG := fun d ρ k => match d with
  | .tup xs => xs.length = n ∧ t xs ρ k
  | _ => False
def Off (vs : List Nat) (σ σ' : Stt) : Prop := σ'.length = σ.length ∧ ∀ j, j ∉ vs → σ'[j]? = σ[j]?
theorem Off.refl (vs : List Nat) (σ : Stt) : Off vs σ σ := ⟨rfl, fun _ _ => rfl⟩
theorem Off.trans {vs : List Nat} {σ σ1 σ2 : Stt} (a : Off vs σ σ1) (b : Off vs σ1 σ2) : Off vs σ σ2 := ⟨b.1.trans a.1, fun j h => (b.2 j h).trans (a.2 j h)⟩
theorem Off.mono {vs ws : List Nat} {σ σ' : Stt} (a : Off vs σ σ') (h : ∀ j ∈ vs, j ∈ ws) : Off ws σ σ' := ⟨a.1, fun j q => a.2 j fun z => q (h j z)⟩
theorem wipe_get {σ : Stt} : ∀ {vs : List Nat} {j : Nat}, (wipe σ vs)[j]? = if j ∈ vs ∧ j < σ.length then some none else σ[j]?
  | [], j => by simp [wipe]
  | v :: vs, j => by
    unfold wipe
    by_cases hj : j = v
    · subst hj
      by_cases hl : j < σ.length
      · rw [List.getElem?_set_self (by rw [wipe_length]; exact hl), if_pos ⟨List.mem_cons_self, hl⟩]
      · rw [if_neg (fun z => hl z.2), List.getElem?_eq_none (by rw [List.length_set, wipe_length]; omega), List.getElem?_eq_none (by omega)]
    · rw [List.getElem?_set_ne (Ne.symm hj), wipe_get]
      simp [hj]
theorem Off.wipe {vs : List Nat} {σ σ' : Stt} (h : Off vs σ σ') : L2.wipe σ' vs = L2.wipe σ vs := by
  apply List.ext_getElem?
  intro j
  rw [wipe_get, wipe_get, h.1]
  by_cases hj : j ∈ vs
  · by_cases hl : j < σ.length
    · rw [if_pos ⟨hj, hl⟩, if_pos ⟨hj, hl⟩]
    · rw [if_neg (fun z => hl z.2), if_neg (fun z => hl z.2), List.getElem?_eq_none (by rw [h.1]; omega), List.getElem?_eq_none (by omega)]
  · rw [if_neg (fun z => hj z.1), if_neg (fun z => hj z.1), h.2 j hj]
def liftG (K : PySem.W.Frag) (np : Np) (vs : List Nat) (g : DTG) : TG := fun v σ H Q => ∃ B G ρ d kd, np.ok B ∧ EnvOk K B G ρ σ H ∧ Rp K G v d ∧ g d ρ kd ∧
  ∀ ρ' σ' , EnvOk K B G ρ' σ' H → Off vs σ σ' → kd ρ' → Q σ' H
def liftGs (K : PySem.W.Frag) (np : Np) (vs : List Nat) (g : DTGs) : TGs := fun xs σ H Q => ∃ B G ρ ds kd, np.ok B ∧ EnvOk K B G ρ σ H ∧ RpL K G xs ds ∧ g ds ρ kd ∧
  ∀ ρ' σ' , EnvOk K B G ρ' σ' H → Off vs σ σ' → kd ρ' → Q σ' H
section
variable {X : Cx} {e c o : Expr} {es : List Expr} {st : Stmt} {sts : List Stmt} {te : DTE} {tc : DTT} {t u : DTS} {np : Np} {pos pos' : Pos}
theorem _root_.L2.PG.mo {g : Expr} {t t' : TG} (h : PG X g t) (m : ∀ v σ H Q, t' v σ H Q → t v σ H Q) : PG X g t' := ⟨fun pins s σ H v u Q I r q => h.run pins s σ H v u Q I r (m _ _ _ _ q)⟩
theorem _root_.L2.PGs.mo {g : List Expr} {t t' : TGs} (h : PGs X g t) (m : ∀ v σ H Q, t' v σ H Q → t v σ H Q) : PGs X g t' := ⟨fun pins s σ H v u Q I r q => h.run pins s σ H v u Q I r (m _ _ _ _ q)⟩
theorem ds_nil : PSs X [] (liftS X.K np dNext) := pss_nil.mo fun D σ H ⟨B, G, ρ, Dd, hn, eo, h, k, _⟩ => k _ _ _ _ (.refl _) eo h
theorem ds_cons (h1 : PS X st (liftS X.K np t)) (h2 : PSs X sts (liftS X.K np u)) : PSs X (st :: sts) (liftS X.K np (dSeq t u)) := by
  refine (pss_cons h1 h2).mo fun D σ H h => ?_
  obtain ⟨B, G, ρ, Dd, hn, eo, h, k1, k2, k3, k4⟩ := h
  refine ⟨B, G, ρ, _, hn, eo, h, fun G1 ρ1 σ1 H1 s1 e1 q1 => ?_, k2, k3, k4⟩
  exact ⟨B, G1, ρ1, Dd, hn, e1, q1, fun G' ρ' σ' H' s e q => k1 _ _ _ _ (s1.trans s) e q, fun G' v r ρ' σ' H' s e q => k2 _ _ _ _ _ _ (s1.trans s) e q, fun G' ρ' σ' H' s e q => k3 _ _ _ _ (s1.trans s) e q, fun G' ρ' σ' H' s e q => k4 _ _ _ _ (s1.trans s) e q⟩
theorem ds_one (h1 : PS X st (liftS X.K np t)) : PSs X [st] (liftS X.K np t) := pss_one h1
theorem ds_ret (h : PE X e (lift X.K np te)) : PS X (.Return (some e) pos) (liftS X.K np (dRet te)) :=
  (ps_ret h).mo fun D σ H ⟨B, G, ρ, Dd, hn, eo, h, k1, k2, k3, k4⟩ => ⟨B, G, ρ, _, hn, eo, h, fun G' v r ρ' H' s f q => k2 _ _ _ _ _ _ s f q⟩
theorem ds_if (hc : PT X c (liftT X.K np tc)) {sa sb : List Stmt} (ha : PSs X sa (liftS X.K np t)) (hb : PSs X sb (liftS X.K np u)) : PS X (.If c sa sb pos) (liftS X.K np (dIf tc t u)) := by
  refine (ps_if hc ha hb).mo fun D σ H h => ?_
  obtain ⟨B, G, ρ, Dd, hn, eo, h, k1, k2, k3, k4⟩ := h
  refine ⟨B, G, ρ, _, hn, eo, h, fun G1 c ρ1 H1 s1 e1 q1 => ?_⟩
  cases c with
  | true => exact iteT ⟨B, G1, ρ1, Dd, hn, e1, q1, fun G' ρ' σ' H' s e q => k1 _ _ _ _ (s1.trans s) e q, fun G' v r ρ' σ' H' s e q => k2 _ _ _ _ _ _ (s1.trans s) e q, fun G' ρ' σ' H' s e q => k3 _ _ _ _ (s1.trans s) e q, fun G' ρ' σ' H' s e q => k4 _ _ _ _ (s1.trans s) e q⟩
  | false => exact iteF ⟨B, G1, ρ1, Dd, hn, e1, q1, fun G' ρ' σ' H' s e q => k1 _ _ _ _ (s1.trans s) e q, fun G' v r ρ' σ' H' s e q => k2 _ _ _ _ _ _ (s1.trans s) e q, fun G' ρ' σ' H' s e q => k3 _ _ _ _ (s1.trans s) e q, fun G' ρ' σ' H' s e q => k4 _ _ _ _ (s1.trans s) e q⟩
theorem put_ok {B : Bs} {G : Hp} {ρ : Env} {σ : Stt} {H : Hp} {v : V} {r : Rs} {i : Nat} {k : Env → Prop} (hn : np.ok B) (f : Fin X.K B G ρ σ H v r) (h : dPut np.n i r ρ k) : ∃ ρ', EnvOk X.K B G ρ' (σ.set i (some v)) H ∧ k ρ' := by
  obtain ⟨ω, e, q⟩ := f
  cases r with
  | dat d => exact ⟨_, e.setD q, h⟩
  | sl j => exact h.elim
  | nw s => exact ⟨_, e.setN q.1 q.2 (by rw [hn.1]; exact h.1), h.2⟩
theorem ds_set (i : Nat) {x : Str} (hN : X.N.Nodup) (h : PE X e (lift X.K np te)) (hi : X.N[i]? = some x := by rfl) (hx : Loc X.env.scope x := by first | exact Or.inl rfl | exact Or.inr rfl)
    (hs : swapsWith e (some (.Name x pos')) pos.line X.env = pure false := by rfl) (hf : X.fn x = true ∨ X.env.scope.names.lookup x = some .local := by first | exact .inl rfl | exact .inr rfl) :
    PS X (.Assign [.Name x pos'] e pos) (liftS X.K np (dSet np.n i te)) := by
  refine (ps_set (i := i) hN hi hx h hs hf).mo fun D σ H h => ?_
  obtain ⟨B, G, ρ, Dd, hn, eo, h, k1, k2, k3, k4⟩ := h
  refine ⟨B, G, ρ, _, hn, eo, h, fun G1 v r ρ1 H1 s1 f1 q1 => ?_⟩
  obtain ⟨ρ', e', q⟩ := put_ok hn f1 q1
  exact k1 _ _ _ _ s1 e' q
theorem dg_name (i : Nat) {x : Str} (hN : X.N.Nodup) (hi : X.N[i]? = some x := by rfl) (hx : Loc X.env.scope x := by first | exact Or.inl rfl | exact Or.inr rfl) (hf : X.fn x = true ∨ X.env.scope.names.lookup x = some .local := by first | exact .inl rfl | exact .inr rfl) :
    PG X (.Name x pos) (liftG X.K np [i] (hName i)) := by
  refine (pg_name (i := i) hN hi hx hf).mo fun v σ H Q h => ?_
  obtain ⟨B, G, ρ, d, kd, hn, ⟨ω, eo⟩, r, h, k⟩ := h
  exact k _ _ (eo.setD r) ⟨List.length_set .., fun j hj => List.getElem?_set_ne (fun z => hj (by simp [z]))⟩ h
theorem dg_nil : PGs X [] (liftGs X.K np [] hNil) := by
  refine pgs_nil.mo fun vs σ H Q h => ?_
  obtain ⟨B, G, ρ, ds, kd, hn, eo, r, h, k⟩ := h
  obtain ⟨rfl, h⟩ := h
  cases r
  exact ⟨rfl, k _ _ eo (.refl _ _) h⟩
theorem dg_cons {vs ws : List Nat} {g : DTG} {gs : DTGs} (h1 : PG X e (liftG X.K np vs g)) (h2 : PGs X es (liftGs X.K np ws gs)) (hs : (assignEach (e :: es) X.env).map (·.2) = assign e X.env :: (assignEach es X.env).map (·.2) := by rfl) :
    PGs X (e :: es) (liftGs X.K np (vs ++ ws) (hCons g gs)) := by
  refine (pgs_cons h1 h2 hs).mo fun xs σ H Q h => ?_
  obtain ⟨B, G, ρ, ds, kd, hn, eo, r, h, k⟩ := h
  cases r with
  | nil => exact h.elim
  | cons r rr =>
    refine ⟨_, _, rfl, B, G, ρ, _, _, hn, eo, r, h, fun ρ1 σ1 e1 o1 q1 => ?_⟩
    exact ⟨B, G, ρ1, _, _, hn, e1, rr, q1, fun ρ2 σ2 e2 o2 q2 => k _ _ e2 ((o1.mono fun j hj => List.mem_append_left _ hj).trans (o2.mono fun j hj => List.mem_append_right _ hj)) q2⟩
theorem dg_tup {vs : List Nat} {gs : DTGs} {kk n : Nat} (hc : X.calm = true) (h : PGs X es (liftGs X.K np vs gs)) (hn : (assignEach es X.env).length = n := by rfl) (hst : (assignEach es X.env).findIdx? (·.1) = none := by rfl) :
    PG X (.Tuple es kk pos) (liftG X.K np vs (hTup n gs)) := by
  refine (pg_tup hc h hn hst).mo fun v σ H Q h => ?_
  obtain ⟨B, G, ρ, d, kd, hp, ⟨ω, eo⟩, r, h, k⟩ := h
  cases d with
  | tup xs =>
    obtain ⟨a, ws, rfl, ht, rr⟩ := (Rp.rd (H := H) r).tup
    exact ⟨a, ws, rfl, seqT eo.gle ht, by rw [rr.length]; exact h.1, B, G, ρ, xs, kd, hp, ⟨ω, eo⟩, rr, h.2, k⟩
  | _ => exact h.elim
end
end TL
namespace TL
open PySem PySem.Spec PyProof.Rows L2
section
variable {K : PySem.W.Frag} {B : Bs} {G G' : Hp} {ω ω' : Own} {ρ ρ' : Env} {σ σ' : Stt} {H H' : Hp}
def cutO (ω : Own) (n : Nat) : Own := fun a => match ω a with
  | some i => if i < n then some i else none
  | none => none
theorem cutO_some {n i : Nat} {a : Addr} (h : cutO ω n a = some i) : ω a = some i ∧ i < n := by
  unfold cutO at h
  split at h
  · rename_i j hj
    split at h
    · rename_i hl
      cases h
      exact ⟨hj, hl⟩
    · cases h
  · cases h
theorem cutO_lt {n i : Nat} {a : Addr} (h : ω a = some i) (hi : i < n) : cutO ω n a = some i := by
  unfold cutO
  rw [h]
  exact if_pos hi
theorem EnvW.rebase (e : EnvW K B G ω ρ σ H) : EnvW K (reB B G ω ρ.length H) G (cutO ω ρ.length) ρ σ H where
  gle := e.gle
  g0 := fun a o q => .inl q
  keep := {
    old := fun a o q _ _ => q
    tin := fun a t => by
      obtain ⟨h1, h2, ps, h3⟩ := e.tab t
      refine ⟨h1, ?_, ps, h3⟩
      rintro ⟨i, _, z⟩
      rw [h2] at z; cases z
    tabs := e.keep.tabs }
  own := fun a i q => by
    obtain ⟨q1, q2⟩ := cutO_some q
    obtain ⟨h1, h2, _⟩ := e.own a i q1
    exact ⟨h1, h2, .inl ⟨i, q2, q1⟩⟩
  len := e.len
  slot := fun i s q => (e.slot i s q).mono (.refl _) fun a z => ⟨cutO_lt z (List.getElem?_eq_some_iff.mp q).1, rfl⟩
  pin := e.pin
theorem EnvW.still {n : Nat} {D : Addr} {o : HO} (f : EnvW K (reB B G ω n H) G' ω' ρ' σ' H') (hD : H D = some o) (hw : ω D = none) (hg : G D = none) (ht : ∀ ps, o ≠ .tbl ps := by intro _ z; cases z) : H' D = some o ∧ ω' D = none ∧ G' D = none := by
  have na : ¬ (reB B G ω n H).A0 D := fun ⟨i, _, z⟩ => by rw [hw] at z; cases z
  have nt : ¬ (reB B G ω n H).tab D := fun t => by
    obtain ⟨_, _, ps, h3⟩ := f.keep.tin D t
    rw [show (reB B G ω n H).H0 D = H D from rfl, hD] at h3
    exact ht ps (Option.some.inj h3)
  refine ⟨f.keep.old D o hD na nt, ?_, ?_⟩
  · cases q : ω' D with
    | none => rfl
    | some i =>
      rcases (f.own D i q).2.2 with z | z
      · exact absurd z na
      · rw [show (reB B G ω n H).H0 D = H D from rfl, hD] at z; cases z
  · cases q : G' D with
    | none => rfl
    | some u =>
      rcases f.g0 D u q with z | z | z
      · rw [show (reB B G ω n H).G0 D = G D from rfl, hg] at z; cases z
      · rw [show (reB B G ω n H).H0 D = H D from rfl, hD] at z; cases z
      · exact absurd z na
theorem EnvW.poke (e : EnvW K B G ω ρ σ H) {D : Addr} {o : HO} (hw : ω D = none) (hg : G D = none) (h0 : B.A0 D ∨ B.H0 D = none) : EnvW K B G ω ρ σ (upd H D o) where
  gle := fun a u q => by rw [upd_ne (fun z => by subst z; rw [hg] at q; cases q)]; exact e.gle _ _ q
  g0 := e.g0
  keep := e.keep.upd h0
  own := fun a i q => by
    obtain ⟨h1, h2, h3⟩ := e.own a i q
    refine ⟨h1, ?_, h3⟩
    rw [upd_ne (fun z => by subst z; rw [hw] at q; cases q)]
    exact h2
  len := e.len
  slot := fun i s q => (e.slot i s q).mono (.refl _) fun a z => ⟨z, upd_ne fun y => by subst y; rw [hw] at z; cases z⟩
  pin := e.pin
end
abbrev DTI := Env → (List D → Env → Prop) → Prop
structure ItD (K : PySem.W.Frag) (J : It) (G : Hp) (ds : List D) : Prop where
  go : ∀ i H d, Same G H → ds[i]? = some d → J.go i H ∧ ∀ x H', J.yld i H x H' → (H' = H ∧ Rp K G x d) ∨ (∃ T vs es, H T = none ∧ x = .ref T ∧ H' = upd H T (.tup vs) ∧ d = .tup es ∧ RpL K G vs es) ∨ ∃ (T2 : Addr) (ws : List V) (fs : List D) (T : Addr) (j : Int), H T2 = none ∧ upd H T2 (.tup ws) T = none ∧ x = .ref T ∧ H' = upd (upd H T2 (.tup ws)) T (.tup [.int j, .ref T2]) ∧ d = .tup [.int j, .tup fs] ∧ RpL K G ws fs
  stop : ∀ i H, Same G H → ds.length ≤ i → J.stop i H
def liftI (K : PySem.W.Frag) (np : Np) (t : DTI) : TI := fun σ H R => ∃ B G ρ Qd, np.ok B ∧ EnvOk K B G ρ σ H ∧ t ρ Qd ∧
  ∀ G' ds ρ' H' J, Same G G' → EnvOk K B G' ρ' σ H' → ItD K J G' ds → Qd ds ρ' → R J H'
def iSeq (t : DTE) : DTI := fun ρ Q => t ρ fun r ρ1 => match stl r with
  | .dat (.lst xs) => Q xs ρ1
  | .dat (.tup xs) => Q xs ρ1
  | .dat (.scr ns) => Q (ns.map .int) ρ1
  | _ => False
def rangeD (lo : Int) (n : Nat) : List D := (List.range n).map fun (i : Nat) => .int (lo + (i : Int))
def iRange1 (t : DTA) : DTI := fun ρ Q => t ρ fun rs ρ1 => match datL rs with
  | some [.int j] => -(2 ^ 62) ≤ j ∧ j < 2 ^ 62 ∧ Q (rangeD 0 j.toNat) ρ1
  | _ => False
section
variable {X : Cx} {tg e : Expr} {es : List Expr} {te : DTE} {ta : DTA} {np : Np} {p pos : Pos}
theorem _root_.L2.PI.mo {i : Expr} {t t' : TI} (h : PI X tg i t) (m : ∀ σ H Q, t' σ H Q → t σ H Q) : PI X tg i t' := ⟨fun pins s σ H Q I q => h.run pins s σ H Q I (m _ _ _ q)⟩
theorem itd_list {K : PySem.W.Frag} {G : Hp} {a : Addr} {vs : List V} {ds : List D} (h : SqL K G a vs) (r : RpL K G vs ds) : ItD K (Itl K a) G ds where
  go := fun i H d s q => by
    obtain ⟨v, h1, h2⟩ := r.get q
    exact ⟨⟨vs, v, s.seq h, h1⟩, fun x H' y => .inl ⟨y.1, by
      have := y.2 vs (s.seq h)
      rw [h1] at this
      cases this
      exact h2⟩⟩
  stop := fun i H s q => ⟨vs, s.seq h, by rw [r.length]; exact q⟩
theorem itd_tup {K : PySem.W.Frag} {G : Hp} {a : Addr} {vs : List V} {ds : List D} (h : SqT K G a vs) (r : RpL K G vs ds) : ItD K (Itt K a) G ds where
  go := fun i H d s q => by
    obtain ⟨v, h1, h2⟩ := r.get q
    exact ⟨⟨vs, v, seqT s h, h1⟩, fun x H' y => .inl ⟨y.1, by
      have := y.2 vs (seqT s h)
      rw [h1] at this
      cases this
      exact h2⟩⟩
  stop := fun i H s q => ⟨vs, seqT s h, by rw [r.length]; exact q⟩
theorem pi_seq {l : Expr} {tl : TE} (hl : PE X l tl) : PI X tg l (fun σ H R => tl σ H fun x H1 => ∃ a, x = .ref a ∧ (((∃ xs, SqL X.K H1 a xs) ∧ R (Itl X.K a) H1) ∨ ((∃ xs, SqT X.K H1 a xs) ∧ R (Itt X.K a) H1))) := by
  refine ⟨fun pins s σ H R I h => ?_⟩
  refine thn (hl.run pins s σ H _ I h) fun v s1 ⟨x, H1, I1, r1, q1⟩ => ?_
  obtain ⟨a, rfl, q1⟩ := q1
  cases r1
  rcases q1 with ⟨⟨xs, hq⟩, q⟩ | ⟨⟨xs, hq⟩, q⟩
  · obtain ⟨its, rv, p, hz⟩ := I1.list hq
    refine wpAny_pyIter_list p.isList ?_
    have fr := I1.hok.fresh (Nat.le_refl s1.heap.objs.size)
    refine ⟨_, [s1.heap.objs.size], _, Itl X.K a, H1, rfl, I1.kept (t' := s1.toks) fun b o e => Heap.get?_push_of_some _ e, turn_list a _, ⟨_, Heap.get?_push_size _ rfl, rfl, rfl⟩, fun b hb => ?_, q⟩
    cases List.mem_singleton.mp hb
    exact I1.fpOk (Nat.le_refl _) fr
  · obtain ⟨its, rv, p, hz⟩ := I1.tuple hq
    refine wpAny_pyIter_tuple (show s1.heap.IsTuple a its.toArray from p) ?_
    have fr := I1.hok.fresh (Nat.le_refl s1.heap.objs.size)
    refine ⟨_, [s1.heap.objs.size], _, Itt X.K a, H1, rfl, I1.kept (t' := s1.toks) fun b o e => Heap.get?_push_of_some _ e, turn_tuple a _, ⟨_, Heap.get?_push_size _ rfl, rfl, rfl⟩, fun b hb => ?_, q⟩
    cases List.mem_singleton.mp hb
    exact I1.fpOk (Nat.le_refl _) fr
theorem di_seq (he : PE X e (lift X.K np te)) : PI X tg e (liftI X.K np (iSeq te)) := by
  refine (pi_seq he).mo fun σ H R h => ?_
  obtain ⟨B, G, ρ, Qd, hn, eo, h, k⟩ := h
  refine ⟨B, G, ρ, _, hn, eo, h, fun G1 v r ρ1 H1 s1 f1 q1 => ?_⟩
  obtain ⟨G2, s2, f2⟩ := f1.stl
  obtain ⟨ω, e2, r2⟩ := f2
  split at q1
  · rename_i xs hr
    rw [hr] at r2
    obtain ⟨a, vs, rfl, h1, rr⟩ := (Rp.rd (H := H1) r2).lst e2.gle
    have hg : G2 a = some (.lst vs) := by
      cases r2 with
      | lst g rr' =>
        have := e2.gle _ _ g
        rw [h1] at this
        cases this
        exact g
    exact ⟨a, rfl, .inl ⟨⟨vs, .of h1⟩, k _ _ _ _ _ (s1.trans s2) ⟨ω, e2⟩ (itd_list (.of hg) rr) q1⟩⟩
  · rename_i xs hr
    rw [hr] at r2
    obtain ⟨a, vs, rfl, h1, rr⟩ := (Rp.rd (H := H1) r2).tup
    exact ⟨a, rfl, .inr ⟨⟨vs, seqT e2.gle h1⟩, k _ _ _ _ _ (s1.trans s2) ⟨ω, e2⟩ (itd_tup h1 rr) q1⟩⟩
  · rename_i ns hr
    rw [hr] at r2
    obtain ⟨a, rfl, h1⟩ := (Rp.rd (H := H1) r2).scr
    exact ⟨a, rfl, .inl ⟨⟨_, e2.gle.seq h1⟩, k _ _ _ _ _ (s1.trans s2) ⟨ω, e2⟩ (itd_list h1 (RpL.ints ns)) q1⟩⟩
  · exact q1.elim
theorem rangeD_get {lo : Int} {n i : Nat} {d : D} (h : (rangeD lo n)[i]? = some d) : i < n ∧ d = .int (lo + (i : Int)) := by
  unfold rangeD at h
  rw [List.getElem?_map] at h
  by_cases hi : i < n
  · rw [List.getElem?_range hi] at h
    cases h
    exact ⟨hi, rfl⟩
  · rw [List.getElem?_eq_none (by simpa using hi)] at h
    cases h
theorem itd_range (K : PySem.W.Frag) (G : Hp) (lo : Int) (n : Nat) : ItD K (Itr lo n) G (rangeD lo n) where
  go := fun i H d s q => by
    obtain ⟨hi, rfl⟩ := rangeD_get q
    exact ⟨hi, fun x H' y => .inl ⟨y.1, by rw [y.2]; exact .int _⟩⟩
  stop := fun i H s q => by
    unfold rangeD at q
    show n ≤ i
    simpa using q
theorem di_range1 {a : Expr} (hg : Gl X "range") (hm : X.mg "range" = none) (ha : PA X [a] (liftA X.K np ta)) (hs : starEach [a] X.env = [(false, eval a X.env)] := by rfl) : PI X tg (.Call (.Name "range" p) [a] [] pos) (liftI X.K np (iRange1 ta)) := by
  refine (pi_range1 hg hm ha hs).mo fun σ H R h => ?_
  obtain ⟨B, G, ρ, Qd, hn, eo, h, k⟩ := h
  refine ⟨B, G, ρ, _, hn, eo, h, fun G1 vs rs ρ1 H1 s1 e1 ar q1 => ?_⟩
  split at q1
  · rename_i j hd
    have rr := ar.dat hd
    cases rr with
    | cons r rr =>
      cases rr
      cases r
      exact ⟨j, rfl, q1.1, q1.2.1, k _ _ _ _ _ s1 e1 (itd_range _ _ _ _) q1.2.2⟩
  · exact q1.elim
end
def dForL (g : DTG) (tb : DTS) (E : DEnds) : List D → Env → Prop
  | [], ρ => E.nx ρ
  | d :: ds, ρ => g d ρ fun ρ1 => tb { nx := dForL g tb E ds, rt := E.rt, bk := E.nx, ct := dForL g tb E ds } ρ1
def dFor (ti : DTI) (g : DTG) (tb : DTS) : DTS := fun D ρ => ti ρ fun ds ρ1 => dForL g tb D ds ρ1
section
variable {X : Cx} {tg iter : Expr} {body : List Stmt} {ti : DTI} {g : DTG} {tb : DTS} {vs : List Nat} {np : Np} {pos : Pos}
theorem ds_for (hp : PassesOwn (model X.prog X.w) X.A X.env X.xe) (hc : X.calm = true) (hi : PI X tg iter (liftI X.K np ti)) (hg : PG X tg (liftG X.K np vs g)) (hb : PSs X body (liftS X.K np tb))
    (hs : ∀ x, foldedSetIterable iter X.env x = pure x := by intro _; rfl) : PS X (.For tg iter body [] pos) (liftS X.K np (dFor ti g tb)) := by
  refine (ps_for hp hc hi hg hb hs).mo fun D σ H h => ?_
  obtain ⟨B, G, ρ, Dd, hn, eo, h, k1, k2, k3, k4⟩ := h
  refine ⟨B, G, ρ, _, hn, eo, h, fun G1 ds ρ1 H1 J s1 e1 it q1 => ?_⟩
  refine ⟨fun i m σ H => ∃ G' ρ', Same G1 G' ∧ EnvOk X.K B G' ρ' σ H ∧ m = ds.length - i ∧ i ≤ ds.length ∧ dForL g tb Dd (ds.drop i) ρ', ⟨ds.length, G1, ρ1, .refl _, e1, by simp, Nat.zero_le _, by rw [List.drop_zero]; exact q1⟩, ?_⟩
  rintro i m σ H ⟨G', ρ', s', e', rfl, hi', q'⟩
  obtain ⟨ω', e'⟩ := e'
  have ss := s1.trans s'
  by_cases hlt : i < ds.length
  · rw [List.drop_eq_getElem_cons hlt] at q'
    have gd : ds[i]? = some ds[i] := List.getElem?_eq_getElem hlt
    obtain ⟨hgo, hy⟩ := it.go i H ds[i] (fun a o q => e'.gle a o (s' a o q)) gd
    refine .inr ⟨hgo, fun σ2 H2 => ∃ G2 ρ2, Same G1 G2 ∧ EnvOk X.K B G2 ρ2 σ2 H2 ∧ dForL g tb Dd (ds.drop (i + 1)) ρ2, fun σ2 H2 ⟨G2, ρ2, s2, e2, q2⟩ => ⟨ds.length - (i + 1), by omega, G2, ρ2, s2, e2, rfl, hlt, q2⟩, fun x H2 y => ?_⟩
    have go : ∀ G2, Same G' G2 → EnvOk X.K B G2 ρ' σ H2 → Rp X.K G2 x ds[i] → liftG X.K np vs g x σ H2 fun σ2 H2 => liftS X.K np tb { D with nx := fun σ2 H2 => ∃ G2 ρ2, Same G1 G2 ∧ EnvOk X.K B G2 ρ2 σ2 H2 ∧ dForL g tb Dd (ds.drop (i + 1)) ρ2, ct := fun σ2 H2 => ∃ G2 ρ2, Same G1 G2 ∧ EnvOk X.K B G2 ρ2 σ2 H2 ∧ dForL g tb Dd (ds.drop (i + 1)) ρ2, bk := D.nx } σ2 H2 := fun G2 s2 e2 r2 => by
      refine ⟨B, G2, ρ', ds[i], _, hn, e2, r2, q', fun ρ3 σ3 e3 _ q3 => ?_⟩
      exact ⟨B, G2, ρ3, _, hn, e3, q3, fun G4 ρ4 σ4 H4 s4 e4 q4 => ⟨G4, ρ4, (s'.trans s2).trans s4, e4, q4⟩, fun G4 v r ρ4 σ4 H4 s4 e4 q4 => k2 _ _ _ _ _ _ ((ss.trans s2).trans s4) e4 q4,
        fun G4 ρ4 σ4 H4 s4 e4 q4 => k1 _ _ _ _ ((ss.trans s2).trans s4) e4 q4, fun G4 ρ4 σ4 H4 s4 e4 q4 => ⟨G4, ρ4, (s'.trans s2).trans s4, e4, q4⟩⟩
    rcases hy x H2 y with ⟨rfl, r2⟩ | ⟨T, ws, es, hT, rfl, rfl, ed, rr⟩ | ⟨T2, ws, fs, T, j, hT2, hT, rfl, rfl, ed, rr⟩
    · exact go G' (.refl _) ⟨ω', e'⟩ (r2.mono s')
    · obtain ⟨sg, f⟩ := e'.newT hT (rr.mono s')
      obtain ⟨ω2, e2, r2⟩ := f
      exact go _ sg ⟨ω2, e2⟩ (by rw [ed]; exact r2)
    · obtain ⟨sg, e2⟩ := e'.newG (o := .tup ws) hT2
      obtain ⟨sg2, f⟩ := e2.newT hT (vs := [.int j, .ref T2]) (ds := [.int j, .tup fs]) (.cons (.int _) (.cons (.tup (.inl (.inl upd_same)) ((rr.mono s').mono sg)) .nil))
      obtain ⟨ω3, e3, r3⟩ := f
      exact go _ (sg.trans sg2) ⟨ω3, e3⟩ (by rw [ed]; exact r3)
  · have ei : i = ds.length := by omega
    subst ei
    rw [List.drop_length] at q'
    exact .inl ⟨it.stop _ _ (fun a o q => e'.gle a o (s' a o q)) (Nat.le_refl _), k1 _ _ _ _ ss ⟨ω', e'⟩ q'⟩
end
def frO : Option Sl → Sl
  | some (.fr d) => .fr d
  | _ => .un
def wipeE (ρ : Env) : List Nat → Env
  | [] => ρ
  | v :: vs => (wipeE ρ vs).set v .un
def resto (ρ0 ρ : Env) : List Nat → Env
  | [] => ρ
  | v :: vs => (resto ρ0 ρ vs).set v (frO ρ0[v]?)
def dLcL (g : DTG) (tt : DTT) (te : DTE) (vs : List Nat) (ρ0 : Env) : List D → List D → Env → (Rs → Env → Prop) → Prop
  | [], acc, ρ, Q => Q (.nw (.ls acc)) (resto ρ0 ρ vs)
  | d :: ds, acc, ρ, Q => g d (wipeE ρ vs) fun ρ1 => tt ρ1 fun b ρ2 => if b = true then te ρ2 fun r ρ3 => (match stl r with
      | .dat x => acc.length < sizeLine ∧ dLcL g tt te vs ρ0 ds (acc ++ [x]) ρ3 Q
      | _ => False)
    else dLcL g tt te vs ρ0 ds acc ρ2 Q
def dLc (ti : DTI) (g : DTG) (tt : DTT) (te : DTE) (vs : List Nat) : DTE := fun ρ Q => ti ρ fun ds ρ1 => dLcL g tt te vs ρ1 ds [] ρ1 Q
def dYes : DTT := fun ρ Q => Q true ρ
section
variable {K : PySem.W.Frag} {B : Bs} {G : Hp} {ω : Own} {ρ ρ0 : Env} {σ : Stt} {H : Hp}
theorem wipeE_length (ρ : Env) : ∀ vs, (wipeE ρ vs).length = ρ.length
  | [] => rfl
  | v :: vs => by unfold wipeE; rw [List.length_set, wipeE_length ρ vs]
theorem resto_length (ρ0 ρ : Env) : ∀ vs, (resto ρ0 ρ vs).length = ρ.length
  | [] => rfl
  | v :: vs => by unfold resto; rw [List.length_set, resto_length ρ0 ρ vs]
theorem wipeE_get : ∀ {vs : List Nat} {j : Nat}, (wipeE ρ vs)[j]? = if j ∈ vs ∧ j < ρ.length then some .un else ρ[j]?
  | [], j => by simp [wipeE]
  | v :: vs, j => by
    unfold wipeE
    by_cases hj : j = v
    · subst hj
      by_cases hl : j < ρ.length
      · rw [List.getElem?_set_self (by rw [wipeE_length]; exact hl), if_pos ⟨List.mem_cons_self, hl⟩]
      · rw [if_neg (fun z => hl z.2), List.getElem?_eq_none (by rw [List.length_set, wipeE_length]; omega), List.getElem?_eq_none (by omega)]
    · rw [List.getElem?_set_ne (Ne.symm hj), wipeE_get]
      simp [hj]
theorem resto_get : ∀ {vs : List Nat} {j : Nat}, (resto ρ0 ρ vs)[j]? = if j ∈ vs ∧ j < ρ.length then some (frO ρ0[j]?) else ρ[j]?
  | [], j => by simp [resto]
  | v :: vs, j => by
    unfold resto
    by_cases hj : j = v
    · subst hj
      by_cases hl : j < ρ.length
      · rw [List.getElem?_set_self (by rw [resto_length]; exact hl), if_pos ⟨List.mem_cons_self, hl⟩]
      · rw [if_neg (fun z => hl z.2), List.getElem?_eq_none (by rw [List.length_set, resto_length]; omega), List.getElem?_eq_none (by omega)]
    · rw [List.getElem?_set_ne (Ne.symm hj), resto_get]
      simp [hj]
theorem EnvW.wipe (e : EnvW K B G ω ρ σ H) {σ' : Stt} {vs : List Nat} (o : Off vs σ σ') : EnvW K B G ω (wipeE ρ vs) (L2.wipe σ vs) H where
  gle := e.gle
  g0 := e.g0
  keep := e.keep
  own := e.own
  len := by rw [wipeE_length, wipe_length]; exact e.len
  slot := fun j s q => by
    rw [wipeE_get] at q
    split at q
    · cases q; trivial
    · rename_i n
      refine (e.slot j s q).ov ?_
      have hl := (List.getElem?_eq_some_iff.mp q).1
      rw [wipe_get, if_neg (fun z => n ⟨z.1, by rw [e.len]; exact z.2⟩)]
  pin := fun j s v q o' p => by
    rw [wipeE_get] at q
    split at q
    · cases q; cases o'
    · rename_i n
      rw [wipe_get, if_neg (fun z => n ⟨z.1, by rw [e.len]; exact z.2⟩)]
      exact e.pin j s v q o' p
theorem EnvW.wipe2 {σ' : Stt} {vs : List Nat} (e : EnvW K B G ω ρ σ' H) (o : L2.wipe σ' vs = L2.wipe σ vs) : EnvW K B G ω (wipeE ρ vs) (L2.wipe σ vs) H := by
  have := e.wipe (.refl vs σ')
  rw [o] at this
  exact this
theorem frO_ok {G0 : Hp} {F : Addr → Prop} {ov : Option (Option V)} {s : Option Sl} (sg : Same G0 G) (h : ∀ t, s = some t → SlOk K G0 H F ov t) {F' : Addr → Prop} {H' : Hp} : SlOk K G H' F' ov (frO s) := by
  cases s with
  | none => trivial
  | some t =>
    cases t with
    | fr d => obtain ⟨v, e, r⟩ := h _ rfl; exact ⟨v, e, r.mono sg⟩
    | _ => trivial
theorem EnvW.resto {vs : List Nat} {G0 H0 : Hp} {ω0 : Own} (e0 : EnvW K B G0 ω0 ρ0 σ H0) (sg : Same G0 G) (e : EnvW K B G ω ρ (L2.wipe σ vs) H) : EnvW K B G (fun a => match ω a with | some i => if i ∈ vs then none else some i | none => none) (TL.resto ρ0 ρ vs) σ H := by
  have hl : ρ.length = σ.length := by rw [e.len, wipe_length]
  have osome : ∀ {a i}, (match ω a with | some i => if i ∈ vs then none else some i | none => none) = some i → ω a = some i ∧ i ∉ vs := by
    intro a i q
    cases z : ω a with
    | none => rw [z] at q; cases q
    | some j =>
      rw [z] at q
      dsimp only at q
      split at q
      · cases q
      · rename_i n; cases q; exact ⟨rfl, n⟩
  refine ⟨e.gle, e.g0, e.keep, fun a i q => e.own a i (osome q).1, by rw [resto_length]; exact hl, fun j s q => ?_, fun j s v q o p => ?_⟩
  · rw [resto_get] at q
    split at q
    · cases q
      rename_i z
      refine frO_ok (H := H0) (F := fun a => ω0 a = some j) sg fun t ht => e0.slot j t ht
    · rename_i n
      have hj : j < ρ.length := (List.getElem?_eq_some_iff.mp q).1
      have hm : j ∉ vs := fun z => n ⟨z, hj⟩
      refine ((e.slot j s q).mono (F' := fun a => _) (.refl _) fun a z => ⟨?_, rfl⟩).ov ?_
      · show (match ω a with | some i => if i ∈ vs then none else some i | none => none) = some j
        rw [z]
        exact if_neg hm
      · rw [wipe_get, if_neg (fun z => hm z.1)]
  · rw [resto_get] at q
    split at q
    · cases q
      cases z : ρ0[j]? with
      | none => rw [z] at o; cases o
      | some t => rw [z] at o; cases t <;> cases o
    · rename_i n
      have hj : j < ρ.length := (List.getElem?_eq_some_iff.mp q).1
      have := e.pin j s v q o p
      rw [wipe_get, if_neg (fun z => n ⟨z.1, hj⟩)] at this
      exact this
end
section
variable {X : Cx} {tg iter elt : Expr} {ifs : List Expr} {scope : Scope} {own : List (Str × Nat)} {ti : DTI} {g : DTG} {tt : DTT} {te : DTE} {ws : List Nat} {np : Np} {pos pos' : Pos}
theorem lc_ok (hw : ∀ j ∈ ws, j ∈ own.map (·.2)) (σ : Stt) (H : Hp) (Q : VK) (h : lift X.K np (dLc ti g tt te (own.map (·.2))) σ H Q) :
    tLc (liftI X.K np ti) (liftG X.K np ws g) (liftT X.K np tt) (lift X.K np te) (own.map (·.2)) σ H Q := by
  obtain ⟨B, G, ρ, Qd, hn, eo, h, k⟩ := h
  refine ⟨B, G, ρ, _, hn, eo, h, fun G1 ds ρ1 H1 J s1 e1 it q1 D hD => ?_⟩
  generalize hvs : own.map (·.2) = vs at *
  obtain ⟨ω1, e1⟩ := e1
  have d0 : B.A0 D ∨ B.H0 D = none := e1.gone hD
  have hg1 : G1 D = none := Same.none e1.gle hD
  have hw1 : ω1 D = none := by
    cases q : ω1 D with
    | none => rfl
    | some i => exact absurd hD (e1.own D i q).2.1
  refine ⟨fun i m H => ∃ G' ω' ρ' acc wa, Same G1 G' ∧ EnvW X.K B G' ω' (wipeE ρ' vs) (wipe σ vs) H ∧ ω' D = none ∧ G' D = none ∧ H D = some (.lst wa) ∧ RpL X.K G' wa acc ∧ m = ds.length - i ∧ i ≤ ds.length ∧ dLcL g tt te vs ρ1 (ds.drop i) acc ρ' Qd,
    ⟨ds.length, G1, ω1, ρ1, [], [], .refl _, (e1.poke (o := .lst []) hw1 hg1 d0).wipe (.refl vs σ), hw1, hg1, upd_same, .nil, by simp, Nat.zero_le _, by rw [List.drop_zero]; exact q1⟩, ?_⟩
  rintro i m H2 ⟨G', ω', ρ', acc, wa, s', e', hw', hg', hD', ra, rfl, hi', q'⟩
  have ss := s1.trans s'
  by_cases hlt : i < ds.length
  · rw [List.drop_eq_getElem_cons hlt] at q'
    have gd : ds[i]? = some ds[i] := List.getElem?_eq_getElem hlt
    obtain ⟨hgo, hy⟩ := it.go i H2 ds[i] (fun a o q => e'.gle a o (s' a o q)) gd
    refine .inr ⟨hgo, fun H3 => ∃ G' ω' ρ' acc wa, Same G1 G' ∧ EnvW X.K B G' ω' (wipeE ρ' vs) (wipe σ vs) H3 ∧ ω' D = none ∧ G' D = none ∧ H3 D = some (.lst wa) ∧ RpL X.K G' wa acc ∧ dLcL g tt te vs ρ1 (ds.drop (i + 1)) acc ρ' Qd,
      fun H3 ⟨G3, ω3, ρ3, acc3, wa3, s3, e3, z1, z2, z3, z4, q3⟩ => ⟨ds.length - (i + 1), by omega, G3, ω3, ρ3, acc3, wa3, s3, e3, z1, z2, z3, z4, rfl, hlt, q3⟩, fun x H3 y => ?_⟩
    have go : ∀ G3 ω3, Same G' G3 → EnvW X.K B G3 ω3 (wipeE ρ' vs) (wipe σ vs) H3 → Rp X.K G3 x ds[i] → ω3 D = none → G3 D = none → H3 D = some (.lst wa) → liftG X.K np ws g x (wipe σ vs) H3 fun σ2 H4 => wipe σ2 vs = wipe σ vs ∧ liftT X.K np tt σ2 H4 fun b H5 =>
        if b = true then lift X.K np te σ2 H5 fun y H6 => ∃ acc, H6 D = some (.lst acc) ∧ acc.length < sizeLine ∧ (∃ G' ω' ρ' acc' wa, Same G1 G' ∧ EnvW X.K B G' ω' (wipeE ρ' vs) (wipe σ vs) (upd H6 D (.lst (acc ++ [y]))) ∧ ω' D = none ∧ G' D = none ∧ (upd H6 D (.lst (acc ++ [y]))) D = some (.lst wa) ∧ RpL X.K G' wa acc' ∧ dLcL g tt te vs ρ1 (ds.drop (i + 1)) acc' ρ' Qd)
        else ∃ G' ω' ρ' acc wa, Same G1 G' ∧ EnvW X.K B G' ω' (wipeE ρ' vs) (wipe σ vs) H5 ∧ ω' D = none ∧ G' D = none ∧ H5 D = some (.lst wa) ∧ RpL X.K G' wa acc ∧ dLcL g tt te vs ρ1 (ds.drop (i + 1)) acc ρ' Qd := fun G3 ω3 s3 e3 r3 hw3 hg3 hD3 => by
      refine ⟨reB B G3 ω3 (wipeE ρ' vs).length H3, G3, wipeE ρ' vs, ds[i], _, hn.re e3, ⟨_, e3.rebase⟩, r3, q', fun ρ4 σ4 e4 o4 q4 => ?_⟩
      have ow : wipe σ4 vs = wipe σ vs := by
        rw [(o4.mono hw).wipe]
        apply List.ext_getElem?
        intro j
        rw [wipe_get, wipe_length, wipe_get]
        split <;> rfl
      refine ⟨ow, reB B G3 ω3 (wipeE ρ' vs).length H3, G3, ρ4, _, hn.re e3, e4, q4, fun G5 b ρ5 H5 s5 e5 q5 => ?_⟩
      cases b with
      | false =>
        obtain ⟨ω5, e5⟩ := e5
        obtain ⟨z1, z2, z3⟩ := e5.still hD3 hw3 hg3
        exact iteF ⟨G5, ω5, ρ5, acc, wa, (s'.trans s3).trans s5, (e3.back e5).wipe2 ow, z2, z3, z1, ra.mono (s3.trans s5), q5⟩
      | true =>
        refine iteT ⟨reB B G3 ω3 (wipeE ρ' vs).length H3, G5, ρ5, _, hn.re e3, e5, q5, fun G6 u r ρ6 H6 s6 f6 q6 => ?_⟩
        obtain ⟨G7, s7, f7⟩ := f6.stl
        obtain ⟨ω7, e7, r7⟩ := f7
        obtain ⟨z1, z2, z3⟩ := e7.still hD3 hw3 hg3
        split at q6
        · rename_i dd hr
          rw [hr] at r7
          have rlen : wa.length = acc.length := ra.length
          have s37 := ((s3.trans s5).trans s6).trans s7
          exact ⟨wa, z1, by rw [rlen]; exact q6.1, G7, ω7, ρ6, _, wa ++ [u], s'.trans s37, ((e3.back e7).poke z2 z3 d0).wipe2 ow, z2, z3, upd_same, (ra.mono s37).append (.cons r7 .nil), q6.2⟩
        · exact q6.elim
    have hD2 : ∀ T, H2 T = none → D ≠ T := fun T hT z => by subst z; rw [hD'] at hT; cases hT
    rcases hy x H3 y with ⟨rfl, r2⟩ | ⟨T, wt, es, hT, rfl, rfl, ed, rr⟩ | ⟨T2, wt, fs, T, j, hT2, hT, rfl, rfl, ed, rr⟩
    · exact go G' ω' (.refl _) e' (r2.mono s') hw' hg' hD'
    · obtain ⟨sg, e2⟩ := e'.newG (o := .tup wt) hT
      exact go _ ω' sg e2 (by rw [ed]; exact .tup (.inl (.inl upd_same)) ((rr.mono s').mono sg)) hw' (by rw [upd_ne (hD2 T hT)]; exact hg') (by rw [upd_ne (hD2 T hT)]; exact hD')
    · obtain ⟨sg, e2⟩ := e'.newG (o := .tup wt) hT2
      obtain ⟨sg2, e3⟩ := e2.newG (o := .tup [.int j, .ref T2]) hT
      have n2 := hD2 T2 hT2
      have n1 : D ≠ T := fun z => by rw [← z, upd_ne n2, hD'] at hT; cases hT
      have n3 : T2 ≠ T := fun z => by rw [← z, upd_same] at hT; cases hT
      exact go _ ω' (sg.trans sg2) e3 (by rw [ed]; exact .tup (.inl (.inl upd_same)) (.cons (.int _) (.cons ((Rp.tup (.inl (.inl upd_same)) ((rr.mono s').mono sg)).mono sg2) .nil))) hw' (by rw [upd_ne n1, upd_ne n2]; exact hg') (by rw [upd_ne n1, upd_ne n2]; exact hD')
  · have ei : i = ds.length := by omega
    subst ei
    rw [List.drop_length] at q'
    refine .inl ⟨it.stop _ _ (fun a o q => e'.gle a o (s' a o q)) (Nat.le_refl _), ?_⟩
    have er := EnvW.resto (vs := vs) e1 s' e'
    have er2 : TL.resto ρ1 (wipeE ρ' vs) vs = TL.resto ρ1 ρ' vs := by
      apply List.ext_getElem?
      intro j
      rw [resto_get, resto_get, wipeE_get, wipeE_length]
      split
      · rfl
      · rfl
    rw [er2] at er
    obtain ⟨ωr, er, hωr⟩ : ∃ ωr, EnvW X.K B G' ωr (TL.resto ρ1 ρ' vs) σ H2 ∧ ωr D = none := ⟨_, er, by rw [hw']⟩
    refine k _ _ (.nw (.ls acc)) _ _ ss ⟨tagd ωr D σ.length, ?_, rfl, D, wa, rfl, tagd_same, hD', ra⟩ q'
    refine ⟨er.gle, er.g0, er.keep, fun a j q => ?_, er.len, fun j s q => ?_, er.pin⟩
    · unfold tagd at q
      split at q
      · rename_i ha
        subst ha
        cases q
        exact ⟨hg', by rw [hD']; simp, d0⟩
      · split at q
        · cases q
        · exact er.own a j q
    · refine (er.slot j s q).mono (.refl _) fun a z => ⟨?_, rfl⟩
      have hj : j < (TL.resto ρ1 ρ' vs).length := (List.getElem?_eq_some_iff.mp q).1
      have := er.len
      have ha : a ≠ D := fun w => by
        subst w
        rw [hωr] at z
        cases z
      unfold tagd
      rw [if_neg ha, if_neg (fun w => by rw [z] at w; have := Option.some.inj w; omega)]
      exact z
theorem d_lc (hc : X.calm = true) (hN : X.N.Nodup) (hi : PI X tg iter (liftI X.K np ti)) (ok : BlkOk X.N X.env.scope scope own)
    (hg : ∀ (s : Shared) (H : Hp) (C : Addr) (cl : List (Str × Addr)) (fp : List Addr), PG (X.blk s H scope (compEnvC scope cl C X.env) fp) tg (liftG X.K np ws g)) (ht : ∀ (s : Shared) (H : Hp) (C : Addr) (cl : List (Str × Addr)) (fp : List Addr), PTs (X.blk s H scope (compEnvC scope cl C X.env) fp) ifs (liftT X.K np tt))
    (he : ∀ (s : Shared) (H : Hp) (C : Addr) (cl : List (Str × Addr)) (fp : List Addr), PE (X.blk s H scope (compEnvC scope cl C X.env) fp) elt (lift X.K np te)) (hw : ∀ j ∈ ws, j ∈ own.map (·.2) := by decide) (hs : ∀ x, foldedSetIterable iter X.env x = pure x := by intro _; rfl) :
    PE X (.ListComp elt [⟨tg, iter, ifs, 0⟩] scope pos) (lift X.K np (dLc ti g tt te (own.map (·.2)))) := (pe_lc hc hN hi ok hg ht he hs).mo fun σ H Q h => lc_ok hw σ H Q h
theorem ds_setLc (i : Nat) {y : Str} {py : Pos} (hc : X.calm = true) (hN : X.N.Nodup) (hi : PI X tg iter (liftI X.K np ti)) (ok : BlkOk X.N X.env.scope scope own)
    (hg : ∀ (s : Shared) (H : Hp) (C : Addr) (cl : List (Str × Addr)) (fp : List Addr), PG (X.blk s H scope (compEnvC scope cl C X.env) fp) tg (liftG X.K np ws g)) (ht : ∀ (s : Shared) (H : Hp) (C : Addr) (cl : List (Str × Addr)) (fp : List Addr), PTs (X.blk s H scope (compEnvC scope cl C X.env) fp) ifs (liftT X.K np tt))
    (he : ∀ (s : Shared) (H : Hp) (C : Addr) (cl : List (Str × Addr)) (fp : List Addr), PE (X.blk s H scope (compEnvC scope cl C X.env) fp) elt (lift X.K np te))
    (hsw : swapsWith (.ListComp elt [⟨tg, iter, ifs, 0⟩] scope pos) (some (.Name y py)) pos'.line X.env = pure true) (hy : X.N[i]? = some y := by rfl) (hyl : X.env.scope.names.lookup y = some .local := by rfl) (hw : ∀ j ∈ ws, j ∈ own.map (·.2) := by decide) (hs : ∀ x, foldedSetIterable iter X.env x = pure x := by intro _; rfl) :
    PS X (.Assign [.Name y py] (.ListComp elt [⟨tg, iter, ifs, 0⟩] scope pos) pos') (liftS X.K np (dSet np.n i (dLc ti g tt te (own.map (·.2))))) := by
  refine (ps_setLc (i := i) hc hN hy hyl hsw hi ok hg ht he hs).mo fun D σ H h => ?_
  obtain ⟨B, G, ρ, Dd, hn, eo, h, k1, k2, k3, k4⟩ := h
  refine lc_ok hw σ H _ ⟨B, G, ρ, _, hn, eo, h, fun G1 v r ρ1 H1 s1 f1 q1 => ?_⟩
  obtain ⟨ρ', e', q⟩ := put_ok hn f1 q1
  exact k1 _ _ _ _ s1 e' q
theorem dts_nil : PTs X [] (liftT X.K np dYes) := ⟨fun pins s σ H Q I ⟨B, G, ρ, Qd, hn, eo, h, k⟩ => pts_nil.run pins s σ H Q I (k _ _ _ _ (.refl _) eo h)⟩
theorem dts_one {c : Expr} (h : PT X c (liftT X.K np tt)) : PTs X [c] (liftT X.K np tt) := pts_one h
end
end TL
namespace TL
variable {np : Np}
open PySem PySem.Spec PyProof.Rows L2
abbrev DMt := List D → List D → (D → List D → Prop) → Prop
theorem RdV.datL {K : PySem.W.Frag} {G H : Hp} {v : V} {d : D} (h : Rp K G v d) : RdV K G H v d := .inl h
end TL
namespace TL
open PySem PySem.Spec PyProof.Rows L2
abbrev DSp := List Sl → (Rs → List Sl → Prop) → Prop
def own' (s : Sl) : Sl := if s.own = true then s else .un
def baseOf (T : List (Addr × Str)) (G H : Hp) (ω : Own) (vs : List V) : Bs := ⟨G, H, fun a => ω a ≠ none, vs.map some, T⟩
def toSp (K : PySem.W.Frag) (T : List (Addr × Str)) (n : Nat) (S : DSp) : Sp := fun vs H Q E => ∃ G ω args Qd, vs.length = n ∧ EnvW K (baseOf T G H ω vs) G ω args (vs.map some) H ∧ S args Qd ∧
  ∀ G' ω' v r args' H', Same G G' → EnvW K (baseOf T G H ω vs) G' ω' args' (vs.map some) H' → RsOk K G' H' ω' (vs.map some) v r → (∀ j, r ≠ .sl j) → Qd r args' → Q v H'
def ownsOf (n : Nat) (ρ : Env) : List Sl := (List.range n).map fun i => own' (ρ[i]?.getD .un)
def fin1 (n : Nat) (Q : Rs → List Sl → Prop) : Rs → Env → Prop := fun r ρ => match r with
  | .dat d => Q (.dat d) (ownsOf n ρ)
  | .nw s => Q (.nw s) (ownsOf n ρ)
  | .sl j => n ≤ j ∧ ∃ s, ρ[j]? = some s ∧ s.own = true ∧ Q (.nw s) (ownsOf n ρ)
def dEnd (n : Nat) (Q : Rs → List Sl → Prop) : DEnds := { nx := fin1 n Q (.dat .non), rt := fin1 n Q }
def moveT (ω : Own) (q n : Nat) : Own := fun a => if ω a = some q then some n else match ω a with
  | some i => if i < n then some i else none
  | none => none
theorem own'_own {s : Sl} (h : (own' s).own = true) : own' s = s ∧ s.own = true := by
  unfold own' at h ⊢
  by_cases e : s.own = true
  · rw [if_pos e]; exact ⟨rfl, e⟩
  · rw [if_neg e] at h; cases h
theorem ownsOf_length (n : Nat) (ρ : Env) : (ownsOf n ρ).length = n := by unfold ownsOf; rw [List.length_map, List.length_range]
theorem ownsOf_get {n : Nat} {ρ : Env} {i : Nat} {s : Sl} (h : (ownsOf n ρ)[i]? = some s) : i < n ∧ s = own' (ρ[i]?.getD .un) := by
  unfold ownsOf at h
  rw [List.getElem?_map] at h
  by_cases hi : i < n
  · rw [List.getElem?_range hi] at h
    exact ⟨hi, (Option.some.inj h).symm⟩
  · rw [List.getElem?_eq_none (by rw [List.length_range]; omega)] at h
    cases h
section
variable {K : PySem.W.Frag} {G0 H0 G : Hp} {ω0 ω : Own} {ρ : Env} {σ : Stt} {H : Hp} {vs : List V}
theorem EnvW.leave (e : EnvW K (baseOf T G0 H0 ω0 vs) G ω ρ σ H) {q : Nat} (hq : ∀ i s, ρ[i]? = some s → i < vs.length → s.own = true → i ≠ q) :
    EnvW K (baseOf T G0 H0 ω0 vs) G (moveT ω q vs.length) (ownsOf vs.length ρ) (vs.map some) H where
  gle := e.gle
  g0 := e.g0
  keep := e.keep
  own := fun a i z => by
    unfold moveT at z
    split at z
    · rename_i w; exact e.own a _ w
    · split at z
      · rename_i j w; exact e.own a _ w
      · cases z
  len := by rw [ownsOf_length, List.length_map]
  slot := fun i s z => by
    obtain ⟨hi, rfl⟩ := ownsOf_get z
    by_cases o : (own' (ρ[i]?.getD .un)).own = true
    · obtain ⟨e1, e2⟩ := own'_own o
      rw [e1]
      cases w : ρ[i]? with
      | none => rw [w] at e2; cases e2
      | some s =>
        rw [w] at e2
        have e2 : s.own = true := e2
        show SlOk K G H _ _ s
        have hg : vs[i]? = some vs[i] := List.getElem?_eq_getElem hi
        have hp : (vs.map some)[i]? = some (some vs[i]) := by rw [List.getElem?_map, hg]; rfl
        have pp := e.pin i s vs[i] w e2 hp
        have sl := e.slot i s w
        rw [pp] at sl
        refine (sl.mono (.refl _) fun a y => ⟨?_, rfl⟩).ov hp
        unfold moveT
        rw [if_neg (fun u => by rw [y] at u; exact hq i s w hi e2 (Option.some.inj u)), y]
        show (if i < vs.length then _ else _) = _
        rw [if_pos hi]
    · have : own' (ρ[i]?.getD .un) = .un := by
        unfold own' at o ⊢
        split
        · rename_i y; rw [if_pos y] at o; exact absurd y o
        · rfl
      rw [this]
      trivial
  pin := fun i s v z o p => p
theorem moveT_same {q n : Nat} {a : Addr} (h : ω a = some q) : moveT ω q n a = some n := by unfold moveT; rw [if_pos h]
end
theorem fin_ok {K : PySem.W.Frag} {G0 H0 G : Hp} {ω0 : Own} {ρ : Env} {σ : Stt} {H : Hp} {vs : List V} {v : V} {r : Rs} {Qd : Rs → List Sl → Prop} {Q : VK} {n : Nat} (hn : vs.length = n)
    (s : Same G0 G) (f : Fin K (baseOf T G0 H0 ω0 vs) G ρ σ H v r) (h : fin1 n Qd r ρ)
    (k : ∀ G' ω' v r args' H', Same G0 G' → EnvW K (baseOf T G0 H0 ω0 vs) G' ω' args' (vs.map some) H' → RsOk K G' H' ω' (vs.map some) v r → (∀ j, r ≠ .sl j) → Qd r args' → Q v H') : Q v H := by
  subst hn
  obtain ⟨ω, e, q⟩ := f
  have lt : ∀ i s, ρ[i]? = some s → i < vs.length → s.own = true → i ≠ σ.length := fun i s w _ _ z => by
    have := (List.getElem?_eq_some_iff.mp w).1
    have := e.len
    omega
  cases r with
  | dat d => exact k _ _ _ (.dat d) _ _ s (e.leave lt) q (fun _ z => by cases z) h
  | nw sl =>
    refine k _ _ _ (.nw sl) _ _ s (e.leave lt) ⟨q.1, ?_⟩ (fun _ z => by cases z) h
    refine q.2.mono (.refl _) fun a z => ⟨?_, rfl⟩
    rw [List.length_map]
    exact moveT_same z
  | sl j =>
    obtain ⟨hj, sl, e1, e2, h⟩ := h
    have lt' : ∀ i s, ρ[i]? = some s → i < vs.length → s.own = true → i ≠ j := fun i s w hi _ z => by omega
    refine k _ _ _ (.nw sl) _ _ s (e.leave lt') ⟨e2, ?_⟩ (fun _ z => by cases z) h
    have q' : σ[j]? = some (some v) := q
    refine ((e.slot j sl e1).mono (.refl _) fun a z => ⟨?_, rfl⟩).ov q'.symm
    rw [List.length_map]
    exact moveT_same z
theorem EnvW.ext {K : PySem.W.Frag} {B : Bs} {G : Hp} {ω : Own} {ρ : Env} {σ : Stt} {H : Hp} (e : EnvW K B G ω ρ σ H) (hp : B.P.length ≤ σ.length) (m : Nat) : EnvW K B G ω (ρ ++ List.replicate m .un) (σ ++ List.replicate m none) H where
  gle := e.gle
  g0 := e.g0
  keep := e.keep
  own := e.own
  len := by rw [List.length_append, List.length_append, List.length_replicate, List.length_replicate, e.len]
  slot := fun i s z => by
    by_cases hi : i < ρ.length
    · rw [List.getElem?_append_left hi] at z
      rw [List.getElem?_append_left (by rw [← e.len]; exact hi)]
      exact e.slot i s z
    · rw [List.getElem?_append_right (by omega), List.getElem?_replicate] at z
      split at z
      · cases z; trivial
      · cases z
  pin := fun i s v z o p => by
    by_cases hi : i < ρ.length
    · rw [List.getElem?_append_left hi] at z
      rw [List.getElem?_append_left (by rw [← e.len]; exact hi)]
      exact e.pin i s v z o p
    · rw [List.getElem?_append_right (by omega), List.getElem?_replicate] at z
      split at z
      · cases z; cases o
      · cases z
def Keeps (S : DSp) (n N : Nat) (t : DTS) : Prop := ∀ args Qd, args.length = n → S args Qd → t (dEnd n Qd) (args ++ List.replicate (N - n) .un)
theorem body_ok {K : PySem.W.Frag} {T : List (Addr × Str)} {S : DSp} {n : Nat} {N : List Str} {t : DTS} {vs : List V} {H : Hp} {Q : VK} {E : XK} (hS : Keeps S n N.length t) (h : toSp K T n S vs H Q E) :
    liftS K (.of T n) t { nx := fun _ H' => Q .non H', rt := Q } (L2.start N vs) H := by
  obtain ⟨G, ω, args, Qd, hn, e, hs, k⟩ := h
  have la : args.length = n := by rw [e.len, List.length_map]; exact hn
  refine ⟨baseOf T G H ω vs, G, args ++ List.replicate (N.length - n) .un, dEnd n Qd, .mk' (by show (vs.map some).length = n; rw [List.length_map]; exact hn) rfl trivial, ⟨ω, ?_⟩, hS args Qd la hs, ?_, ?_, fun _ _ _ _ _ _ z => z.elim, fun _ _ _ _ _ _ z => z.elim⟩
  · unfold L2.start
    rw [hn]
    exact e.ext (Nat.le_refl _) _
  · exact fun G' ρ' σ' H' s eo z => fin_ok hn s (eo.dat .non) z k
  · exact fun G' v r ρ' σ' H' s f z => fin_ok hn s f z k
section
variable {P : Program} {w : World} {K : PySem.W.Frag} {mg : Str → Option Value} {base : Heap} {T : List (Addr × Str)}
theorem ok_tree {x qual : Str} {st : Stmt} {f : Addr} {fd : FuncData} {N ps : List Str} {k : Nat} {S : DSp} {t : DTS} (F : Fun K x qual st f fd) (sc : FnScope N ps (defScope st))
    (hb : ∀ (cdv : Value) (A : Around) (outer : List PySem.Env) (s : Shared) (H : Hp) (E : XK), Room k (A.deeper (envOfC qual (defScope st) s.heap.objs.size f cdv)) →
      PSs (cxOf CX0 P w K mg base N qual (defScope st) f cdv A outer s H E).nox (defBody st) (liftS K (.of T ps.length) t))
    (hS : Keeps S ps.length N.length t) : FnOk P w K mg base CX0 (k + 1) f fd ps (toSp K T ps.length S) :=
  F.ok sc (fun vs H Q E ⟨_, _, _, _, h, _⟩ => h) fun cdv A outer s H vs Q E hr h => ⟨_, hb cdv A outer s H E hr, body_ok hS h⟩
end
def slotOf (ρ : Env) : Rs → Option Sl
  | .dat d => some (.fr d)
  | .sl i => match ρ[i]? with
    | some s => if s.own = true then some s else none
    | none => none
  | .nw _ => none
def slotsOf (ρ : Env) : List Rs → Option (List Sl)
  | [] => some []
  | r :: rs => match slotOf ρ r, slotsOf ρ rs with
    | some s, some ss => some (s :: ss)
    | _, _ => none
def isSl (i : Nat) : Rs → Bool
  | .sl j => j == i
  | _ => false
def slNd : List Rs → Bool
  | [] => true
  | .sl i :: rs => !(rs.any (isSl i)) && slNd rs
  | _ :: rs => slNd rs
def posOf : List Rs → Nat → Option Nat
  | [], _ => none
  | r :: rs, i => if isSl i r = true then some 0 else (posOf rs i).map (· + 1)
def backE (ρ : Env) : List Rs → List Sl → Env
  | .sl i :: rs, s :: ss => (backE ρ rs ss).set i (own' s)
  | _ :: rs, _ :: ss => backE ρ rs ss
  | _, _ => ρ
def dCall (n : Nat) (S : DSp) (t : DTA) : DTE := fun ρ Q => t ρ fun rs ρ1 => rs.length = n ∧ slNd rs = true ∧ match slotsOf ρ1 rs with
  | some args => S args fun r ss => Q r (backE ρ1 rs ss)
  | none => False
theorem isSl_iff {i : Nat} {r : Rs} (h : isSl i r = true) : r = .sl i := by
  cases r with
  | sl j => rw [beq_iff_eq.mp (show (j == i) = true from h)]
  | dat _ => cases h
  | nw _ => cases h
theorem isSl_self {i : Nat} : isSl i (.sl i) = true := beq_self_eq_true i
theorem posOf_get : ∀ {rs : List Rs} {i j : Nat}, posOf rs i = some j → rs[j]? = some (.sl i)
  | [], _, _, h => by cases h
  | r :: rs, i, j, h => by
    unfold posOf at h
    split at h
    · rename_i z; cases h; rw [isSl_iff z]; rfl
    · cases w : posOf rs i with
      | none => rw [w] at h; cases h
      | some l =>
        rw [w] at h
        cases h
        show rs[l]? = _
        exact posOf_get (rs := rs) w
theorem posOf_nd : ∀ {rs : List Rs} {i j : Nat}, slNd rs = true → rs[j]? = some (.sl i) → posOf rs i = some j
  | [], _, _, _, h => by simp at h
  | r :: rs, i, 0, _, h => by
    have : r = .sl i := by simpa using h
    subst this
    unfold posOf
    rw [if_pos isSl_self]
  | r :: rs, i, j + 1, nd, h => by
    have h' : rs[j]? = some (.sl i) := by simpa using h
    have mem : (Rs.sl i) ∈ rs := List.mem_of_getElem? h'
    have nd' : slNd rs = true ∧ isSl i r = false := by
      cases r with
      | sl k =>
        have z : (!(rs.any (isSl k)) && slNd rs) = true := nd
        rw [Bool.and_eq_true] at z
        refine ⟨z.2, ?_⟩
        cases y : isSl i (.sl k) with
        | false => rfl
        | true =>
          have : k = i := beq_iff_eq.mp (show (k == i) = true from y)
          subst this
          have : rs.any (isSl k) = true := List.any_eq_true.mpr ⟨_, mem, isSl_self⟩
          rw [this] at z
          exact absurd z.1 (by simp)
      | dat _ => exact ⟨nd, rfl⟩
      | nw _ => exact ⟨nd, rfl⟩
    unfold posOf
    rw [if_neg (by rw [nd'.2]; simp), posOf_nd nd'.1 h']
    rfl
theorem backE_length (ρ : Env) : ∀ (rs : List Rs) (ss : List Sl), (backE ρ rs ss).length = ρ.length
  | [], _ => by cases ‹List Sl› <;> rfl
  | r :: _, [] => by cases r <;> rfl
  | .sl i :: rs, s :: ss => by show ((backE ρ rs ss).set i _).length = _; rw [List.length_set, backE_length]
  | .dat _ :: rs, s :: ss => backE_length ρ rs ss
  | .nw _ :: rs, s :: ss => backE_length ρ rs ss
theorem backE_at (ρ : Env) : ∀ {rs : List Rs} {ss : List Sl} {i j : Nat}, rs.length = ss.length → posOf rs i = some j → (backE ρ rs ss)[i]? = if i < ρ.length then (ss[j]?).map own' else none
  | [], _, _, _, _, h => by cases h
  | r :: rs, [], _, _, hl, _ => by simp at hl
  | r :: rs, s :: ss, i, j, hl, h => by
    unfold posOf at h
    have hl' : rs.length = ss.length := by simpa using hl
    split at h
    · rename_i z
      cases h
      obtain rfl := isSl_iff z
      show ((backE ρ rs ss).set i (own' s))[i]? = _
      by_cases hi : i < ρ.length
      · rw [List.getElem?_set_self (by rw [backE_length]; exact hi), if_pos hi]; rfl
      · rw [if_neg hi, List.getElem?_eq_none (by rw [List.length_set, backE_length]; omega)]
    · rename_i z
      cases w : posOf rs i with
      | none => rw [w] at h; cases h
      | some l =>
        rw [w] at h
        cases h
        have ih := backE_at ρ (rs := rs) (ss := ss) hl' w
        show _ = if i < ρ.length then (ss[l]?).map own' else none
        rw [← ih]
        cases r with
        | sl k =>
          show ((backE ρ rs ss).set k (own' s))[i]? = _
          rw [List.getElem?_set_ne (fun y => z (by subst y; exact isSl_self))]
        | dat _ => rfl
        | nw _ => rfl
theorem backE_off (ρ : Env) : ∀ {rs : List Rs} {ss : List Sl} {i : Nat}, posOf rs i = none → (backE ρ rs ss)[i]? = ρ[i]?
  | [], ss, _, _ => by cases ss <;> rfl
  | r :: _, [], _, _ => by cases r <;> rfl
  | r :: rs, s :: ss, i, h => by
    unfold posOf at h
    split at h
    · cases h
    · rename_i z
      have w : posOf rs i = none := by
        cases w : posOf rs i with
        | none => rfl
        | some l => rw [w] at h; cases h
      have ih := backE_off ρ (rs := rs) (ss := ss) w
      rw [← ih]
      cases r with
      | sl k =>
        show ((backE ρ rs ss).set k (own' s))[i]? = _
        rw [List.getElem?_set_ne (fun y => z (by subst y; exact isSl_self))]
      | dat _ => rfl
      | nw _ => rfl
theorem slotsOf_get {ρ : Env} : ∀ {rs : List Rs} {ss : List Sl} {i : Nat} {s : Sl}, slotsOf ρ rs = some ss → ss[i]? = some s → ∃ r, rs[i]? = some r ∧ slotOf ρ r = some s
  | [], ss, _, _, h, e => by cases h; simp at e
  | r :: rs, ss, i, s, h, e => by
    unfold slotsOf at h
    cases h1 : slotOf ρ r with
    | none => rw [h1] at h; cases h
    | some s1 =>
      cases h2 : slotsOf ρ rs with
      | none => rw [h1, h2] at h; cases h
      | some ss2 =>
        rw [h1, h2] at h
        cases h
        cases i with
        | zero => simp at e; subst e; exact ⟨r, rfl, h1⟩
        | succ i => exact slotsOf_get (i := i) h2 (by simpa using e)
theorem slotsOf_length {ρ : Env} : ∀ {rs : List Rs} {ss : List Sl}, slotsOf ρ rs = some ss → ss.length = rs.length
  | [], ss, h => by cases h; rfl
  | r :: rs, ss, h => by
    unfold slotsOf at h
    cases h1 : slotOf ρ r with
    | none => rw [h1] at h; cases h
    | some s1 =>
      cases h2 : slotsOf ρ rs with
      | none => rw [h1, h2] at h; cases h
      | some ss2 => rw [h1, h2] at h; cases h; rw [List.length_cons, List.length_cons, slotsOf_length h2]
theorem ArgsOk.get {K : PySem.W.Frag} {G : Hp} {σ : Stt} : ∀ {vs : List V} {rs : List Rs} {i : Nat} {r : Rs}, ArgsOk K G σ vs rs → rs[i]? = some r → ∃ v, vs[i]? = some v ∧ ArgOk K G σ v r
  | _, _, _, _, .nil, e => by simp at e
  | _, _, 0, _, .cons a _, e => by simp at e; subst e; exact ⟨_, rfl, a⟩
  | _, _, i + 1, _, .cons _ t, e => by
    obtain ⟨v, h1, h2⟩ := ArgsOk.get (i := i) t (by simpa using e)
    exact ⟨v, by simpa using h1, h2⟩
theorem ArgsOk.length {K : PySem.W.Frag} {G : Hp} {σ : Stt} : ∀ {vs : List V} {rs : List Rs}, ArgsOk K G σ vs rs → vs.length = rs.length
  | _, _, .nil => rfl
  | _, _, .cons _ t => congrArg (· + 1) t.length
def inW (ω : Own) (rs : List Rs) : Own := fun a => match ω a with
  | some i => posOf rs i
  | none => none
def outW (ω ω' : Own) (rs : List Rs) (n l : Nat) : Own := fun a => match ω' a with
  | some j => (match rs[j]? with
    | some (.sl i) => some i
    | _ => if j = n then some l else none)
  | none => (match ω a with
    | some i => if posOf rs i = none then some i else none
    | none => none)
section
variable {K : PySem.W.Frag} {B : Bs} {G : Hp} {ω : Own} {ρ : Env} {σ : Stt} {H : Hp} {vs : List V} {rs : List Rs} {args : List Sl}
theorem EnvW.enter (e : EnvW K B G ω ρ σ H) (ar : ArgsOk K G σ vs rs) (nd : slNd rs = true) (hs : slotsOf ρ rs = some args) : EnvW K (baseOf B.T G H (inW ω rs) vs) G (inW ω rs) args (vs.map some) H where
  gle := e.gle
  g0 := fun a o q => .inl q
  keep := {
    old := fun a o q _ _ => q
    tin := fun a t => by
      obtain ⟨h1, h2, ps, h3⟩ := e.tab t
      refine ⟨h1, fun z => z ?_, ps, h3⟩
      unfold inW
      rw [h2]
    tabs := e.keep.tabs }
  own := fun a j q => by
    have q0 := q
    unfold inW at q
    split at q
    · rename_i i w
      obtain ⟨h1, h2, _⟩ := e.own a i w
      exact ⟨h1, h2, .inl (by show inW ω rs a ≠ none; rw [q0]; simp)⟩
    · cases q
  len := by rw [List.length_map, slotsOf_length hs, ar.length]
  slot := fun j s q => by
    obtain ⟨r, hr, es⟩ := slotsOf_get hs q
    obtain ⟨v, hv, ao⟩ := ar.get hr
    have hp : (vs.map some)[j]? = some (some v) := by rw [List.getElem?_map, hv]; rfl
    rw [hp]
    cases ao with
    | dat rp => cases es; exact ⟨_, rfl, rp⟩
    | sl hσ =>
      rename_i i
      have es' : (match ρ[i]? with | some s => if s.own = true then some s else none | none => none) = some s := es
      cases w : ρ[i]? with
      | none => rw [w] at es'; cases es'
      | some s1 =>
        rw [w] at es'
        dsimp only at es'
        split at es'
        · cases es'
          have sl := e.slot i _ w
          rw [hσ] at sl
          exact sl.mono (.refl _) fun a z => ⟨by unfold inW; rw [z]; exact posOf_nd nd hr, rfl⟩
        · cases es'
  pin := fun i s v z o p => p
theorem EnvW.back2 {G' H' : Hp} {ω' : Own} {ss : List Sl} (e : EnvW K B G ω ρ σ H) (ar : ArgsOk K G σ vs rs) (nd : slNd rs = true) (hs : slotsOf ρ rs = some args) (s : Same G G')
    (f : EnvW K (baseOf B.T G H (inW ω rs) vs) G' ω' ss (vs.map some) H') : EnvW K B G' (outW ω ω' rs vs.length σ.length) (backE ρ rs ss) σ H' := by
  have lr := ar.length
  have ls : rs.length = ss.length := by rw [f.len, List.length_map]; exact lr.symm
  have inO : ∀ a, inW ω rs a ≠ none → B.A0 a ∨ B.H0 a = none := fun a z => by
    unfold inW at z
    cases w : ω a with
    | none => rw [w] at z; exact absurd rfl z
    | some i => exact (e.own a i w).2.2
  have off : ∀ a i, ω a = some i → posOf rs i = none → G' a = none ∧ H' a = H a ∧ ω' a = none := fun a i w p => by
    obtain ⟨h1, h2, h3⟩ := e.own a i w
    have na : ¬ inW ω rs a ≠ none := fun z => z (by unfold inW; rw [w]; exact p)
    cases q : H a with
    | none => exact absurd q h2
    | some o =>
      have nt : ¬ (baseOf B.T G H (inW ω rs) vs).tab a := fun t => by
        have := (e.tab (show B.tab a from t)).2.1
        rw [w] at this; cases this
      refine ⟨?_, f.keep.old a o q na nt, ?_⟩
      · cases y : G' a with
        | none => rfl
        | some u =>
          rcases f.g0 a u y with y | y | y
          · have y' : G a = some u := y
            rw [h1] at y'; cases y'
          · have y' : H a = none := y
            rw [q] at y'; cases y'
          · exact absurd y na
      · cases y : ω' a with
        | none => rfl
        | some j =>
          rcases (f.own a j y).2.2 with y | y
          · exact absurd y na
          · have y' : H a = none := y
            rw [q] at y'; cases y'
  refine ⟨f.gle, fun a o q => ?_, ⟨fun a o q n t => ?_, e.keep.tin, f.keep.tabs⟩, fun a i q => ?_, by rw [backE_length]; exact e.len, fun i sl q => ?_, fun i sl v q o p => ?_⟩
  · rcases f.g0 a o q with q | q | q
    · exact e.g0 a o q
    · rcases e.gone (show H a = none from q) with z | z
      · exact .inr (.inr z)
      · exact .inr (.inl z)
    · rcases inO a q with z | z
      · exact .inr (.inr z)
      · exact .inr (.inl z)
  · refine f.keep.old a o (e.keep.old a o q n t) (fun z => ?_) t
    rcases inO a z with y | y
    · exact n y
    · rw [q] at y; cases y
  · unfold outW at q
    cases w : ω' a with
    | some j =>
      obtain ⟨h1, h2, h3⟩ := f.own a j w
      refine ⟨h1, h2, ?_⟩
      rcases h3 with z | z
      · exact inO a z
      · exact e.gone z
    | none =>
      rw [w] at q
      dsimp only at q
      cases y : ω a with
      | none => rw [y] at q; cases q
      | some k =>
        rw [y] at q
        dsimp only at q
        split at q
        · rename_i pn
          cases q
          obtain ⟨z1, z2, _⟩ := off a i y pn
          obtain ⟨_, h2, h3⟩ := e.own a i y
          exact ⟨z1, by rw [z2]; exact h2, h3⟩
        · cases q
  · cases p : posOf rs i with
    | none =>
      rw [backE_off ρ p] at q
      refine (e.slot i sl q).mono s fun a z => ?_
      obtain ⟨z1, z2, z3⟩ := off a i z p
      refine ⟨?_, z2⟩
      unfold outW
      rw [z3]
      dsimp only
      rw [z]
      dsimp only
      rw [if_pos p]
    | some j =>
      rw [backE_at ρ ls p] at q
      have hr := posOf_get p
      obtain ⟨v, hv, ao⟩ := ar.get hr
      cases ao with
      | sl hσ =>
        split at q
        · cases w : ss[j]? with
          | none => rw [w] at q; cases q
          | some s1 =>
            rw [w] at q
            cases q
            by_cases o : s1.own = true
            · have : own' s1 = s1 := if_pos o
              rw [this]
              have sl := f.slot j s1 w
              have hp : (vs.map some)[j]? = some (some v) := by rw [List.getElem?_map, hv]; rfl
              rw [hp] at sl
              rw [hσ]
              refine sl.mono (.refl _) fun a z => ⟨?_, rfl⟩
              unfold outW
              rw [z]
              dsimp only
              rw [hr]
            · have : own' s1 = .un := if_neg o
              rw [this]
              trivial
        · cases q
  · cases w : posOf rs i with
    | none =>
      rw [backE_off ρ w] at q
      exact e.pin i sl v q o p
    | some j =>
      have hr := posOf_get w
      have hj : j < args.length := by
        rw [slotsOf_length hs]
        exact (List.getElem?_eq_some_iff.mp hr).1
      obtain ⟨r, hr', es⟩ := slotsOf_get hs (List.getElem?_eq_getElem hj)
      rw [hr] at hr'
      cases hr'
      have es' : (match ρ[i]? with | some s => if s.own = true then some s else none | none => none) = some args[j] := es
      cases y : ρ[i]? with
      | none => rw [y] at es'; cases es'
      | some s1 =>
        rw [y] at es'
        dsimp only at es'
        split at es'
        · rename_i o1
          exact e.pin i s1 v y o1 p
        · cases es'
theorem outW_tag {ω' : Own} {n l : Nat} {a : Addr} (hn : rs.length = n) (h : ω' a = some n) : outW ω ω' rs n l a = some l := by
  unfold outW
  rw [h]
  dsimp only
  rw [List.getElem?_eq_none (by omega)]
  dsimp only
  rw [if_pos rfl]
end
theorem call_ok {K : PySem.W.Frag} {np : Np} {n : Nat} {S : DSp} {t : DTA} {E : XK} (σ : Stt) (H : Hp) (Q : VK) (h : lift K np (dCall n S t) σ H Q) : liftA K np t σ H fun vs H1 => toSp K np.T n S vs H1 Q E := by
  obtain ⟨B, G, ρ, Qd, hn, eo, h, k⟩ := h
  refine ⟨B, G, ρ, _, hn, eo, h, fun G1 vs rs ρ1 H1 s1 e1 ar q1 => ?_⟩
  obtain ⟨ω1, e1⟩ := e1
  obtain ⟨hl, nd, q1⟩ := q1
  split at q1
  · rename_i args hs
    refine ⟨G1, inW ω1 rs, args, _, by rw [ar.length]; exact hl, by rw [← hn.T]; exact e1.enter ar nd hs, q1, fun G' ω' v r ss H' s f rr nsl q => ?_⟩
    rw [← hn.T] at f
    have e2 := e1.back2 ar nd hs s f
    refine k _ _ _ _ _ (s1.trans s) ⟨_, e2, ?_⟩ q
    cases r with
    | dat d => exact rr
    | sl j => exact absurd rfl (nsl j)
    | nw sl =>
      refine ⟨rr.1, rr.2.mono (.refl _) fun a z => ⟨?_, rfl⟩⟩
      rw [List.length_map] at z
      exact outW_tag ar.length.symm z
  · exact q1.elim
section
variable {X : Cx} {CX : CXT} {k n : Nat} {f : Addr} {fd : FuncData} {ps : List Str} {S : DSp} {E : XK} {x : Str} {p pos : Pos} {e : Expr} {es : List Expr} {t : DTA} {np : Np}
theorem d_call (F : FnOk X.prog X.w X.K X.mg X.base CX k f fd ps (toSp X.K np.T n S)) (hr : Room k X.A) (hg : Gl X x) (hm : X.mg x = some (.ref f)) (hk : PySem.W.keepIn X.K (.ref f) = true) (hb : Binds X.K fd ps []) (hx : Passes CX X E)
    (ha : PA X (e :: es) (liftA X.K np t)) (hdb : (x == ("__debug__" : Str)) = false := by decide) (he : starEach (e :: es) X.env = (false, eval e X.env) :: starEach es X.env := by rfl) (hpl : (backTo pos (starEach es X.env)).any (·.1) = false := by rfl) :
    PE X (.Call (.Name x p) (e :: es) [] pos) (lift X.K np (dCall n S t)) := by
  refine (pe_call F hr hg hm hk hb .nil hx ha hdb he hpl).mo fun σ H Q h => ?_
  have := call_ok (E := E) σ H Q h
  obtain ⟨B, G, ρ, Qd, a, b, c, d⟩ := this
  exact ⟨B, G, ρ, Qd, a, b, c, fun G' vs rs ρ' H' s e ar q => by show toSp X.K np.T n S (vs ++ []) H' Q E; rw [List.append_nil]; exact d _ _ _ _ _ s e ar q⟩
end
end TL
namespace TL
open PySem PySem.Spec PyProof.Rows L2
def sel {α : Type} (π : List Nat) (xs : List α) : List α := π.filterMap fun i => xs[i]?
section
variable {X : Cx} {CX : CXT} {k n : Nat} {f : Addr} {fd : FuncData} {ps ks : List Str} {sp : Sp} {S : DSp} {E : XK} {x : Str} {p pos kpos : Pos} {e : Expr} {es : List Expr} {kws : List Keyword} {t tk : TA} {te : DTE} {ts : DTA} {np : Np} {nm : Option Str}
  {g : List Value → List Value → List Value} {gV : List V → List V → List V}
theorem _root_.L2.PK.mo {t t' : TA} (h : PK X kws t) (m : ∀ σ H Q, t' σ H Q → t σ H Q) : PK X kws t' := ⟨fun pos pins s σ H Q I q => h.run pos pins s σ H Q I (m _ _ _ q)⟩
theorem dk_nil : PK X [] (liftA X.K np dNil) := pk_nil.mo fun σ H Q ⟨B, G, ρ, Qd, hn, eo, h, k⟩ => k _ _ _ _ _ (.refl _) eo .nil h
theorem dk_cons (ha : PE X e (lift X.K np te)) (hr : PK X kws (liftA X.K np ts)) : PK X (⟨nm, e, kpos⟩ :: kws) (liftA X.K np (dCons te ts)) := by
  refine (pk_cons ha hr).mo fun σ H Q h => ?_
  obtain ⟨B, G, ρ, Qd, hn, eo, h, k⟩ := h
  refine ⟨B, G, ρ, _, hn, eo, h, fun G1 v r ρ1 H1 s1 f1 q1 => ?_⟩
  obtain ⟨G2, s2, f2⟩ := f1.stl
  have key : ∀ r', r' = stl r → ArgOk X.K G2 σ v r' → ts ρ1 (fun rs ρ2 => Qd (r' :: rs) ρ2) → liftA X.K np ts σ H1 fun xs H2 => Q (v :: xs) H2 := fun r' er ao q =>
    ⟨B, G2, ρ1, _, hn, f2.env, q, fun G' vs rs ρ' H' s e ar qq => k _ _ _ _ _ ((s1.trans s2).trans s) e (.cons (ao.mono s) ar) qq⟩
  obtain ⟨ω, e2, r2⟩ := f2
  cases hr : stl r with
  | dat d => rw [hr] at q1 r2; exact key _ hr.symm (.dat r2) q1
  | sl i => rw [hr] at q1 r2; exact key _ hr.symm (.sl r2) q1
  | nw s => rw [hr] at q1; exact q1.elim
theorem ArgsOk.sel {K : PySem.W.Frag} {G : Hp} {σ : Stt} {vs : List V} {rs : List Rs} (a : ArgsOk K G σ vs rs) : ∀ π : List Nat, ArgsOk K G σ (TL.sel π vs) (TL.sel π rs)
  | [] => .nil
  | i :: π => by
    unfold TL.sel
    rw [List.filterMap_cons, List.filterMap_cons]
    cases h : rs[i]? with
    | none =>
      have : vs[i]? = none := List.getElem?_eq_none (by have := a.length; have := List.getElem?_eq_none_iff.mp h; omega)
      rw [this]
      exact a.sel π
    | some r =>
      obtain ⟨v, hv, ao⟩ := a.get h
      rw [hv]
      exact .cons ao (a.sel π)
end
theorem vals_sel {vs : List V} {us : List Value} (r : Vals vs us) : ∀ π : List Nat, Vals (sel π vs) (sel π us)
  | [] => .nil
  | i :: π => by
    unfold TL.sel
    rw [List.filterMap_cons, List.filterMap_cons]
    cases h : vs[i]? with
    | none =>
      have : us[i]? = none := List.getElem?_eq_none (by have := r.length; have := List.getElem?_eq_none_iff.mp h; omega)
      rw [this]
      exact vals_sel r π
    | some v =>
      obtain ⟨u, hu, rv⟩ := r.get h
      rw [hu]
      exact .cons rv (vals_sel r π)
structure FnG (P : Program) (w : World) (K : PySem.W.Frag) (mg : Str → Option Value) (base : Heap) (CX : CXT) (k : Nat) (f : Addr) (fd : FuncData) (ps : List Str) (sp : Sp) : Prop where
  cnt : ∀ xs H Q E, sp xs H Q E → xs.length = ps.length
  go : ∀ (A : Around) (up : List PySem.Env) (st : Shared) (H : Hp) (ar : Args) (us : List Value) (xs : List V) (Q : VK) (E : XK), A.guards = some [] → Room k A → Env0 P w K mg base A up st H → BindsTo st fd ar (ps.zip us) → Vals xs us → sp xs H Q E →
    codeAny (model P w) A (.call (.ref f) ar) (CR CX up P w H st Q E) st
section
variable {P : Program} {w : World} {K : PySem.W.Frag} {mg : Str → Option Value} {base : Heap}
theorem okG_tree {T : List (Addr × Str)} {CX : CXT} {x qual : Str} {st : Stmt} {f : Addr} {fd : FuncData} {N ps : List Str} {k : Nat} {S : DSp} {t : DTS} (F : Fun K x qual st f fd) (sc : FnScope N ps (defScope st))
    (hb : ∀ (cdv : Value) (A : Around) (outer : List PySem.Env) (s : Shared) (H : Hp) (E : XK), A.guards = some [] → Room k (A.deeper (envOfC qual (defScope st) s.heap.objs.size f cdv)) →
      PSs (cxOf CX P w K mg base N qual (defScope st) f cdv A outer s H E) (defBody st) (liftS K (.of T ps.length) t))
    (hS : Keeps S ps.length N.length t) : FnG P w K mg base CX (k + 1) f fd ps (toSp K T ps.length S) := by
  obtain ⟨oc, od, kV, doc, pm, an, cdv, ct, osl, rfl, found, coded⟩ := F.ex
  refine ⟨fun xs H Q E z => by obtain ⟨_, _, _, _, z, _⟩ := z; exact z, fun A up s0 H ar us xs Q E gz room en bt vv pr => ?_⟩
  have cnt := (show xs.length = ps.length by obtain ⟨_, _, _, _, z, _⟩ := pr; exact z)
  have inK : K.In s0.heap := en.mod.kin.keeps fun b o y => (en.bs b o y).1
  have free : s0.heap.NoLimit := en.mod.nolimit.keeps fun b o y => (en.bs b o y).1
  have kinds : ∀ y ∈ ps.zip us, (defScope st).names.lookup y.1 = some .local ∨ ((defScope st).names.lookup y.1 = some .cell ∧ ((cellsFrom (s0.heap.objs.size + 1) (defScope st).names []).lookup y.1).isSome = true) := by
    rintro ⟨nm, v⟩ hy
    rcases sc.par nm (List.of_mem_zip hy).1 with z | z
    · exact .inl z
    · exact .inr ⟨z, PySem.W.cellsFrom_some _ _ _ (.inl z)⟩
  refine codeAny_call_function room.depth (inK _ _ found) rfl sc.co sc.gen rfl (PySem.W.codeRec_of inK coded) (bt _ _ _ _ ?_)
  refine wpAny_newFunctionEnv_cells sc.kind kinds fun ev hev s1 ic => ?_
  subst hev
  refine ⟨free.keeps ic.toInCall.keep, codeAny_func ?_⟩
  have J : Inv (cxOf CX P w K mg base N qual (defScope st) f cdv A up s0 H E) [] (L2.start N xs) H s1 := inv_start sc room.hd en cnt vv ic
  refine wpAny_mono ((hb cdv A up s0 H E gz (room.deeper _)).run [] s1 (L2.start N xs) H _ J (body_ok hS pr)) (fun fl s2 hs => ?_) fun _ _ y => y
  cases fl with
  | ret u =>
    obtain ⟨v, σ2, H2, J2, rv, q⟩ := hs
    exact ⟨v, H2, J2.os, J2.bare, J2.base, J2.hok, rv, q⟩
  | next =>
    obtain ⟨σ2, H2, J2, q⟩ := hs
    exact ⟨.non, H2, J2.os, J2.bare, J2.base, J2.hok, rfl, q⟩
  | brk =>
    obtain ⟨_, _, _, q⟩ := hs
    exact q.elim
  | cont =>
    obtain ⟨_, _, _, q⟩ := hs
    exact q.elim
end
end TL
namespace TL
open PySem PySem.Spec PyProof.Rows L2
def stK (L C : Addr) (r t : Int) : List (Key × V) := [(Sum.inr "large", .ref L), (Sum.inr "cells", .ref C), (Sum.inr "rest", .int r), (Sum.inr "turn", .int t)]
theorem kLC : ¬ (Sum.inr ("large" : Str) : Key) = Sum.inr ("cells" : Str) := by decide +kernel
theorem kLR : ¬ (Sum.inr ("large" : Str) : Key) = Sum.inr ("rest" : Str) := by decide +kernel
theorem kLT : ¬ (Sum.inr ("large" : Str) : Key) = Sum.inr ("turn" : Str) := by decide +kernel
theorem kCR : ¬ (Sum.inr ("cells" : Str) : Key) = Sum.inr ("rest" : Str) := by decide +kernel
theorem kCT : ¬ (Sum.inr ("cells" : Str) : Key) = Sum.inr ("turn" : Str) := by decide +kernel
theorem kRT : ¬ (Sum.inr ("rest" : Str) : Key) = Sum.inr ("turn" : Str) := by decide +kernel
section
variable {L C : Addr} {r t z : Int}
theorem stK_large : valV (stK L C r t) (Sum.inr "large") = some (.ref L) := valV_pos rfl
theorem stK_cells : valV (stK L C r t) (Sum.inr "cells") = some (.ref C) := (valV_neg kLC).trans (valV_pos rfl)
theorem stK_rest : valV (stK L C r t) (Sum.inr "rest") = some (.int r) := (valV_neg kLR).trans ((valV_neg kCR).trans (valV_pos rfl))
theorem stK_turn : valV (stK L C r t) (Sum.inr "turn") = some (.int t) := (valV_neg kLT).trans ((valV_neg kCT).trans ((valV_neg kRT).trans (valV_pos rfl)))
theorem stK_setRest : putK (stK L C r t) (Sum.inr "rest") (.int z) = stK L C z t := by
  unfold putK
  rw [if_pos (by rw [valV_any, stK_rest]; rfl)]
  unfold stK
  simp only [List.map_cons, List.map_nil, if_neg kLR, if_neg kCR, if_pos, if_neg (fun h => kRT (Eq.symm h))]
theorem stK_setTurn : putK (stK L C r t) (Sum.inr "turn") (.int z) = stK L C r z := by
  unfold putK
  rw [if_pos (by rw [valV_any, stK_turn]; rfl)]
  unfold stK
  simp only [List.map_cons, List.map_nil, if_neg kLT, if_neg kCT, if_neg kRT, if_pos]
theorem putK_new {kvs : List (Key × V)} {k : Key} {v : V} (h : valV kvs k = none) : putK kvs k v = kvs ++ [(k, v)] := by
  unfold putK
  rw [if_neg (by rw [valV_any, h]; simp)]
theorem stK_merge : mergeK [] (stK L C r t) = stK L C r t := by
  show putK (putK (putK (putK ([] : List (Key × V)) (Sum.inr ("large" : Str)) (V.ref L)) (Sum.inr ("cells" : Str)) (V.ref C)) (Sum.inr ("rest" : Str)) (V.int r)) (Sum.inr ("turn" : Str)) (V.int t) = _
  have e1 : putK ([] : List (Key × V)) (Sum.inr ("large" : Str)) (V.ref L) = ([(Sum.inr ("large" : Str), V.ref L)] : List (Key × V)) := putK_new valV_nil
  have e2 : putK ([(Sum.inr ("large" : Str), V.ref L)] : List (Key × V)) (Sum.inr ("cells" : Str)) (V.ref C) = [(Sum.inr ("large" : Str), V.ref L), (Sum.inr ("cells" : Str), V.ref C)] := putK_new ((valV_neg kLC).trans valV_nil)
  have e3 : putK ([(Sum.inr ("large" : Str), V.ref L), (Sum.inr ("cells" : Str), V.ref C)] : List (Key × V)) (Sum.inr ("rest" : Str)) (V.int r) = [(Sum.inr ("large" : Str), V.ref L), (Sum.inr ("cells" : Str), V.ref C), (Sum.inr ("rest" : Str), V.int r)] := putK_new ((valV_neg kLR).trans ((valV_neg kCR).trans valV_nil))
  rw [e1, e2, e3]
  exact putK_new ((valV_neg kLT).trans ((valV_neg kCT).trans ((valV_neg kRT).trans valV_nil)))
end
theorem EnvW.mutG {K : PySem.W.Frag} {B : Bs} {G : Hp} {ω : Own} {ρ : Env} {σ : Stt} {H : Hp} (e : EnvW K B G ω ρ σ H) {i : Nat} {s s' : Sl} {p : Addr} {o : HO} (hs : ρ[i]? = some s) (ho : s.own = true) (hp : ω p = some i)
    (hn : SlOk K G (upd H p o) (fun a => ω a = some i) σ[i]? s') : EnvW K B G ω (ρ.set i s') σ (upd H p o) := by
  obtain ⟨g1, g2, g3⟩ := e.own p i hp
  refine ⟨fun a u q => ?_, e.g0, e.keep.upd g3, fun a j q => ?_, by rw [List.length_set]; exact e.len, fun j sl q => ?_, fun j sl w q o' pp => ?_⟩
  · rw [upd_ne (fun z => by subst z; rw [g1] at q; cases q)]; exact e.gle _ _ q
  · obtain ⟨h1, h2, h3⟩ := e.own a j q
    refine ⟨h1, ?_, h3⟩
    by_cases ha : a = p
    · subst ha; rw [upd_same]; simp
    · rw [upd_ne ha]; exact h2
  · by_cases hj : j = i
    · subst hj
      have hl : j < ρ.length := by have := (List.getElem?_eq_some_iff.mp q).1; rwa [List.length_set] at this
      rw [List.getElem?_set_self hl] at q
      cases q
      exact hn
    · rw [List.getElem?_set_ne (Ne.symm hj)] at q
      exact (e.slot j sl q).mono (.refl _) fun a z => ⟨z, upd_ne fun w => by subst w; rw [hp] at z; exact hj (Option.some.inj z).symm⟩
  · by_cases hj : j = i
    · subst hj
      exact e.pin j s w hs ho pp
    · rw [List.getElem?_set_ne (Ne.symm hj)] at q
      exact e.pin j sl w q o' pp
section
variable {K : PySem.W.Frag} {B : Bs} {G : Hp} {ω : Own} {ρ : Env} {σ : Stt} {H : Hp} {i b : Nat} {Lg Cs : List Int} {r t : Int}
theorem EnvW.st (e : EnvW K B G ω ρ σ H) (h : ρ[i]? = some (.rs (.stx Lg Cs r t b))) : ∃ S L C, σ[i]? = some (some (.ref S)) ∧ ω S = some i ∧ ω L = some i ∧ H S = some (.dK (stK L C r t)) ∧ H L = some (.lst (Lg.map V.int)) ∧ G C = some (.lst (Cs.map V.int)) ∧
    Lg.length ≤ 63 ∧ Cs.length ≤ 63 ∧ 0 ≤ t ∧ t + b ≤ 1000000000000 := by
  obtain ⟨v, e1, S, L, C, rfl, f1, f2, h1, h2, h3, h4⟩ := e.slot i _ h
  exact ⟨S, L, C, e1, f1, f2, h1, h2, h3, h4⟩
theorem EnvW.stSet (e : EnvW K B G ω ρ σ H) (h : ρ[i]? = some (.rs (.stx Lg Cs r t b))) {r' t' : Int} {b' : Nat} (ht : 0 ≤ t' ∧ t' + b' ≤ 1000000000000) {S L C : Addr} (e1 : σ[i]? = some (some (.ref S))) (h1 : H S = some (.dK (stK L C r t))) :
    EnvW K B G ω (ρ.set i (.rs (.stx Lg Cs r' t' b'))) σ (upd H S (.dK (stK L C r' t'))) := by
  obtain ⟨S', L', C', e1', f1, f2, h1', h2, h3, h4, h5, _⟩ := e.st h
  rw [e1] at e1'
  cases e1'
  rw [h1] at h1'
  have : L = L' ∧ C = C' := by
    unfold stK at h1'
    simp at h1'
    exact h1'
  obtain ⟨rfl, rfl⟩ := this
  have ne : L ≠ S := fun z => by subst z; rw [h1] at h2; cases h2
  refine e.mutG h rfl f1 ⟨.ref S, e1, S, L, C, rfl, f1, f2, upd_same, ?_, h3, h4, h5, ht⟩
  rw [upd_ne ne]
  exact h2
theorem EnvW.stPop {x : Int} (e : EnvW K B G ω ρ σ H) (h : ρ[i]? = some (.rs (.stx (x :: Lg) Cs r t b))) {S L C : Addr} (e1 : σ[i]? = some (some (.ref S))) (h1 : H S = some (.dK (stK L C r t))) :
    EnvW K B G ω (ρ.set i (.rs (.stx Lg Cs r t b))) σ (upd H L (.lst (Lg.map V.int))) := by
  obtain ⟨S', L', C', e1', f1, f2, h1', h2, h3, h4, h5, h6⟩ := e.st h
  rw [e1] at e1'
  cases e1'
  rw [h1] at h1'
  have : L = L' ∧ C = C' := by
    unfold stK at h1'
    simp at h1'
    exact h1'
  obtain ⟨rfl, rfl⟩ := this
  have ne : S ≠ L := fun z => by subst z; rw [h1] at h2; cases h2
  refine e.mutG h rfl f2 ⟨.ref S, e1, S, L, C, rfl, f1, f2, ?_, upd_same, h3, ?_, h5, h6⟩
  · rw [upd_ne ne]
    exact h1
  · rw [List.length_cons] at h4
    omega
theorem EnvW.opn (e : EnvW K B G ω ρ σ H) (h : ρ[i]? = some (.rs (.st b))) : ∃ (Lg Cs : List Int) (r t : Int), Lg.length ≤ 63 ∧ Cs.length ≤ 63 ∧ 0 ≤ t ∧ t + b ≤ 1000000000000 ∧ EnvW K B G ω (ρ.set i (.rs (.stx Lg Cs r t b))) σ H := by
  obtain ⟨v, e1, lg, cs, r, t, hx⟩ := e.slot i _ h
  have hx0 := hx
  obtain ⟨S, L, C, rfl, f1, f2, h1, h2, h3, h4, h5, h6, h7⟩ := hx
  refine ⟨lg, cs, r, t, h4, h5, h6, h7, ?_⟩
  have := e.mutG (o := .dK (stK L C r t)) h rfl f1 (s' := .rs (.stx lg cs r t b)) ⟨.ref S, e1, S, L, C, rfl, f1, f2, upd_same, by rw [upd_ne (fun z => by subst z; rw [h1] at h2; cases h2)]; exact h2, h3, h4, h5, h6, h7⟩
  rwa [show upd H S (.dK (stK L C r t)) = H from by
    funext a
    by_cases ha : a = S
    · subst ha; rw [upd_same]; exact h1.symm
    · rw [upd_ne ha]] at this
theorem EnvW.shut (e : EnvW K B G ω ρ σ H) (h : ρ[i]? = some (.rs (.stx Lg Cs r t b))) : EnvW K B G ω (ρ.set i (.rs (.st b))) σ H := by
  obtain ⟨S, L, C, e1, f1, f2, h1, h2, h3, h4, h5, h6, h7⟩ := e.st h
  have := e.mutG (o := .dK (stK L C r t)) h rfl f1 (s' := .rs (.st b)) ⟨.ref S, e1, Lg, Cs, r, t, S, L, C, rfl, f1, f2, upd_same, by rw [upd_ne (fun z => by subst z; rw [h1] at h2; cases h2)]; exact h2, h3, h4, h5, h6, h7⟩
  rwa [show upd H S (.dK (stK L C r t)) = H from by
    funext a
    by_cases ha : a = S
    · subst ha; rw [upd_same]; exact h1.symm
    · rw [upd_ne ha]] at this
end
def WX (o : Option Sl) (P : List Int → List Int → Int → Int → Nat → Prop) : Prop := match o with
  | some (.rs (.stx L C r t b)) => P L C r t b
  | _ => False
theorem WX.of {o : Option Sl} {P : List Int → List Int → Int → Int → Nat → Prop} (h : WX o P) : ∃ L C r t b, o = some (.rs (.stx L C r t b)) ∧ P L C r t b := by
  unfold WX at h
  split at h
  · exact ⟨_, _, _, _, _, rfl, h⟩
  · exact h.elim
def shut1 (i : Nat) (P : Env → Prop) : Env → Prop := fun ρ => WX ρ[i]? fun _ _ _ _ b => P (ρ.set i (.rs (.st b)))
def dDraw (i : Nat) (u : DTS) : DTS := fun D ρ => ∃ b, ρ[i]? = some (.rs (.st b)) ∧ ∀ (L C : List Int) (r t : Int), L.length ≤ 63 → C.length ≤ 63 → 0 ≤ t → t + b ≤ 1000000000000 →
  u { nx := shut1 i D.nx, rt := fun x => match x with | .dat d => shut1 i (D.rt (.dat d)) | _ => fun _ => False, bk := shut1 i D.bk, ct := shut1 i D.ct } (ρ.set i (.rs (.stx L C r t b)))
def dStRest (i : Nat) : DTE := fun ρ Q => WX ρ[i]? fun _ _ r _ _ => Q (.dat (.int r)) ρ
def dStTurn (i : Nat) : DTE := fun ρ Q => WX ρ[i]? fun _ _ _ t _ => Q (.dat (.int t)) ρ
def dStCells (i : Nat) : DTE := fun ρ Q => WX ρ[i]? fun _ C _ _ _ => Q (.dat (.lst (C.map .int))) ρ
def dStAny (i : Nat) : DTT := fun ρ Q => WX ρ[i]? fun L _ _ _ _ => Q (!L.isEmpty) ρ
def dStPop (i : Nat) : DTE := fun ρ Q => WX ρ[i]? fun L C r t b => match L with
  | x :: L' => Q (.dat (.int x)) (ρ.set i (.rs (.stx L' C r t b)))
  | [] => False
def dStSetRest (i : Nat) (te : DTE) : DTS := fun D ρ => te ρ fun x ρ1 => match x with
  | .dat (.int z) => WX ρ1[i]? fun L C _ t b => D.nx (ρ1.set i (.rs (.stx L C z t b)))
  | _ => False
def dStSetTurn (i : Nat) (te : DTE) : DTS := fun D ρ => te ρ fun x ρ1 => match x with
  | .dat (.int z) => WX ρ1[i]? fun L C r t b => ∃ b', z = t + 1 ∧ b = b' + 1 ∧ D.nx (ρ1.set i (.rs (.stx L C r z b')))
  | _ => False
section
variable {X : Cx} {np : Np} {x : Str} {p p2 pos : Pos} {j : Option Str} {te : DTE} {e : Expr} {st : Stmt} {sts : List Stmt} {u : DTS}
theorem stN {i : Expr} {x j pos} (h : i = .Constant (.str x) j pos) : NoSl i := by subst h; intro o iv; rfl
theorem st_key (i : Nat) {key : Str} {f : List Int → List Int → Int → Int → V} {d : List Int → List Int → Int → Int → D} (hu : X.A.units + 1 < cLine) (hN : X.N[i]? = some x) (hv : Vis X.env.scope x) (hd : (x == ("__debug__" : Str)) = false) (hcd : (x == ("__classdict__" : Str)) = false)
    {kk} (hk : ∀ (Lg Cs : List Int) (r t : Int) (L C : Addr), ∃ v, valV (stK L C r t) (Sum.inr key) = some v ∧ ∀ (G : Hp), G C = some (.lst (Cs.map V.int)) → Rp X.K G v (d Lg Cs r t)) :
    PE X (.Subscript (.Name x p) (.Constant (.str key) kk p2) pos) (lift X.K np fun ρ Q => WX ρ[i]? fun L C r t _ => Q (.dat (d L C r t)) ρ) := by
  refine (pe_dget hu (pe_var (i := i) hN hv hd hcd) pe_str (stN rfl)).mo fun σ H Q h => ?_
  obtain ⟨B, G, ρ, Qd, hn, ⟨ω, ew⟩, h, k⟩ := h
  obtain ⟨Lg, Cs, r, t, b, hx, h⟩ := WX.of h
  obtain ⟨S, L, C, e1, f1, f2, h1, h2, h3, _⟩ := ew.st hx
  obtain ⟨v, hv, rv⟩ := hk Lg Cs r t L C
  refine ⟨.ref S, e1, S, v, rfl, ?_, k _ _ _ _ _ (.refl _) (ew.dat (rv G h3)) h⟩
  have := DGet.k (k := Sum.inr key) h1
  rwa [hv] at this
theorem d_stRest (i : Nat) {kk} (hu : X.A.units + 1 < cLine) (hN : X.N[i]? = some x := by rfl) (hv : Vis X.env.scope x := by first | exact Or.inl rfl | exact Or.inr (Or.inl rfl) | exact Or.inr (Or.inr rfl)) (hd : (x == ("__debug__" : Str)) = false := by decide) (hcd : (x == ("__classdict__" : Str)) = false := by decide) :
    PE X (.Subscript (.Name x p) (.Constant (.str "rest") kk p2) pos) (lift X.K np (dStRest i)) :=
  st_key i (f := fun _ _ r _ => .int r) (d := fun _ _ r _ => .int r) hu hN hv hd hcd fun Lg Cs r t L C => ⟨_, stK_rest, fun G _ => .int r⟩
theorem d_stTurn (i : Nat) {kk} (hu : X.A.units + 1 < cLine) (hN : X.N[i]? = some x := by rfl) (hv : Vis X.env.scope x := by first | exact Or.inl rfl | exact Or.inr (Or.inl rfl) | exact Or.inr (Or.inr rfl)) (hd : (x == ("__debug__" : Str)) = false := by decide) (hcd : (x == ("__classdict__" : Str)) = false := by decide) :
    PE X (.Subscript (.Name x p) (.Constant (.str "turn") kk p2) pos) (lift X.K np (dStTurn i)) :=
  st_key i (f := fun _ _ _ t => .int t) (d := fun _ _ _ t => .int t) hu hN hv hd hcd fun Lg Cs r t L C => ⟨_, stK_turn, fun G _ => .int t⟩
theorem d_stCells (i : Nat) {kk} (hu : X.A.units + 1 < cLine) (hN : X.N[i]? = some x := by rfl) (hv : Vis X.env.scope x := by first | exact Or.inl rfl | exact Or.inr (Or.inl rfl) | exact Or.inr (Or.inr rfl)) (hd : (x == ("__debug__" : Str)) = false := by decide) (hcd : (x == ("__classdict__" : Str)) = false := by decide) :
    PE X (.Subscript (.Name x p) (.Constant (.str "cells") kk p2) pos) (lift X.K np (dStCells i)) :=
  st_key i (f := fun _ _ _ t => .int t) (d := fun _ C _ _ => .lst (C.map .int)) hu hN hv hd hcd fun Lg Cs r t L C => ⟨_, stK_cells, fun G g => .lst g (RpL.ints Cs)⟩
theorem d_stAny (i : Nat) {kk p3 p4} (hu : X.A.units + 1 < cLine) (hN : X.N[i]? = some x := by rfl) (hv : Vis X.env.scope x := by first | exact Or.inl rfl | exact Or.inr (Or.inl rfl) | exact Or.inr (Or.inr rfl)) (hd : (x == ("__debug__" : Str)) = false := by decide) (hcd : (x == ("__classdict__" : Str)) = false := by decide) :
    PT X (.Compare (.Subscript (.Name x p) (.Constant (.str "large") kk p2) p3) [.NotEq] [.List [] p4] pos) (liftT X.K np (dStAny i)) := by
  refine (pt_cmpR (op_neE (by omega)) (pe_dget hu (pe_var (i := i) hN hv hd hcd) pe_str (stN rfl)) (pe_lst pa_nil) (nomark _)).mo fun σ H Q h => ?_
  obtain ⟨B, G, ρ, Qd, hn, ⟨ω, ew⟩, h, k⟩ := h
  obtain ⟨Lg, Cs, r, t, b, hx, h⟩ := WX.of h
  obtain ⟨S, L, C, e1, f1, f2, h1, h2, h3, _⟩ := ew.st hx
  have g := DGet.k (k := Sum.inr "large") h1
  rw [stK_large] at g
  refine ⟨.ref S, e1, S, .ref L, rfl, g, Nat.zero_le _, fun q hq => ?_⟩
  have ew2 := ew.newW (o := .lst []) hq
  have ne : L ≠ q := ne_of_none h2 hq
  refine ⟨L, q, rfl, rfl, .inr ⟨Lg.map V.int, .of (by rw [upd_ne ne]; exact h2), .of upd_same, _, rfl, ?_⟩⟩
  have := k G _ ρ _ (.refl _) ⟨_, ew2⟩ h
  cases Lg <;> exact this
theorem d_stPop (i : Nat) {kk k2 apos cpos p3 p4} (hu : X.A.units + 1 < cLine) (hN : X.N[i]? = some x := by rfl) (hv : Vis X.env.scope x := by first | exact Or.inl rfl | exact Or.inr (Or.inl rfl) | exact Or.inr (Or.inr rfl)) (hd : (x == ("__debug__" : Str)) = false := by decide) (hcd : (x == ("__classdict__" : Str)) = false := by decide)
    (hbase : attributeBase (.Subscript (.Name x p) (.Constant (.str "large") kk p2) p3) "pop" X.env (eval (.Subscript (.Name x p) (.Constant (.str "large") kk p2) p3) X.env) = eval (.Subscript (.Name x p) (.Constant (.str "large") kk p2) p3) X.env := by rfl)
    (hfew : ((backTo cpos (starEach [.Constant (.int 0) k2 p4] X.env)).all (fun x => !x.1) && (backToKw cpos (keywordEach [] X.env)).all (fun x => x.1.isSome)
      && decide (([.Constant (.int 0) k2 p4] : List Expr).length + ([] : List Keyword).length + (if ([] : List Keyword).isEmpty then 0 else 1) < 30)) = true := by rfl)
    (hline : (apos.endLine == cpos.line) = true := by rfl) (hs : starEach [.Constant (.int 0) k2 p4] X.env = (false, eval (.Constant (.int 0) k2 p4) X.env) :: starEach [] X.env := by rfl) (hplain : (backTo cpos (starEach [] X.env)).any (·.1) = false := by rfl) :
    PE X (.Call (.Attribute (.Subscript (.Name x p) (.Constant (.str "large") kk p2) p3) "pop" apos) [.Constant (.int 0) k2 p4] [] cpos) (lift X.K np (dStPop i)) := by
  refine (pe_bm PySem.F.plainAttrs_list PySem.F.slot_list_pop PySem.F.type_list_pop mt_popAt (pe_dget hu (pe_var (i := i) hN hv hd hcd) pe_str (stN rfl)) (pa_cons pe_int pa_nil hs) hbase hfew hline hs hplain).mo fun σ H Q h => ?_
  obtain ⟨B, G, ρ, Qd, hn, ⟨ω, ew⟩, h, k⟩ := h
  obtain ⟨Lg, Cs, r, t, b, hx, h⟩ := WX.of h
  obtain ⟨S, L, C, e1, f1, f2, h1, h2, h3, _⟩ := ew.st hx
  have g := DGet.k (k := Sum.inr "large") h1
  rw [stK_large] at g
  cases Lg with
  | nil => exact h.elim
  | cons y Lg =>
    refine ⟨.ref S, e1, S, .ref L, rfl, g, .inl ⟨rfl, _, .of h2⟩, L, _, 0, 0, .int y, rfl, rfl, h2, by decide, by decide, ?_, rfl, ?_⟩
    · rw [List.length_map, List.length_cons]
      exact (seqIndex_of (by decide) (by omega)).trans rfl
    · exact k _ _ _ _ _ (.refl _) ((ew.stPop hx e1 h1).dat (.int y)) h
theorem ds_stRest (i : Nat) {kk} (hu : X.A.units + 1 < cLine) (he : PE X e (lift X.K np te)) (hs : swapsWith e (some (.Subscript (.Name x p) (.Constant (.str "rest") kk p2) pos)) pos'.line X.env = pure false := by rfl) (hN : X.N[i]? = some x := by rfl) (hv : Vis X.env.scope x := by first | exact Or.inl rfl | exact Or.inr (Or.inl rfl) | exact Or.inr (Or.inr rfl)) (hd : (x == ("__debug__" : Str)) = false := by decide) (hcd : (x == ("__classdict__" : Str)) = false := by decide) :
    PS X (.Assign [.Subscript (.Name x p) (.Constant (.str "rest") kk p2) pos] e pos') (liftS X.K np (dStSetRest i te)) := by
  refine (ps_dput hu (pe_var (i := i) hN hv hd hcd) pe_str he hs).mo fun D σ H h => ?_
  obtain ⟨B, G, ρ, Dd, hn, eo, h, k1, k2, k3, k4⟩ := h
  refine ⟨B, G, ρ, _, hn, eo, h, fun G1 v r ρ1 H1 s1 f1 q1 => ?_⟩
  obtain ⟨ω, ew, rv⟩ := f1
  split at q1
  · rename_i z
    obtain ⟨Lg, Cs, r, t, b, hx, h⟩ := WX.of q1
    obtain ⟨S, L, C, e1, f1, f2, h1, h2, h3, _, _, h6⟩ := ew.st hx
    cases rv
    refine ⟨.ref S, e1, S, _, rfl, DPut.k (k := Sum.inr "rest") h1 (by show 4 < _; decide), ?_⟩
    rw [stK_setRest]
    exact k1 _ _ _ _ s1 ⟨_, ew.stSet hx h6 e1 h1⟩ h
  · exact q1.elim
theorem ds_stTurn (i : Nat) {kk} (hu : X.A.units + 1 < cLine) (he : PE X e (lift X.K np te)) (hs : swapsWith e (some (.Subscript (.Name x p) (.Constant (.str "turn") kk p2) pos)) pos'.line X.env = pure false := by rfl) (hN : X.N[i]? = some x := by rfl) (hv : Vis X.env.scope x := by first | exact Or.inl rfl | exact Or.inr (Or.inl rfl) | exact Or.inr (Or.inr rfl)) (hd : (x == ("__debug__" : Str)) = false := by decide) (hcd : (x == ("__classdict__" : Str)) = false := by decide) :
    PS X (.Assign [.Subscript (.Name x p) (.Constant (.str "turn") kk p2) pos] e pos') (liftS X.K np (dStSetTurn i te)) := by
  refine (ps_dput hu (pe_var (i := i) hN hv hd hcd) pe_str he hs).mo fun D σ H h => ?_
  obtain ⟨B, G, ρ, Dd, hn, eo, h, k1, k2, k3, k4⟩ := h
  refine ⟨B, G, ρ, _, hn, eo, h, fun G1 v r ρ1 H1 s1 f1 q1 => ?_⟩
  obtain ⟨ω, ew, rv⟩ := f1
  split at q1
  · rename_i z
    obtain ⟨Lg, Cs, r, t, b, hx, b', rfl, rfl, h⟩ := WX.of q1
    obtain ⟨S, L, C, e1, f1, f2, h1, h2, h3, _, _, h6, h7⟩ := ew.st hx
    cases rv
    refine ⟨.ref S, e1, S, _, rfl, DPut.k (k := Sum.inr "turn") h1 (by show 4 < _; decide), ?_⟩
    rw [stK_setTurn]
    exact k1 _ _ _ _ s1 ⟨_, ew.stSet hx (by omega) e1 h1⟩ h
  · exact q1.elim
theorem shut_ok {K : PySem.W.Frag} {B : Bs} {G : Hp} {i : Nat} {ρ : Env} {σ : Stt} {H : Hp} {P : Env → Prop} (eo : EnvOk K B G ρ σ H) (h : shut1 i P ρ) : ∃ ρ', EnvOk K B G ρ' σ H ∧ P ρ' := by
  obtain ⟨ω, e⟩ := eo
  obtain ⟨Lg, Cs, r, t, b, hx, h⟩ := WX.of h
  exact ⟨_, ⟨ω, e.shut hx⟩, h⟩
theorem ds_draw (i : Nat) (h : PSs X sts (liftS X.K np u)) : PSs X sts (liftS X.K np (dDraw i u)) := by
  refine h.mo fun D σ H h => ?_
  obtain ⟨B, G, ρ, Dd, hn, ⟨ω, ew⟩, ⟨b, hb, h⟩, k1, k2, k3, k4⟩ := h
  obtain ⟨Lg, Cs, r, t, l1, l2, l3, l4, e2⟩ := ew.opn hb
  refine ⟨B, G, _, _, hn, ⟨ω, e2⟩, h Lg Cs r t l1 l2 l3 l4, fun G' ρ' σ' H' s e q => ?_, fun G' v r ρ' σ' H' s f q => ?_, fun G' ρ' σ' H' s e q => ?_, fun G' ρ' σ' H' s e q => ?_⟩
  · obtain ⟨ρ2, e2, q2⟩ := shut_ok e q
    exact k1 _ _ _ _ s e2 q2
  · obtain ⟨ω', e', rr⟩ := f
    cases r with
    | dat d =>
      obtain ⟨Lg, Cs, r, t, b, hx, h⟩ := WX.of q
      exact k2 _ _ (.dat d) _ _ _ s ⟨ω', e'.shut hx, rr⟩ h
    | sl i => exact q.elim
    | nw i => exact q.elim
  · obtain ⟨ρ2, e2, q2⟩ := shut_ok e q
    exact k3 _ _ _ _ s e2 q2
  · obtain ⟨ρ2, e2, q2⟩ := shut_ok e q
    exact k4 _ _ _ _ s e2 q2
end
end TL
namespace TL
open PySem PySem.Spec PyProof.Rows L2
def sgK (L C : Addr) (r t : Int) : List (Key × V) := [(Sum.inr "great", .ref L), (Sum.inr "cells", .ref C), (Sum.inr "rest", .int r), (Sum.inr "turn", .int t)]
section
variable {K : PySem.W.Frag} {B : Bs} {G : Hp} {ω : Own} {ρ : Env} {σ : Stt} {H : Hp} {i b : Nat} {Lg Cs : List Int} {r t : Int}
theorem EnvW.sg (e : EnvW K B G ω ρ σ H) (h : ρ[i]? = some (.rs (.sgx Lg Cs r t b))) : ∃ S L C, σ[i]? = some (some (.ref S)) ∧ ω S = some i ∧ ω L = some i ∧ H S = some (.dK (sgK L C r t)) ∧ H L = some (.lst (Lg.map V.int)) ∧ G C = some (.lst (Cs.map V.int)) ∧
    Lg.length ≤ 63 ∧ Cs.length ≤ 63 ∧ 0 ≤ t ∧ t + b ≤ 1000000000000 := by
  obtain ⟨v, e1, S, L, C, rfl, f1, f2, h1, h2, h3, h4⟩ := e.slot i _ h
  exact ⟨S, L, C, e1, f1, f2, h1, h2, h3, h4⟩
end
def WG (o : Option Sl) (P : List Int → List Int → Int → Int → Nat → Prop) : Prop := match o with
  | some (.rs (.sgx L C r t b)) => P L C r t b
  | _ => False
theorem WG.of {o : Option Sl} {P : List Int → List Int → Int → Int → Nat → Prop} (h : WG o P) : ∃ L C r t b, o = some (.rs (.sgx L C r t b)) ∧ P L C r t b := by
  unfold WG at h
  split at h
  · exact ⟨_, _, _, _, _, rfl, h⟩
  · exact h.elim
end TL
namespace TL
open PySem PySem.Spec PyProof.Rows L2
def dStNew (i j : Nat) : DTE := fun ρ Q => match ρ[i]?, ρ[j]? with
  | some (.ls xs), some (.fr (.scr ns)) => ∃ Lg : List Int, xs = Lg.map .int ∧ Lg.length ≤ 63 ∧ ns.length ≤ 63 ∧ Q (.nw (.rs (.st 1000000000000))) (ρ.set i .un)
  | _, _ => False
def joinW (ω : Own) (p : Addr) (i l : Nat) : Own := fun a => if a = p then some l else if ω a = some i then some l else if ω a = some l then none else ω a
theorem joinW_ne {ω : Own} {p a : Addr} {i l k : Nat} (h : joinW ω p i l a = some k) : (k = l ∧ (a = p ∨ ω a = some i)) ∨ (ω a = some k ∧ k ≠ l ∧ k ≠ i) := by
  unfold joinW at h
  split at h
  · rename_i z; exact .inl ⟨(Option.some.inj h).symm, .inl z⟩
  · split at h
    · rename_i z; exact .inl ⟨(Option.some.inj h).symm, .inr z⟩
    · rename_i n1
      split at h
      · cases h
      · rename_i n2
        exact .inr ⟨h, fun z => n2 (z ▸ h), fun z => n1 (z ▸ h)⟩
section
variable {X : Cx} {np : Np} {x y z : Str} {p0 p1 p2 p3 p4 p5 p6 p7 p8 p9 pos : Pos} {k1 k2 k3 k4 k5 k6 : Nat}
theorem st_made {K : PySem.W.Frag} {B : Bs} {G : Hp} {ω : Own} {ρ : Env} {σ : Stt} {H : Hp} {i : Nat} {Lg ns : List Int} {p l : Addr} (e : EnvW K B G ω ρ σ H) (hi : ρ[i]? = some (.ls (Lg.map .int))) (hl : Lg.length ≤ 63) (hs : ns.length ≤ 63) (hp : H p = none) (hq : upd H p (.dK []) l = none) :
    ∃ L, σ[i]? = some (some (.ref L)) ∧ Same G (upd G l (.lst (ns.map V.int))) ∧ Fin K B (upd G l (.lst (ns.map V.int))) (ρ.set i .un) σ (upd (upd (upd H p (.dK [])) l (.lst (ns.map V.int))) p (.dK (stK L l 0 0))) (.ref p) (.nw (.rs (.st 1000000000000))) := by
  obtain ⟨L, ws, e1, f1, h1, r1⟩ := e.slot i _ hi
  obtain rfl := r1.ints_eq
  obtain ⟨g1, _, g3⟩ := e.own L i f1
  have nlp : l ≠ p := fun z => by subst z; rw [upd_same] at hq; cases hq
  have hl0 : H l = none := by rw [upd_ne nlp] at hq; exact hq
  have nLp : L ≠ p := ne_of_none h1 hp
  have nLl : L ≠ l := ne_of_none h1 hl0
  have sg : Same G (upd G l (.lst (ns.map V.int))) := same_upd (Same.none e.gle hl0)
  have hh : ∀ a, a ≠ p → a ≠ l → upd (upd (upd H p (.dK [])) l (.lst (ns.map V.int))) p (.dK (stK L l 0 0)) a = H a := fun a z1 z2 => by rw [upd_ne z1, upd_ne z2, upd_ne z1]
  have hhl : upd (upd (upd H p (.dK [])) l (.lst (ns.map V.int))) p (.dK (stK L l 0 0)) l = some (.lst (ns.map V.int)) := by rw [upd_ne nlp, upd_same]
  refine ⟨L, e1, sg, joinW ω p i σ.length, ⟨fun a o q => ?_, fun a o q => ?_, e.keep.mono sg fun a o q => ?_, fun a j q => ?_, by rw [List.length_set]; exact e.len, fun j s q => ?_, fun j s v q o pp => ?_⟩, rfl, ?_⟩
  · by_cases ha : a = l
    · subst ha; rw [upd_same] at q; rw [hhl]; exact q
    · rw [upd_ne ha] at q
      have := e.gle a o q
      rw [hh a (ne_of_none this hp) ha]
      exact this
  · by_cases ha : a = l
    · subst ha
      rcases e.gone hl0 with z | z
      · exact .inr (.inr z)
      · exact .inr (.inl z)
    · rw [upd_ne ha] at q; exact e.g0 a o q
  · rw [hh a (ne_of_none q hp) (ne_of_none q hl0)]
    exact q
  · rcases joinW_ne q with ⟨_, rfl | z⟩ | ⟨z, _, _⟩
    · refine ⟨?_, by rw [upd_same]; simp, e.gone hp⟩
      rw [upd_ne (Ne.symm nlp)]
      exact Same.none e.gle hp
    · obtain ⟨h1, h2, h3⟩ := e.own a _ z
      have n1 : a ≠ p := fun y => h2 (y ▸ hp)
      have n2 : a ≠ l := fun y => h2 (y ▸ hl0)
      exact ⟨by rw [upd_ne n2]; exact h1, by rw [hh a n1 n2]; exact h2, h3⟩
    · obtain ⟨h1, h2, h3⟩ := e.own a _ z
      have n1 : a ≠ p := fun y => h2 (y ▸ hp)
      have n2 : a ≠ l := fun y => h2 (y ▸ hl0)
      exact ⟨by rw [upd_ne n2]; exact h1, by rw [hh a n1 n2]; exact h2, h3⟩
  · by_cases hj : j = i
    · subst hj
      have hlj : j < ρ.length := by have := (List.getElem?_eq_some_iff.mp q).1; rwa [List.length_set] at this
      rw [List.getElem?_set_self hlj] at q
      cases q
      trivial
    · rw [List.getElem?_set_ne (Ne.symm hj)] at q
      have hlj : j < ρ.length := (List.getElem?_eq_some_iff.mp q).1
      have := e.len
      refine (e.slot j s q).mono sg fun a z => ?_
      obtain ⟨_, h2, _⟩ := e.own a _ z
      have n1 : a ≠ p := fun y => h2 (y ▸ hp)
      have n2 : a ≠ l := fun y => h2 (y ▸ hl0)
      refine ⟨?_, hh a n1 n2⟩
      unfold joinW
      rw [if_neg n1, if_neg (fun w => by rw [z] at w; exact hj (Option.some.inj w)), if_neg (fun w => by rw [z] at w; have := Option.some.inj w; omega)]
      exact z
  · by_cases hj : j = i
    · subst hj
      have hlj : j < ρ.length := by have := (List.getElem?_eq_some_iff.mp q).1; rwa [List.length_set] at this
      rw [List.getElem?_set_self hlj] at q
      cases q
      cases o
    · rw [List.getElem?_set_ne (Ne.symm hj)] at q
      exact e.pin j s v q o pp
  · refine ⟨.ref p, rfl, Lg, ns, 0, 0, p, L, l, rfl, if_pos rfl, ?_, upd_same, ?_, upd_same, hl, hs, by decide, by decide⟩
    · show joinW ω p i σ.length L = _
      unfold joinW
      rw [if_neg nLp, if_pos f1]
    · rw [hh L nLp nLl]; exact h1
theorem d_stNew (i j : Nat) (hgl : Gl X "list") (hml : X.mg "list" = none) (hN : X.N[i]? = some x := by rfl) (hN2 : X.N[j]? = some y := by rfl)
    (hv : Vis X.env.scope x := by first | exact Or.inl rfl | exact Or.inr (Or.inl rfl) | exact Or.inr (Or.inr rfl)) (hv2 : Vis X.env.scope y := by first | exact Or.inl rfl | exact Or.inr (Or.inl rfl) | exact Or.inr (Or.inr rfl))
    (hd : (x == ("__debug__" : Str)) = false := by decide) (hcd : (x == ("__classdict__" : Str)) = false := by decide) (hd2 : (y == ("__debug__" : Str)) = false := by decide) (hcd2 : (y == ("__classdict__" : Str)) = false := by decide)
    (he : starEach [.Name y p3] X.env = (false, eval (.Name y p3) X.env) :: starEach [] X.env := by rfl) (hpl : (backTo p4 (starEach [] X.env)).any (·.1) = false := by rfl) :
    PE X (.Dict [some (.Constant (.str "large") k1 p0), some (.Constant (.str "cells") k2 p1), some (.Constant (.str "rest") k3 p5), some (.Constant (.str "turn") k4 p6)]
      [.Name x p2, .Call (.Name "list" p7) [.Name y p3] [] p4, .Constant (.int 0) k5 p8, .Constant (.int 0) k6 p9] pos) (lift X.K np (dStNew i j)) := by
  refine (pe_disp (pps_cons pe_str (pe_var (i := i) hN hv hd hcd) (pps_cons pe_str (pe_callTy call_list_of hgl hml (by decide +kernel) (pa_cons (pe_var (i := j) hN2 hv2 hd2 hcd2) pa_nil he) (by decide) (by decide) he hpl) (pps_cons pe_str pe_int (pps_cons pe_str pe_int pps_nil)))) rfl rfl (by simp) (Nat.le_of_ble_eq_true rfl)).mo fun σ H Q h => ?_
  obtain ⟨B, G, ρ, Qd, hn, ⟨ω, ew⟩, h, k⟩ := h
  intro p hp
  unfold dStNew at h
  split at h
  · rename_i xs ns hx hy
    obtain ⟨Lg, rfl, l1, l2, h⟩ := h
    obtain ⟨v, ev, rv⟩ := ew.slot j _ hy
    cases rv with
    | scr sq =>
      rename_i a
      have s0 : Same H (upd H p (.dK [])) := same_upd hp
      obtain ⟨L, _, e1, _⟩ := ew.slot i _ hx
      refine ⟨.ref L, e1, .ref a, ev, a, ns.map V.int, rfl, .inl ((ew.gle.seq sq) |> s0.seq), fun l hl => ?_⟩
      obtain ⟨L', e1', sg, f⟩ := st_made ew hx l1 l2 hp hl
      rw [e1] at e1'
      cases e1'
      have nlp : p ≠ l := fun z => by subst z; rw [upd_same] at hl; cases hl
      refine ⟨by rw [upd_ne nlp, upd_same], stK L l 0 0, rfl, by show 4 ≤ 15; decide, ?_⟩
      rw [stK_merge]
      exact k _ _ _ _ _ sg f h
  · exact h.elim
end
end TL
namespace TL
open PySem PySem.Spec PyProof.Rows L2
section
variable {X : Cx} {np : Np} {x : Str} {pos : Pos}
theorem d_bltT {n : String} (hg : Gl X x) (hm : X.mg x = none) (hv : bootBuiltins x = some (.type n)) (hn : x ≠ "__name__" := by decide) (hd : (x == ("__debug__" : Str)) = false := by decide) : PE X (.Name x pos) (lift X.K np (dC (.ty n))) :=
  d_const (pe_bltn hg hm hv (v := .ty n) rfl hn hd) (fun _ _ _ q => q) fun _ => .ty n
end
def dDL : List DTE → Env → (List D → Env → Prop) → Prop
  | [], ρ, Q => Q [] ρ
  | t :: ts, ρ, Q => t ρ fun r ρ1 => match stl r with
    | .dat d => dDL ts ρ1 fun ds ρ2 => Q (d :: ds) ρ2
    | _ => False
def dDisp (ks : List Key) (ts : List DTE) : DTE := fun ρ Q => dDL ts ρ fun ds ρ1 => Q (.nw (.dc (ks.zip ds))) ρ1
def dDNew : DTE := fun ρ Q => Q (.nw (.dc [])) ρ
def trsOf (K : PySem.W.Frag) (np : Np) : List Key → List DTE → List (TE × TE)
  | k :: ks, t :: ts => (tC (kV k), lift K np t) :: trsOf K np ks ts
  | _, _ => []
theorem mergeK_new : ∀ (kvs acc : List (Key × V)), (acc.map (·.1) ++ kvs.map (·.1)).Nodup → mergeK acc kvs = acc ++ kvs
  | [], acc, _ => by rw [List.append_nil]; rfl
  | p :: r, acc, h => by
    have h1 : p.1 ∉ acc.map (·.1) := fun z => by
      rw [List.nodup_append] at h
      exact h.2.2 p.1 z p.1 (by simp) rfl
    have h2 : valV acc p.1 = none := by
      cases z : valV acc p.1 with
      | none => rfl
      | some u =>
        have : (acc.any fun kv => decide (kv.1 = p.1)) = true := by rw [valV_any, z]; rfl
        obtain ⟨q, hq, e⟩ := List.any_eq_true.mp this
        exact absurd (List.mem_map.mpr ⟨q, hq, of_decide_eq_true e⟩) h1
    show mergeK (putK acc p.1 p.2) r = _
    rw [putK_new h2, mergeK_new r _ (by simpa using h)]
    simp
theorem RpL.zipK {K : PySem.W.Frag} {G : Hp} : ∀ {vs : List V} {ds : List D} (ks : List Key), RpL K G vs ds → RpK K G (ks.zip vs) (ks.zip ds)
  | _, _, [], _ => by simp; exact .nil
  | _, _, _ :: _, .nil => .nil
  | _, _, _ :: ks, .cons h r => .cons h (r.zipK ks)
section
variable {X : Cx} {np : Np} {x : Str} {pos : Pos} {keys : List (Option Expr)} {values : List Expr} {ks : List Key} {ts : List DTE}
theorem pairs_ok {K : PySem.W.Frag} {np : Np} {σ : Stt} : ∀ (ks : List Key) (ts : List DTE) (B : Bs) (G H : Hp) (ρ : Env) (Qd : List D → Env → Prop) (Q : List (V × V) → Hp → Prop), ks.length = ts.length → np.ok B → EnvOk K B G ρ σ H → dDL ts ρ Qd →
    (∀ G' vs ds ρ' H', Same G G' → EnvOk K B G' ρ' σ H' → RpL K G' vs ds → vs.length = ks.length → Qd ds ρ' → Q ((ks.map kV).zip vs) H') → tPairs (trsOf K np ks ts) σ H Q
  | [], [], B, G, H, ρ, Qd, Q, _, hn, eo, h, k => k _ [] _ _ _ (.refl _) eo .nil rfl h
  | [], _ :: _, _, _, _, _, _, _, hl, _, _, _, _ => by cases hl
  | _ :: _, [], _, _, _, _, _, _, hl, _, _, _, _ => by cases hl
  | key :: ks, t :: ts, B, G, H, ρ, Qd, Q, hl, hn, eo, h, k => by
    refine ⟨B, G, ρ, _, hn, eo, h, fun G1 v r ρ1 H1 s1 f1 q1 => ?_⟩
    obtain ⟨G2, s2, f2⟩ := f1.stl
    split at q1
    · rename_i d hr
      rw [hr] at f2
      obtain ⟨ω2, e2, r2⟩ := f2
      refine pairs_ok ks ts B G2 H1 ρ1 _ _ (by simpa using hl) hn ⟨ω2, e2⟩ q1 fun G' vs ds ρ' H' s e rl lv q => ?_
      exact k _ (v :: vs) (d :: ds) _ _ ((s1.trans s2).trans s) e (.cons (Rp.mono s r2) rl) (by rw [List.length_cons, List.length_cons, lv]) q
    · exact q1.elim
theorem zip_kv : ∀ (ks : List Key) (vs : List V), (ks.map kV).zip vs = (ks.zip vs).map fun kv => (kV kv.1, kv.2)
  | [], _ => by simp
  | _ :: _, [] => by simp
  | k :: ks, v :: vs => by simp [zip_kv ks vs]
theorem d_disp (h : PPs X pos keys values (trsOf X.K np ks ts)) (hall : keys.all (·.isSome) = true := by rfl) (hl : keys.length = values.length := by rfl) (h0 : keys ≠ [] := by simp) (h15 : keys.length ≤ 15 := by exact Nat.le_of_ble_eq_true rfl)
    (hks : ks.length = ts.length := by rfl) (hk15 : ks.length ≤ 15 := by exact Nat.le_of_ble_eq_true rfl) (nd : ks.Nodup := by decide +kernel) : PE X (.Dict keys values pos) (lift X.K np (dDisp ks ts)) := by
  refine (pe_disp h hall hl h0 h15).mo fun σ H Q h => ?_
  obtain ⟨B, G, ρ, Qd, hn, ⟨ω, ew⟩, h, k⟩ := h
  intro p hp
  have d0 : B.A0 p ∨ B.H0 p = none := ew.gone hp
  have hg : G p = none := Same.none ew.gle hp
  have hw : ω p = none := by
    cases q : ω p with
    | none => rfl
    | some i => exact absurd hp (ew.own p i q).2.1
  have e1 := ew.poke (o := .dK []) hw hg d0
  refine pairs_ok ks ts (reB B G ω ρ.length (upd H p (.dK []))) G _ ρ _ _ hks (hn.re e1) ⟨_, e1.rebase⟩ h fun G' vs ds ρ' H' s f rl lv q => ?_
  obtain ⟨ω', f⟩ := f
  obtain ⟨z1, z2, z3⟩ := f.still upd_same hw hg
  refine ⟨z1, ks.zip vs, zip_kv ks vs, by rw [List.length_zip, lv]; omega, ?_⟩
  rw [mergeK_new _ _ (by
    show (ks.zip vs |>.map (·.1)).Nodup
    rw [List.map_fst_zip (by omega)]
    exact nd), List.nil_append]
  have fb := e1.back f
  refine k _ _ (.nw (.dc (ks.zip ds))) _ _ s ⟨tagd ω' p σ.length, ?_, rfl, p, ks.zip vs, rfl, tagd_same, upd_same, rl.zipK ks⟩ q
  have fp := fb.poke (o := .dK (ks.zip vs)) z2 z3 d0
  refine ⟨fp.gle, fp.g0, fp.keep, fun a j q => ?_, fp.len, fun j s q => ?_, fp.pin⟩
  · unfold tagd at q
    split at q
    · rename_i ha
      subst ha
      cases q
      exact ⟨z3, by rw [upd_same]; simp, d0⟩
    · split at q
      · cases q
      · exact fp.own a j q
  · refine (fp.slot j s q).mono (.refl _) fun a z => ⟨?_, rfl⟩
    have hj : j < ρ'.length := (List.getElem?_eq_some_iff.mp q).1
    have := fp.len
    have ha : a ≠ p := fun w => by
      subst w
      rw [z2] at z
      cases z
    unfold tagd
    rw [if_neg ha, if_neg (fun w => by rw [z] at w; have := Option.some.inj w; omega)]
    exact z
theorem d_dnew : PE X (.Dict [] [] pos) (lift X.K np dDNew) := by
  refine pe_dnewK.mo fun σ H Q h => ?_
  obtain ⟨B, G, ρ, Qd, hn, ⟨ω, ew⟩, h, k⟩ := h
  intro p hp
  exact k _ _ _ _ _ (.refl _) (ew.newD hp .nil) h
end
end TL
namespace TL
open PySem PySem.Spec PyProof.Rows L2
theorem bt_len : bootBuiltins "len" = some (.builtin "len") := by decide +kernel
theorem bt_isinstance : bootBuiltins "isinstance" = some (.builtin "isinstance") := by decide +kernel
theorem bt_min : bootBuiltins "min" = some (.builtin "min") := by decide +kernel
theorem bt_repr : bootBuiltins "repr" = some (.builtin "repr") := by decide +kernel
theorem bt_int : bootBuiltins "int" = some (.type "int") := by decide +kernel
end TL
namespace TL
end TL
namespace TL
end TL
namespace TL
end TL
namespace TL
end TL
namespace TL
end TL
namespace TL
end TL
namespace TL
open PySem PySem.Spec PyProof.Rows L2
section
variable {K : PySem.W.Frag} {G H : Hp} {v : V}
theorem RdV.obj {C : Addr} {fs : List (Str × D)} (s : Same G H) (r : RdV K G H v (.obj C fs)) : ∃ a dx vs, v = .ref a ∧ G a = some (.ins C dx vs) ∧ H a = some (.ins C dx vs) ∧ RpF K G vs fs := by
  rcases r with r | ⟨_, _, _, _, e, _⟩ | ⟨_, _, _, _, e, _⟩
  · cases r with | obj h _ r => exact ⟨_, _, _, rfl, h, s _ _ h, r⟩
  · cases e
  · cases e
theorem RpF.look {f : Str} {d : D} : ∀ {vs : List (Str × V)} {fs : List (Str × D)}, RpF K G vs fs → fs.lookup f = some d → ∃ v, vs.lookup f = some v ∧ Rp K G v d
  | _, _, .nil, h => by cases h
  | _, _, .cons (f := g) h r, q => by
    rw [List.lookup_cons] at q ⊢
    split at q
    · cases q
      exact ⟨_, rfl, h⟩
    · exact r.look q
end
end TL
namespace TL
open PySem PySem.Spec PyProof.Rows L2
theorem RpF.length {K : PySem.W.Frag} {G : Hp} : ∀ {vs : List (Str × V)} {fs : List (Str × D)}, RpF K G vs fs → vs.length = fs.length
  | _, _, .nil => rfl
  | _, _, .cons _ r => congrArg (· + 1) r.length
section
variable {K : PySem.W.Frag} {B : Bs} {G : Hp} {ω : Own} {ρ : Env} {σ : Stt} {H : Hp}
def tag2 (ω : Own) (a b : Addr) (i : Nat) : Own := fun c => if c = a ∨ c = b then some i else if ω c = some i then none else ω c
theorem tag2_some {a b c : Addr} {i j : Nat} (h : tag2 ω a b i c = some j) : (j = i ∧ (c = a ∨ c = b)) ∨ (ω c = some j ∧ j ≠ i ∧ ¬ (c = a ∨ c = b)) := by
  unfold tag2 at h
  split at h
  · rename_i z; exact .inl ⟨(Option.some.inj h).symm, z⟩
  · rename_i z
    split at h
    · cases h
    · rename_i n; exact .inr ⟨h, fun y => n (y ▸ h), z⟩
theorem tag2_ne {a b c : Addr} {i j : Nat} (h : ω c = some j) (hj : j ≠ i) (hc : ¬ (c = a ∨ c = b)) : tag2 ω a b i c = some j := by
  unfold tag2
  rw [if_neg hc, if_neg (fun z => by rw [h] at z; exact hj (Option.some.inj z))]
  exact h
theorem tag2_pos {a b c : Addr} {i : Nat} (hc : c = a ∨ c = b) : tag2 ω a b i c = some i := by unfold tag2; rw [if_pos hc]
theorem EnvW.push (e : EnvW K B G ω ρ σ H) (hp : B.P.length ≤ σ.length) {x dx C : Addr} (hx : H x = none) (hdx : H dx = none) (ne : dx ≠ x) :
    EnvW K B G (tag2 ω x dx σ.length) (ρ ++ [.rs (.ob C [])]) (σ ++ [some (.ref x)]) (upd (upd H dx (.own x)) x (.ins C dx [])) := by
  have hh : ∀ a, ¬ (a = x ∨ a = dx) → upd (upd H dx (.own x)) x (.ins C dx []) a = H a := fun a n => by rw [upd_ne (fun z => n (.inl z)), upd_ne (fun z => n (.inr z))]
  have off : ∀ a, H a ≠ none → ¬ (a = x ∨ a = dx) := fun a h z => by
    rcases z with z | z
    · exact h (z ▸ hx)
    · exact h (z ▸ hdx)
  refine ⟨fun a u q => ?_, e.g0, e.keep.mono (.refl _) fun a u q => ?_, fun a i q => ?_, by rw [List.length_append, List.length_append, e.len]; rfl, fun i s q => ?_, fun i s v q o p => ?_⟩
  · have := e.gle a u q
    rw [hh a (off a (by rw [this]; simp))]; exact this
  · rw [hh a (off a (by rw [q]; simp))]; exact q
  · rcases tag2_some q with ⟨_, z⟩ | ⟨z, _, n⟩
    · rcases z with rfl | rfl
      · exact ⟨Same.none e.gle hx, by rw [upd_same]; simp, e.gone hx⟩
      · exact ⟨Same.none e.gle hdx, by rw [upd_ne ne, upd_same]; simp, e.gone hdx⟩
    · obtain ⟨h1, h2, h3⟩ := e.own a i z
      exact ⟨h1, by rw [hh a n]; exact h2, h3⟩
  · by_cases hi : i < ρ.length
    · rw [List.getElem?_append_left hi] at q
      rw [List.getElem?_append_left (by rw [← e.len]; exact hi)]
      refine (e.slot i s q).mono (.refl _) fun a z => ?_
      obtain ⟨_, h2, _⟩ := e.own a i z
      have := e.len
      exact ⟨tag2_ne z (by omega) (off a h2), hh a (off a h2)⟩
    · rw [List.getElem?_append_right (by omega)] at q
      have hi2 : i = ρ.length := by
        have := (List.getElem?_eq_some_iff.mp q).1
        simp at this
        omega
      subst hi2
      simp at q
      subst q
      rw [List.getElem?_append_right (by rw [e.len]; exact Nat.le_refl _)]
      refine ⟨.ref x, by rw [e.len]; simp, x, dx, [], rfl, ?_, ?_, upd_same, ?_, .nil⟩
      · rw [e.len]; exact tag2_pos (.inl rfl)
      · rw [e.len]; exact tag2_pos (.inr rfl)
      · rw [upd_ne ne, upd_same]
  · by_cases hi : i < ρ.length
    · rw [List.getElem?_append_left hi] at q
      rw [List.getElem?_append_left (by rw [← e.len]; exact hi)]
      exact e.pin i s v q o p
    · have := (List.getElem?_eq_some_iff.mp p).1
      have := e.len
      omega
theorem EnvW.pop {C : Addr} {fs : List (Str × D)} {u : V} (e : EnvW K B G ω (ρ ++ [.rs (.ob C fs)]) (σ ++ [some u]) H) :
    ∃ G' ω', Same G G' ∧ EnvW K B G' ω' ρ σ H ∧ Rp K G' u (.obj C fs) := by
  have hl : ρ.length = σ.length := by
    have := e.len
    rw [List.length_append, List.length_append] at this
    simp at this
    exact this
  obtain ⟨v, e1, a, dx, vs, rfl, f1, f2, h1, h2, rf⟩ := e.slot ρ.length (.rs (.ob C fs)) (by simp)
  rw [hl] at e1
  simp at e1
  subst e1
  have ne : dx ≠ a := fun z => by subst z; rw [h1] at h2; cases h2
  obtain ⟨g1, _, z1⟩ := e.own a _ f1
  obtain ⟨g2, _, z2⟩ := e.own dx _ f2
  have s1 : Same G (upd G dx (.own a)) := same_upd g2
  have s2 : Same (upd G dx (.own a)) (upd (upd G dx (.own a)) a (.ins C dx vs)) := same_upd (by rw [upd_ne ne.symm]; exact g1)
  have sg := s1.trans s2
  refine ⟨_, untag ω ρ.length, sg, ⟨fun b u q => ?_, fun b u q => ?_, e.keep.g sg, fun b i q => ?_, hl, fun i s q => ?_, fun i s v q o p => ?_⟩, .obj upd_same (by rw [upd_ne ne, upd_same]) (rf.mono sg)⟩
  · by_cases ha : b = a
    · subst ha; rw [upd_same] at q; rw [h1]; exact q
    · rw [upd_ne ha] at q
      by_cases hb : b = dx
      · subst hb; rw [upd_same] at q; rw [h2]; exact q
      · rw [upd_ne hb] at q; exact e.gle _ _ q
  · by_cases ha : b = a
    · subst ha
      rcases z1 with z | z
      · exact .inr (.inr z)
      · exact .inr (.inl z)
    · rw [upd_ne ha] at q
      by_cases hb : b = dx
      · subst hb
        rcases z2 with z | z
        · exact .inr (.inr z)
        · exact .inr (.inl z)
      · rw [upd_ne hb] at q; exact e.g0 _ _ q
  · obtain ⟨q1, q2⟩ := untag_some q
    obtain ⟨h1', h2', h3'⟩ := e.own b i q1
    refine ⟨?_, h2', h3'⟩
    rw [upd_ne (fun z => by subst z; rw [f1] at q1; exact q2 (Option.some.inj q1).symm), upd_ne (fun z => by subst z; rw [f2] at q1; exact q2 (Option.some.inj q1).symm)]
    exact h1'
  · have hi : i < ρ.length := (List.getElem?_eq_some_iff.mp q).1
    have := e.slot i s (by rw [List.getElem?_append_left hi]; exact q)
    rw [List.getElem?_append_left (by rw [← hl]; exact hi)] at this
    exact this.mono sg fun b z => ⟨untag_ne (by omega) z, rfl⟩
  · have hi : i < ρ.length := (List.getElem?_eq_some_iff.mp q).1
    have := e.pin i s v (by rw [List.getElem?_append_left hi]; exact q) o p
    rw [List.getElem?_append_left (by rw [← hl]; exact hi)] at this
    exact this
end
theorem ArgsOk.app {K : PySem.W.Frag} {G : Hp} {σ : Stt} {o : Option V} : ∀ {vs : List V} {rs : List Rs}, ArgsOk K G σ vs rs → ArgsOk K G (σ ++ [o]) vs rs
  | _, _, .nil => .nil
  | _, _, .cons a r => .cons (by
      cases a with
      | dat h => exact .dat h
      | sl h => exact .sl (by rw [List.getElem?_append_left (List.getElem?_eq_some_iff.mp h).1]; exact h)) (ArgsOk.app r)
end TL
namespace TL
open PySem PySem.Spec PyProof.Rows L2
abbrev BRun := Value → (Shared → Prop) → Shared → Prop
section
variable {prog : Program} {w : World} {A : Around} {s : Shared} {el elt t0 i0 t1 i1 : Expr} {gs : List Comprehension} {scope : Scope} {pos : Pos} {ifs0 ifs1 : List Expr} {p0 : Pos} {d : Nat} {env : PySem.Env}
theorem fl {α : Type} {t : Sem α} {Q Q' : α → Shared → Prop} {M : Model} {E : Value → Shared → Prop} {s : Shared} (h : wpAny M A t Q (fun _ _ => False) s) (hQ : ∀ a s, Q a s → Q' a s) : wpAny M A t Q' E s := thnF h hQ
end
end TL
namespace TL
open PySem PySem.Spec PyProof.Rows L2
abbrev TBd := Addr → L2.St → Hp → (Hp → Prop) → Prop
structure PBody (X : Cx) (vs : List Nat) (br : BRun) (tb : TBd) : Prop where
  run : ∀ (D : Addr) (pins : List (Addr × Obj)) (s : Shared) (σ : L2.St) (H : Hp) (Nx : Hp → Prop) (R : Shared → Prop), Inv X pins σ H s → tb D σ H Nx → (∀ s' H', Inv X pins (wipe σ vs) H' s' → Nx H' → R s') → br (.ref D) R s
end TL
namespace TL
open PySem PySem.Spec PyProof.Rows L2
abbrev DTB := List D → Env → (List D → Env → Prop) → Prop
def bLoop (g : DTG) (tt : DTT) (tb : DTB) (vs : List Nat) : List D → List D → Env → (List D → Env → Prop) → Prop
  | [], acc, ρ, Q => Q acc (wipeE ρ vs)
  | d :: ds, acc, ρ, Q => g d (wipeE ρ vs) fun ρ1 => tt ρ1 fun b ρ2 => if b = true then tb acc ρ2 fun acc' ρ3 => bLoop g tt tb vs ds acc' ρ3 Q else bLoop g tt tb vs ds acc ρ2 Q
structure Dk (K : PySem.W.Frag) (B : Bs) (G : Hp) (ω : Own) (ρ : Env) (σ : Stt) (H : Hp) (D : Addr) (wa : List V) (acc : List TL.D) : Prop where
  e : EnvW K B G ω ρ σ H
  w : ω D = none
  g : G D = none
  h : H D = some (.lst wa)
  r : RpL K G wa acc
  d0 : B.A0 D ∨ B.H0 D = none
def liftB (K : PySem.W.Frag) (np : Np) (vs : List Nat) (tb : DTB) : TBd := fun D σ H Nx => ∃ B G ω ρ acc wa Qd, np.ok B ∧ Dk K B G ω ρ σ H D wa acc ∧ tb acc ρ Qd ∧
  ∀ G' ω' ρ' acc' wa' H', Same G G' → Dk K B G' ω' ρ' (L2.wipe σ vs) H' D wa' acc' → Qd acc' ρ' → Nx H'
theorem wipe_wipe {σ : Stt} {vs1 vs : List Nat} (hv : ∀ j ∈ vs1, j ∈ vs) : L2.wipe (L2.wipe σ vs1) vs = L2.wipe σ vs := by
  apply List.ext_getElem?
  intro j
  rw [wipe_get, wipe_length, wipe_get, wipe_get]
  by_cases h : j ∈ vs
  · by_cases hl : j < σ.length
    · rw [if_pos ⟨h, hl⟩, if_pos ⟨h, hl⟩]
    · rw [if_neg (fun z => hl z.2), if_neg (fun z => hl z.2), if_neg (fun z => hl z.2)]
  · rw [if_neg (fun z => h z.1), if_neg (fun z => h (hv j z.1)), if_neg (fun z => h z.1)]
theorem Off.wipe3 {σ σ4 : Stt} {ws vs : List Nat} (hw : ∀ j ∈ ws, j ∈ vs) (o : Off ws (L2.wipe σ vs) σ4) : L2.wipe σ4 vs = L2.wipe σ vs := by
  rw [(o.mono hw).wipe, wipe_wipe fun _ z => z]
section
variable {K : PySem.W.Frag} {B : Bs} {G : Hp} {ω : Own} {ρ : Env} {σ : Stt} {H : Hp} {D : Addr} {wa : List V} {acc : List TL.D} {np : Np}
theorem Dk.lift {t : DTE} {Qd : Rs → Env → Prop} {Q : VK} (hn : np.ok B) (k0 : Dk K B G ω ρ σ H D wa acc) (q : t ρ Qd)
    (kk : ∀ G' ω' v r ρ' H', Same G G' → Dk K B G' ω' ρ' σ H' D wa acc → RsOk K G' H' ω' σ v (stl r) → Qd r ρ' → Q v H') : TL.lift K np t σ H Q :=
  ⟨reB B G ω ρ.length H, G, ρ, Qd, hn.re k0.e, ⟨_, k0.e.rebase⟩, q, fun G' v r ρ' H' s f qd => by
    obtain ⟨G2, s2, f2⟩ := f.stl
    obtain ⟨ω', e', rr⟩ := f2
    obtain ⟨z1, z2, z3⟩ := e'.still k0.h k0.w k0.g
    exact kk _ _ _ _ _ _ (s.trans s2) ⟨k0.e.back e', z2, z3, z1, k0.r.mono (s.trans s2), k0.d0⟩ rr qd⟩
theorem Dk.liftT {t : DTT} {Qd : Bool → Env → Prop} {Q : Bool → Hp → Prop} (hn : np.ok B) (k0 : Dk K B G ω ρ σ H D wa acc) (q : t ρ Qd)
    (kk : ∀ G' ω' b ρ' H', Same G G' → Dk K B G' ω' ρ' σ H' D wa acc → Qd b ρ' → Q b H') : TL.liftT K np t σ H Q :=
  ⟨reB B G ω ρ.length H, G, ρ, Qd, hn.re k0.e, ⟨_, k0.e.rebase⟩, q, fun G' b ρ' H' s f qd => by
    obtain ⟨ω', e'⟩ := f
    obtain ⟨z1, z2, z3⟩ := e'.still k0.h k0.w k0.g
    exact kk _ _ _ _ _ s ⟨k0.e.back e', z2, z3, z1, k0.r.mono s, k0.d0⟩ qd⟩
theorem Dk.liftI {t : DTI} {Qd : List TL.D → Env → Prop} {Q : It → Hp → Prop} (hn : np.ok B) (k0 : Dk K B G ω ρ σ H D wa acc) (q : t ρ Qd)
    (kk : ∀ G' ω' ds ρ' H' J, Same G G' → Dk K B G' ω' ρ' σ H' D wa acc → ItD K J G' ds → Qd ds ρ' → Q J H') : TL.liftI K np t σ H Q :=
  ⟨reB B G ω ρ.length H, G, ρ, Qd, hn.re k0.e, ⟨_, k0.e.rebase⟩, q, fun G' ds ρ' H' J s f it qd => by
    obtain ⟨ω', e'⟩ := f
    obtain ⟨z1, z2, z3⟩ := e'.still k0.h k0.w k0.g
    exact kk _ _ _ _ _ _ s ⟨k0.e.back e', z2, z3, z1, k0.r.mono s, k0.d0⟩ it qd⟩
theorem Dk.liftG {ws : List Nat} {t : DTG} {v : V} {d : TL.D} {Qd : Env → Prop} {Q : Stt → Hp → Prop} (hn : np.ok B) (k0 : Dk K B G ω ρ σ H D wa acc) (r : Rp K G v d) (q : t d ρ Qd)
    (kk : ∀ ω' ρ' σ', Dk K B G ω' ρ' σ' H D wa acc → Off ws σ σ' → Qd ρ' → Q σ' H) : TL.liftG K np ws t v σ H Q :=
  ⟨reB B G ω ρ.length H, G, ρ, d, Qd, hn.re k0.e, ⟨_, k0.e.rebase⟩, r, q, fun ρ' σ' f o qd => by
    obtain ⟨ω', e'⟩ := f
    obtain ⟨z1, z2, z3⟩ := e'.still k0.h k0.w k0.g
    exact kk _ _ _ ⟨k0.e.back e', z2, z3, z1, k0.r, k0.d0⟩ o qd⟩
theorem Dk.wipe2 {σ0 : Stt} {vs : List Nat} (k : Dk K B G ω ρ σ H D wa acc) (o : L2.wipe σ vs = L2.wipe σ0 vs) : Dk K B G ω (wipeE ρ vs) (L2.wipe σ0 vs) H D wa acc := ⟨k.e.wipe2 o, k.w, k.g, k.h, k.r, k.d0⟩
theorem Dk.turn {ws vs vs1 : List Nat} {g : DTG} {tt : DTT} {tb : DTB} {ds : List TL.D} {x : V} {d : TL.D} {Qd : List TL.D → Env → Prop} {Nx : Hp → Prop} {σ0 : Stt} (hn : np.ok B) (hw : ∀ j ∈ ws, j ∈ vs) (hv : ∀ j ∈ vs1, j ∈ vs)
    (k0 : Dk K B G ω (wipeE ρ vs) (L2.wipe σ0 vs) H D wa acc) (r : Rp K G x d) (q : bLoop g tt tb vs (d :: ds) acc ρ Qd)
    (kk : ∀ G' ω' ρ' acc' wa' H', Same G G' → Dk K B G' ω' (wipeE ρ' vs) (L2.wipe σ0 vs) H' D wa' acc' → bLoop g tt tb vs ds acc' ρ' Qd → Nx H') :
    TL.liftG K np ws g x (L2.wipe σ0 vs) H fun σ2 H4 => L2.wipe σ2 vs = L2.wipe σ0 vs ∧ TL.liftT K np tt σ2 H4 fun b H5 => if b = true then liftB K np vs1 tb D σ2 H5 Nx else Nx H5 := by
  refine k0.liftG hn r q fun ω4 ρ4 σ4 k4 o4 q4 => ?_
  have ow := Off.wipe3 hw o4
  refine ⟨ow, k4.liftT hn q4 fun G5 ω5 b ρ5 H5 s5 k5 q5 => ?_⟩
  cases b with
  | false => exact iteF (kk _ _ _ _ _ _ s5 (k5.wipe2 ow) q5)
  | true =>
    refine iteT ⟨B, G5, ω5, ρ5, acc, wa, _, hn, k5, q5, fun G6 ω6 ρ6 acc6 wa6 H6 s6 k6 q6 => ?_⟩
    exact kk _ _ _ _ _ _ (s5.trans s6) (k6.wipe2 (by rw [wipe_wipe hv]; exact ow)) q6
theorem Dk.newT {p : Addr} {vs : List V} {ds : List TL.D} (k : Dk K B G ω ρ σ H D wa acc) (h : H p = none) (r : RpL K G vs ds) :
    Same G (upd G p (.tup vs)) ∧ Dk K B (upd G p (.tup vs)) ω ρ σ (upd H p (.tup vs)) D wa acc ∧ Rp K (upd G p (.tup vs)) (.ref p) (.tup ds) := by
  obtain ⟨sg, e2⟩ := k.e.newG (o := .tup vs) h
  have ne : D ≠ p := fun z => by subst z; rw [k.h] at h; cases h
  exact ⟨sg, ⟨e2, k.w, by rw [upd_ne ne]; exact k.g, by rw [upd_ne ne]; exact k.h, k.r.mono sg, k.d0⟩, .tup (.inl (.inl upd_same)) (r.mono sg)⟩
end
section
variable {X : Cx} {elt tg iter el : Expr} {ifs : List Expr} {gs rest : List Comprehension} {scope : Scope} {own : List (Str × Nat)} {pos : Pos} {te : DTE} {ti : DTI} {g : DTG} {tt : DTT} {tb : DTB} {ws vs vs1 : List Nat} {br : BRun} {brf : PySem.Env → BRun} {d : Nat} {np : Np}
theorem PBody.mo {t t' : TBd} (h : PBody X vs br t) (m : ∀ D σ H Nx, t' D σ H Nx → t D σ H Nx) : PBody X vs br t' := ⟨fun D pins s σ H Nx R I q => h.run D pins s σ H Nx R I (m _ _ _ _ q)⟩
end
end TL
namespace TL
end TL
namespace TL
open PySem PySem.Spec PyProof.Rows L2
structure Ca where
  Keeper : Addr := 0
  Scheme : Addr := 0
  World : Addr := 0
  Desk : Addr := 0
  KeeperError : Addr := 0
  BadWord : Addr := 0
  BadView : Addr := 0
  BadKeeper : Addr := 0
  BadRule : Addr := 0
  BadScheme : Addr := 0
  NoKeeper : Addr := 0
  BadIll : Addr := 0
  BadWeaving : Addr := 0
  BadShape : Addr := 0
  BadLot : Addr := 0
  BadState : Addr := 0
  NotSafe : Addr := 0
  Ringed : Addr := 0
  BadNumber : Addr := 0
  TooMany : Addr := 0
  BadRow : Addr := 0
  NothingLeft : Addr := 0
  BadText : Addr := 0
end TL
namespace HT
end HT
namespace L2
end L2
namespace TL
end TL
namespace L2
end L2
namespace PySem.W
end PySem.W
namespace L2
end L2
namespace TL
end TL
namespace TL
end TL
namespace TL
end TL
namespace TL
end TL
namespace TL
open PySem PySem.Spec PyProof.Rows L2
theorem ite2' {c : Bool} {A B : Prop} (h1 : c = true → A) (h2 : c = false → B) : if c = true then A else B := by
  cases c with
  | true => exact iteT (h1 rfl)
  | false => exact iteF (h2 rfl)
theorem line_big : 15728640 ≤ sizeLine := by rw [sizeLine_eq]; decide
def Sp_begun : DSp := fun args Q => ∃ ns : List Int, args = [.fr (.scr ns)] ∧ ns.length ≤ 63 ∧ Q (.nw (.rs (.st 1000000000000))) [.un]
def Sp_mixed : DSp := fun args Q => ∃ L C r t b, args = [.rs (.stx L C r t (b + 1))] ∧ C.length ≤ 63 ∧ 0 ≤ t ∧ t + b ≤ 1000000000000 ∧ ∀ z, Q (.dat (.int z)) [.rs (.stx L C r (t + 1) b)]
def Sp_take : DSp := fun args Q => ∃ b n, args = [.rs (.st b), .fr (.int n)] ∧ 1 ≤ b ∧ 0 < n ∧ n < 1073741824 ∧ ∀ k b', 0 ≤ k → k < n → b ≤ b' + 1 → Q (.dat (.int k)) [.rs (.st b'), .un]
def itemsD : D → Option (List D)
  | .lst xs => some xs
  | .tup xs => some xs
  | .str z => if z.length ≤ sizeLine then some (z.cps.toList.map fun c => .str ⟨#[c]⟩) else none
  | _ => none
def Sp_pick : DSp := fun args Q => ∃ b d xs, args = [.rs (.st b), .fr d] ∧ itemsD d = some xs ∧ 1 ≤ b ∧ xs ≠ [] ∧ xs.length < 1073741824 ∧ ∀ x b', x ∈ xs → b ≤ b' + 1 → Q (.dat x) [.rs (.st b'), .un]
def rd_begun : DTS := (dSeq (dSet 1 1 (dLc (iSeq ((dFrz (dVar 0)))) (hName 2) ((dTst (dBin gGe ((dVar 2)) ((dBin gPow (dC (.int 10)) (dC (.int 18))))))) ((dBin gSub ((dVar 2)) ((dBin gPow (dC (.int 10)) (dC (.int 18)))))) [2]))
      (dRet ((dStNew 1 0))))
theorem begun_loop {t : Int} {ρ0 : Env} {Q : Rs → Env → Prop} {s0 : Sl} : ∀ (ns : List Int) (acc : List Int) (o : Sl), (∀ Lg : List Int, Lg.length ≤ acc.length + ns.length → Q (.nw (.ls (Lg.map .int))) [s0, .un, frO ρ0[2]?]) → acc.length + ns.length ≤ 63 →
    dLcL (hName 2) (dTst (dBin gGe (dVar 2) (dBin gPow (dC (.int 10)) (dC (.int 18))))) (dBin gSub (dVar 2) (dBin gPow (dC (.int 10)) (dC (.int 18)))) [2] ρ0 (ns.map .int) (acc.map .int) [s0, .un, o] Q
  | [], acc, o, h, _ => h acc (by simp)
  | n :: ns, acc, o, h, hl => by
    refine ⟨⟨by decide, by decide, by decide⟩, ite2' (fun e => ⟨⟨by decide, by decide, by decide⟩, trivial, ?_⟩) (fun e => ?_)⟩
    · refine ⟨by rw [List.length_map]; have := line_big; simp at hl; omega, ?_⟩
      have := begun_loop (t := t) (ρ0 := ρ0) (Q := Q) (s0 := s0) ns (acc ++ [n - 10 ^ 18]) (.fr (.int n)) (fun Lg hL => h Lg (by simp at hL ⊢; omega)) (by simp at hl ⊢; omega)
      rw [List.map_append] at this
      exact this
    · exact begun_loop (t := t) (ρ0 := ρ0) (Q := Q) (s0 := s0) ns acc (.fr (.int n)) (fun Lg hL => h Lg (by simp at hL ⊢; omega)) (by simp at hl ⊢; omega)
theorem kd_begun : Keeps Sp_begun 1 3 rd_begun := by
  rintro args Q _ ⟨ns, rfl, hn, h⟩
  refine begun_loop (t := 0) (ρ0 := [.fr (.scr ns), .un, .un]) (s0 := .fr (.scr ns)) ns [] .un (fun Lg hL => ⟨Nat.le_refl _, Lg, rfl, ?_, hn, h⟩) (by simp; omega)
  simp at hL
  omega
def rd_pick : DTS := (dRet ((dBin gIx ((dVar 1)) ((dCall 2 Sp_take (dCons ((dVar 0)) (dCons ((dCB gLen (dCons ((dVar 1)) dNil))) dNil)))))))
theorem atI_mem {α : Type} {xs : List α} {k : Int} (h0 : 0 ≤ k) (h1 : k < xs.length) : ∃ x, atI xs k = some x ∧ x ∈ xs := by
  have hk : k.toNat < xs.length := by omega
  refine ⟨xs[k.toNat], ?_, List.getElem_mem _⟩
  have := atI_nat (xs := xs) (j := k.toNat) (List.getElem?_eq_getElem hk)
  rwa [Int.toNat_of_nonneg h0] at this
theorem W2_mk {o p : Option D} {x y : D} {P : D → D → Prop} (h1 : o = some x) (h2 : p = some y) (h : P x y) : W2 o p P := by subst h1; subst h2; exact h
theorem gIx_lst {xs : List D} {k : Int} {x : D} {P : Rs → Prop} (e : atI xs k = some x) (h : P (.dat x)) : gIx (.lst xs) (.int k) P := by unfold gIx; simp only [e]; exact h
theorem gIx_tup {xs : List D} {k : Int} {x : D} {P : Rs → Prop} (e : atI xs k = some x) (h : P (.dat x)) : gIx (.tup xs) (.int k) P := by unfold gIx; simp only [e]; exact h
theorem gIx_str {z : Str} {k : Int} {c : Nat} {P : Rs → Prop} (e : atI z.cps.toList k = some c) (hz : z.length ≤ sizeLine) (h : P (.dat (.str ⟨#[c]⟩))) : gIx (.str z) (.int k) P := by unfold gIx; simp only [e]; exact ⟨hz, h⟩
theorem kd_pick : Keeps Sp_pick 2 2 rd_pick := by
  rintro args Q hargs ⟨b, d, xs, rfl, hd, hb, hne, hlen, h⟩
  clear hargs
  have hpos : 0 < xs.length := List.length_pos_iff.mpr hne
  unfold itemsD at hd
  split at hd
  · cases hd
    refine ⟨rfl, rfl, b, _, rfl, hb, by omega, by omega, fun k b' h0 h1 h2 => ?_⟩
    obtain ⟨x, e, m⟩ := atI_mem h0 h1
    exact W2_mk rfl rfl (gIx_lst e (h x b' m h2))
  · cases hd
    refine ⟨rfl, rfl, b, _, rfl, hb, by omega, by omega, fun k b' h0 h1 h2 => ?_⟩
    obtain ⟨x, e, m⟩ := atI_mem h0 h1
    exact W2_mk rfl rfl (gIx_tup e (h x b' m h2))
  · rename_i z
    split at hd
    · rename_i hz
      cases hd
      rw [List.length_map] at hlen hpos
      have hl : z.cps.toList.length = z.length := Array.length_toList
      refine ⟨hz, rfl, rfl, b, _, rfl, hb, by omega, by omega, fun k b' h0 h1 h2 => ?_⟩
      obtain ⟨x, e, m⟩ := atI_mem (xs := z.cps.toList) h0 (by rw [hl]; exact h1)
      exact W2_mk rfl rfl (gIx_str e hz (h _ b' (List.mem_map.mpr ⟨x, m, rfl⟩) h2))
    · cases hd
  · cases hd
def rd_take : DTS := (dDraw 0 (dSeq (dIf ((dTst (dBin (gEq false) ((dStRest 0)) (dC (.int 0))))) (dStSetRest 0 ((dIfE ((dStAny 0)) ((dStPop 0)) ((dCall 1 Sp_mixed (dCons ((dVar 0)) dNil)))))) dNext)
      (dSeq (dSet 2 2 ((dBin gMod ((dCB gInt (dCons ((dStRest 0)) dNil))) ((dVar 1)))))
      (dSeq (dStSetRest 0 ((dBin gDiv ((dStRest 0)) ((dVar 1)))))
      (dRet ((dVar 2)))))))
theorem kd_take : Keeps Sp_take 2 3 rd_take := by
  rintro args Q _ ⟨b, n, rfl, hb, h0, h1, h⟩
  refine ⟨b, rfl, fun L C r t l1 l2 l3 l4 => ?_⟩
  have rest : ∀ (L' : List Int) (r' t' : Int) (b' : Nat), b ≤ b' + 1 → dSeq (dSet 2 2 ((dBin gMod ((dCB gInt (dCons ((dStRest 0)) dNil))) ((dVar 1))))) (dSeq (dStSetRest 0 ((dBin gDiv ((dStRest 0)) ((dVar 1))))) (dRet ((dVar 2))))
      { nx := shut1 0 (dEnd 2 Q).nx, rt := fun x => match x with | .dat d => shut1 0 ((dEnd 2 Q).rt (.dat d)) | _ => fun _ => False, bk := shut1 0 (dEnd 2 Q).bk, ct := shut1 0 (dEnd 2 Q).ct } [.rs (.stx L' C r' t' b'), .fr (.int n), .un] := fun L' r' t' b' hb' =>
    ⟨h0, ⟨h0, h1⟩, h _ _ (Int.emod_nonneg _ (by omega)) (Int.emod_lt_of_pos _ h0) hb'⟩
  refine ite2' (fun e => ?_) (fun e => rest L r t b (by omega))
  cases L with
  | nil =>
    obtain ⟨b0, rfl⟩ : ∃ b0, b = b0 + 1 := ⟨b - 1, by omega⟩
    exact ⟨rfl, rfl, [], C, r, t, b0, rfl, l2, l3, by omega, fun z => rest [] z (t + 1) b0 (by omega)⟩
  | cons x L => exact rest L x t b (by omega)
def rd_mixed : DTS := (dSeq (dStSetTurn 0 ((dBin gAdd ((dStTurn 0)) (dC (.int 1)))))
      (dSeq (dSet 1 1 (dC (.int 0)))
      (dSeq (dFor (iSeq ((dLst (dCons (dC (.int 2147483629)) (dCons (dC (.int 2147483587)) (dCons (dC (.int 2147483579)) (dCons (dC (.int 2147483563)) (dCons (dC (.int 2147483549)) (dCons (dC (.int 2147483543)) dNil))))))))) (hName 2) (dSeq (dSet 1 3 ((dBin gAdd ((dBin gMul (dC (.int 104729)) ((dStTurn 0)))) ((dBin gDiv ((dVar 2)) (dC (.int 7)))))))
      (dSeq (dFor (iSeq ((dStCells 0))) (hName 4) (dSet 1 3 ((dBin gMod ((dCB gInt (dCons ((dBin gAdd ((dBin gMul ((dVar 3)) (dC (.int 48271)))) ((dVar 4)))) dNil))) ((dVar 2))))))
      (dSet 1 1 ((dBin gAdd ((dBin gMul ((dVar 1)) (dC (.int 2147483647)))) ((dBin gMod ((dCB gInt (dCons ((dBin gPow ((dVar 3)) (dC (.int 5)))) dNil))) ((dVar 2))))))))))
      (dRet ((dVar 1))))))
theorem mixed_in {E : DEnds} {s0 s1 : Sl} {p : Int} (hp : 0 < p) (hp2 : p < 4611686018427387904) : ∀ (ns : List Int) (bl : Int) (o : Sl), 0 ≤ bl → bl < 4611686018427387904 → (∀ bl' o', 0 ≤ bl' → bl' < 4611686018427387904 → E.nx [s0, s1, .fr (.int p), .fr (.int bl'), o']) →
    dForL (hName 4) (dSet 1 3 ((dBin gMod ((dCB gInt (dCons ((dBin gAdd ((dBin gMul ((dVar 3)) (dC (.int 48271)))) ((dVar 4)))) dNil))) ((dVar 2))))) E (ns.map .int) [s0, s1, .fr (.int p), .fr (.int bl), o]
  | [], bl, o, h0, h1, h => h bl o h0 h1
  | n :: ns, bl, o, h0, h1, h => ⟨.inr (by decide), hp, mixed_in hp hp2 ns _ _ (Int.emod_nonneg _ (by omega)) (Int.lt_trans (Int.emod_lt_of_pos _ hp) hp2) h⟩
theorem mixed_out {E : DEnds} {L C : List Int} {r t : Int} {b : Nat} (ht : 0 ≤ t) (ht2 : t ≤ 1000000000001) : ∀ (ps : List Int) (z : Int) (o2 o3 o4 : Sl), (∀ p ∈ ps, 0 < p ∧ p < 4294967296) → (∀ z o2 o3 o4, E.nx [.rs (.stx L C r t b), .fr (.int z), o2, o3, o4]) →
    dForL (hName 2) (dSeq (dSet 1 3 ((dBin gAdd ((dBin gMul (dC (.int 104729)) ((dStTurn 0)))) ((dBin gDiv ((dVar 2)) (dC (.int 7)))))))
      (dSeq (dFor (iSeq ((dStCells 0))) (hName 4) (dSet 1 3 ((dBin gMod ((dCB gInt (dCons ((dBin gAdd ((dBin gMul ((dVar 3)) (dC (.int 48271)))) ((dVar 4)))) dNil))) ((dVar 2))))))
      (dSet 1 1 ((dBin gAdd ((dBin gMul ((dVar 1)) (dC (.int 2147483647)))) ((dBin gMod ((dCB gInt (dCons ((dBin gPow ((dVar 3)) (dC (.int 5)))) dNil))) ((dVar 2))))))))) E (ps.map .int) [.rs (.stx L C r t b), .fr (.int z), o2, o3, o4]
  | [], z, o2, o3, o4, _, h => h z o2 o3 o4
  | p :: ps, z, o2, o3, o4, hps, h => by
    obtain ⟨p0, p1⟩ := hps p List.mem_cons_self
    refine ⟨.inl (by decide), ⟨by decide, by decide⟩, ?_⟩
    refine mixed_in (s0 := .rs (.stx L C r t b)) (s1 := .fr (.int z)) p0 (by omega) C (104729 * t + p / 7) o4 (by have : 0 ≤ p / 7 := Int.ediv_nonneg (by omega) (by omega); omega) (by have : p / 7 ≤ p := Int.ediv_le_self _ (by omega); omega) fun bl o' b0 b1 => ?_
    exact ⟨.inr (by decide), ⟨by decide, by decide, by omega⟩, p0, mixed_out ht ht2 ps _ _ _ _ (fun q hq => hps q (List.mem_cons_of_mem _ hq)) h⟩
theorem kd_mixed : Keeps Sp_mixed 1 5 rd_mixed := by
  rintro args Q hargs ⟨L, C, r, t, b, rfl, hC, ht, ht2, h⟩
  clear hargs
  refine ⟨b, rfl, rfl, by have := line_big; show 6 ≤ sizeLine; omega, ?_⟩
  refine mixed_out (L := L) (C := C) (r := r) (t := t + 1) (b := b) (by omega) (by omega) [2147483629, 2147483587, 2147483579, 2147483563, 2147483549, 2147483543] 0 .un .un .un ?_ (fun z _ _ _ => h z)
  intro p hp
  simp only [List.mem_cons, List.not_mem_nil, or_false] at hp
  rcases hp with rfl | rfl | rfl | rfl | rfl | rfl <;> exact ⟨by decide, by decide⟩
end TL
namespace TL
open PySem PySem.Spec PyProof.Rows L2
def okS (x : Str) : Bool := x.cps.all (· < 1114112)
def okI (N : Nat) (i : Int) : Bool := decide (i.natAbs ≤ N)
def topN : Nat := 10 ^ 149
def okKey (N : Nat) : Key → Bool
  | .inl i => okI N i
  | .inr x => okS x
mutual
def okD (N : Nat) : D → Bool
  | .non => true
  | .bl _ => true
  | .int i => okI N i
  | .str x => okS x
  | .tup xs => okL N xs
  | .lst xs => okL N xs
  | .dct kvs => okK N kvs
  | .obj _ _ => false
  | .ref _ => false
  | .ty _ => false
  | .scr _ => false
  | .exc _ _ => false
def okL (N : Nat) : List D → Bool
  | [] => true
  | x :: xs => okD N x && okL N xs
def okK (N : Nat) : List (Key × D) → Bool
  | [] => true
  | (k, v) :: r => okKey N k && (okD N v && okK N r)
end
theorem okI_log {N : Nat} (hN : N ≤ topN) {i : Int} (h : okI N i = true) : i.natAbs.log2 < 1920 := by
  have h1 : i.natAbs < 10 ^ 150 := Nat.lt_of_le_of_lt (Nat.le_trans (of_decide_eq_true h) hN) (by decide)
  by_cases h0 : i.natAbs = 0
  · rw [h0]; decide
  · rw [Nat.log2_lt h0]
    exact Nat.lt_of_lt_of_le h1 (by decide)
mutual
theorem okD_plain {N : Nat} : ∀ d : D, okD N d = true → plain d = true
  | .non, _ => rfl
  | .bl _, _ => rfl
  | .int _, _ => rfl
  | .str _, _ => rfl
  | .tup xs, h => okL_plain xs h
  | .lst xs, h => okL_plain xs h
  | .dct kvs, h => okK_plain kvs h
  | .obj _ _, h => by cases h
  | .ref _, h => by cases h
  | .ty _, h => by cases h
  | .scr _, h => by cases h
  | .exc _ _, h => by cases h
theorem okL_plain {N : Nat} : ∀ xs : List D, okL N xs = true → plainL xs = true
  | [], _ => rfl
  | x :: xs, h => by
    have h' : okD N x = true ∧ okL N xs = true := by simpa [okL] using h
    show (plain x && plainL xs) = true
    rw [okD_plain x h'.1, okL_plain xs h'.2]; rfl
theorem okK_plain {N : Nat} : ∀ xs : List (Key × D), okK N xs = true → plainK xs = true
  | [], _ => rfl
  | (k, v) :: xs, h => by
    have h' : okKey N k = true ∧ okD N v = true ∧ okK N xs = true := by simpa [okK] using h
    show (plain v && plainK xs) = true
    rw [okD_plain v h'.2.1, okK_plain xs h'.2.2]; rfl
end
theorem okI_short {N : Nat} (hN : N ≤ topN) {i : Int} (h : okI N i = true) : (PyData.shown (.int i)).length ≤ 160 := by
  have h1 : i.natAbs < 10 ^ 150 := Nat.lt_of_le_of_lt (Nat.le_trans (of_decide_eq_true h) hN) (by decide)
  rw [PyData.shown_int]
  have := int_text_length_le10 (k := 150) (by decide) h1
  show (Str.ofString (toString i)).length ≤ 160
  rw [PySem.ofString_length]
  omega
theorem okS_short {x : Str} (h : okS x = true) : (x.cps.toList.all fun c => decide (c < 16 ^ 8)) = true := by
  unfold okS at h
  rw [List.all_eq_true]
  intro c hc
  have := (Array.all_eq_true_iff_forall_mem.mp h) c (Array.mem_toList_iff.mp hc)
  have h2 : c < 1114112 := by simpa using this
  exact decide_eq_true (by have : (16 : Nat) ^ 8 = 4294967296 := by decide
                           omega)
theorem okKey_short {N : Nat} (hN : N ≤ topN) {k : Key} (h : okKey N k = true) : (kD k).leavesShort 160 = true ∧ (kD k).showable = true := by
  cases k with
  | inl i => exact ⟨by show decide _ = true; exact decide_eq_true (okI_short hN h), by show decide _ = true; exact decide_eq_true (okI_log hN h)⟩
  | inr x => exact ⟨okS_short h, rfl⟩
mutual
theorem okD_fit {N : Nat} (hN : N ≤ topN) : ∀ d : D, okD N d = true → (py d).leavesShort 160 = true ∧ (py d).showable = true
  | .non, _ => ⟨rfl, rfl⟩
  | .bl _, _ => ⟨rfl, rfl⟩
  | .int i, h => ⟨by show decide _ = true; exact decide_eq_true (okI_short hN h), by show decide _ = true; exact decide_eq_true (okI_log hN h)⟩
  | .str x, h => ⟨okS_short h, rfl⟩
  | .tup xs, h => okL_fit hN xs h
  | .lst xs, h => okL_fit hN xs h
  | .dct kvs, h => okK_fit hN kvs h
  | .obj _ _, h => by cases h
  | .ref _, h => by cases h
  | .ty _, h => by cases h
  | .scr _, h => by cases h
  | .exc _ _, h => by cases h
theorem okL_fit {N : Nat} (hN : N ≤ topN) : ∀ xs : List D, okL N xs = true → PyData.leavesShortAll 160 (pyL xs) = true ∧ PyData.showableAll (pyL xs) = true
  | [], _ => ⟨rfl, rfl⟩
  | x :: xs, h => by
    have h' : okD N x = true ∧ okL N xs = true := by simpa [okL] using h
    have h1 := okD_fit hN x h'.1
    have h2 := okL_fit hN xs h'.2
    exact ⟨by show (_ && _) = true; rw [h1.1, h2.1]; rfl, by show (_ && _) = true; rw [h1.2, h2.2]; rfl⟩
theorem okK_fit {N : Nat} (hN : N ≤ topN) : ∀ xs : List (Key × D), okK N xs = true → PyData.leavesShortKv 160 (pyK xs) = true ∧ PyData.showableKv (pyK xs) = true
  | [], _ => ⟨rfl, rfl⟩
  | (k, v) :: xs, h => by
    have h' : okKey N k = true ∧ okD N v = true ∧ okK N xs = true := by simpa [okK] using h
    have h0 := okKey_short hN h'.1
    have h1 := okD_fit hN v h'.2.1
    have h2 := okK_fit hN xs h'.2.2
    exact ⟨by show (_ && _ && _) = true; rw [h0.1, h1.1, h2.1]; rfl, by show (_ && _ && _) = true; rw [h0.2, h1.2, h2.2]; rfl⟩
end
def wt (d : D) : Nat := (py d).weight
def dp (d : D) : Nat := (py d).depth
def wtL (xs : List D) : Nat := PyData.weightAll (pyL xs)
def dpL (xs : List D) : Nat := PyData.depthAll (pyL xs)
structure Fine (N w m : Nat) (d : D) : Prop where
  ok : okD N d = true
  lw : wt d ≤ w
  ld : dp d ≤ m
structure FineL (N w m : Nat) (xs : List D) : Prop where
  ok : okL N xs = true
  lw : wtL xs ≤ w
  ld : dpL xs ≤ m
theorem Fine.mono {N w m w' m' : Nat} {d : D} (h : Fine N w m d) (h1 : w ≤ w') (h2 : m ≤ m') : Fine N w' m' d := ⟨h.ok, Nat.le_trans h.lw h1, Nat.le_trans h.ld h2⟩
theorem FineL.mono {N w m w' m' : Nat} {d : List D} (h : FineL N w m d) (h1 : w ≤ w') (h2 : m ≤ m') : FineL N w' m' d := ⟨h.ok, Nat.le_trans h.lw h1, Nat.le_trans h.ld h2⟩
theorem Fine.plain {N w m : Nat} {d : D} (h : Fine N w m d) : plain d = true := okD_plain d h.ok
theorem Fine.show_ {N w m : Nat} {d : D} (h : Fine N w m d) (hN : N ≤ topN) (hw : w ≤ 100000) (hm : m ≤ 50) : ShowOk d := by
  refine ⟨h.plain, (okD_fit hN d h.ok).2, ?_, Nat.le_trans h.ld hm⟩
  have h1 := PyData.shown_le 160 (by decide) (py d) (okD_fit hN d h.ok).1
  have h2 : (py d).weight ≤ 100000 := Nat.le_trans h.lw hw
  have h3 : (160 + 2) * (py d).weight ≤ 162 * 100000 := Nat.mul_le_mul_left _ h2
  rw [sizeLine_eq]
  omega
theorem Fine.tup {N w m : Nat} {xs : List D} (h : FineL N w m xs) : Fine N w (m + 1) (.tup xs) := ⟨h.ok, h.lw, Nat.succ_le_succ h.ld⟩
theorem Fine.lst {N w m : Nat} {xs : List D} (h : FineL N w m xs) : Fine N w (m + 1) (.lst xs) := ⟨h.ok, h.lw, Nat.succ_le_succ h.ld⟩
theorem okL_iff {N : Nat} : ∀ {xs : List D}, okL N xs = true ↔ ∀ x ∈ xs, okD N x = true
  | [] => by simp [okL]
  | x :: xs => by
    have := okL_iff (N := N) (xs := xs)
    simp [okL, this]
theorem wtL_eq : ∀ xs : List D, wtL xs = (xs.map fun d => wt d + 1).sum
  | [] => rfl
  | x :: xs => by
    show PyData.weight (py x) + 1 + wtL xs = _
    rw [wtL_eq xs, List.map_cons, List.sum_cons]; rfl
theorem dpL_le : ∀ {xs : List D} {m : Nat}, dpL xs ≤ m ↔ ∀ x ∈ xs, dp x ≤ m
  | [], m => by simp [dpL, pyL, PyData.depthAll]
  | x :: xs, m => by
    have := dpL_le (xs := xs) (m := m)
    show max (dp x) (dpL xs) ≤ m ↔ _
    rw [Nat.max_le, this]
    simp
theorem wtL_append (xs ys : List D) : wtL (xs ++ ys) = wtL xs + wtL ys := by rw [wtL_eq, wtL_eq, wtL_eq, List.map_append, List.sum_append]
theorem wtL_cons (x : D) (ys : List D) : wtL (x :: ys) = wt x + 1 + wtL ys := rfl
theorem wtL_mem {x : D} : ∀ {xs : List D}, x ∈ xs → wt x + 1 ≤ wtL xs
  | y :: ys, h => by
    rw [wtL_cons]
    rcases List.mem_cons.mp h with rfl | h
    · omega
    · have := wtL_mem h
      omega
theorem FineL.mem {N w m : Nat} {xs : List D} (h : FineL N w m xs) {x : D} (hx : x ∈ xs) : Fine N w m x := ⟨okL_iff.mp h.ok x hx, by have := wtL_mem hx; have := h.lw; omega, dpL_le.mp h.ld x hx⟩
theorem FineL.of {N w m : Nat} {xs : List D} (h1 : ∀ x ∈ xs, okD N x = true ∧ TL.dp x ≤ m) (h2 : wtL xs ≤ w) : FineL N w m xs := ⟨okL_iff.mpr fun x hx => (h1 x hx).1, h2, dpL_le.mpr fun x hx => (h1 x hx).2⟩
theorem sub_sum {xs ys : List Nat} (h : ys.Sublist xs) : ys.sum ≤ xs.sum := by
  induction h with
  | slnil => exact Nat.le_refl _
  | cons a _ ih => rw [List.sum_cons]; omega
  | cons_cons a _ ih => rw [List.sum_cons, List.sum_cons]; omega
theorem FineL.sub {N w m : Nat} {xs ys : List D} (h : FineL N w m xs) (hs : ys.Sublist xs) : FineL N w m ys := by
  refine .of (fun x hx => ⟨okL_iff.mp h.ok x (hs.subset hx), dpL_le.mp h.ld x (hs.subset hx)⟩) (Nat.le_trans ?_ h.lw)
  rw [wtL_eq, wtL_eq]
  exact sub_sum (hs.map _)
theorem FineL.append {N w w' m : Nat} {xs ys : List D} (h : FineL N w m xs) (h' : FineL N w' m ys) : FineL N (w + w') m (xs ++ ys) := by
  refine .of (fun x hx => ?_) (by rw [wtL_append]; exact Nat.add_le_add h.lw h'.lw)
  rcases List.mem_append.mp hx with z | z
  · exact ⟨okL_iff.mp h.ok x z, dpL_le.mp h.ld x z⟩
  · exact ⟨okL_iff.mp h'.ok x z, dpL_le.mp h'.ld x z⟩
theorem FineL.cons {N w w' m : Nat} {x : D} {ys : List D} (h : Fine N w m x) (h' : FineL N w' m ys) : FineL N (w + 1 + w') m (x :: ys) := by
  refine .of (fun y hy => ?_) (by rw [wtL_cons]; have := h.lw; have := h'.lw; omega)
  rcases List.mem_cons.mp hy with rfl | z
  · exact ⟨h.ok, h.ld⟩
  · exact ⟨okL_iff.mp h'.ok y z, dpL_le.mp h'.ld y z⟩
theorem FineL.nil {N w m : Nat} : FineL N w m [] := ⟨rfl, Nat.zero_le _, Nat.zero_le _⟩
theorem wtL_set (y : D) : ∀ (xs : List D) (i : Nat), wtL (xs.set i y) ≤ wtL xs + wt y + 1
  | [], _ => by simp [wtL, pyL, PyData.weightAll]
  | x :: xs, 0 => by show wt y + 1 + wtL xs ≤ wt x + 1 + wtL xs + wt y + 1; omega
  | x :: xs, i + 1 => by
    have := wtL_set y xs i
    show wt x + 1 + wtL (xs.set i y) ≤ wt x + 1 + wtL xs + wt y + 1
    omega
theorem FineL.set {N w w' m : Nat} {xs : List D} {y : D} (h : FineL N w m xs) (hy : Fine N w' m y) (i : Nat) : FineL N (w + w' + 1) m (xs.set i y) := by
  refine .of (fun x hx => ?_) ?_
  · rcases List.mem_or_eq_of_mem_set hx with z | rfl
    · exact ⟨okL_iff.mp h.ok x z, dpL_le.mp h.ld x z⟩
    · exact ⟨hy.ok, hy.ld⟩
  · have := wtL_set y xs i
    have := h.lw
    have := hy.lw
    omega
end TL
namespace TL
open PySem PySem.Spec PyProof.Rows L2
def letsS : Str := "abcdefghijklmnopqrstuvwxyz"
def lets : List Nat := letsS.cps.toList
def wdB (z : Str) : Bool := decide (1 ≤ z.length) && (decide (z.length ≤ 8) && z.cps.toList.all fun c => decide (c ∈ lets))
def Wd (z : Str) : Prop := wdB z = true
theorem Wd.of {z : Str} (h1 : 1 ≤ z.length) (h2 : z.length ≤ 8) (h3 : ∀ c ∈ z.cps.toList, c ∈ lets) : Wd z := by
  unfold Wd wdB
  simp only [Bool.and_eq_true, decide_eq_true_eq, List.all_eq_true]
  exact ⟨h1, h2, h3⟩
theorem Wd.all {z : Str} (h : Wd z) : 1 ≤ z.length ∧ z.length ≤ 8 ∧ ∀ c ∈ z.cps.toList, c ∈ lets := by
  unfold Wd wdB at h
  simpa only [Bool.and_eq_true, decide_eq_true_eq, List.all_eq_true] using h
end TL
namespace TL
open PySem PySem.Spec PyProof.Rows L2
theorem fin_big {n : Nat} (h : n ≤ 1000) : n < sizeLine := by have := line_big; omega
end TL
namespace TL
open PySem PySem.Spec PyProof.Rows L2
section
variable {Q : Rs → TL.Env → Prop} {E : DEnds} {m k w j n l o fd : Sl} {pl : Sl} {ws : List Str}
theorem rangeD_len (lo : Int) (n : Nat) : (rangeD lo n).length = n := by unfold rangeD; rw [List.length_map, List.length_range]
end
end TL
namespace TL
open PySem PySem.Spec PyProof.Rows L2
theorem sz0 : 0 ≤ sizeLine := Nat.zero_le _
def fineB (N w m : Nat) (d : D) : Bool := okD N d && (decide (wt d ≤ w) && decide (dp d ≤ m))
theorem fine_of {N w m : Nat} {d : D} (h : fineB N w m d = true) : Fine N w m d := by
  unfold fineB at h
  simp only [Bool.and_eq_true, decide_eq_true_eq] at h
  exact ⟨h.1, h.2.1, h.2.2⟩
def anyA : List D := [.non, .bl true, .bl false, .int 0, .int 1, .int (-1), .int 5, .int (10 ^ (40 : Int).toNat), .str "", .str "a", .str "x", .str "A", .str "ab c", .str "abcdefghi", .tup [], .lst [], .dct []]
def anyB : List D := [.tup [.str "x"], .lst [.str "x"], .tup [.tup []], .tup [.int 1, .str "x"], .tup [.str "x", .bl false, .bl false], .dct [(Sum.inr "x", .int 1)], .str "x\n", .tup [.str "make"], .str "there"]
theorem any_fine : (anyA ++ anyB).all (fineB (10 ^ 70) 1000 2) = true := by decide +kernel
theorem sz {n : Nat} (h : n ≤ 1000) : n ≤ sizeLine := Nat.le_of_lt (fin_big h)
theorem cp (i j : Int) (h0 : 0 ≤ j) (h1 : j ≤ 1000) (h2 : i = 10) : CPow i j := ⟨h0, by omega, by subst h2; decide⟩
theorem okI_mono {N N' : Nat} {i : Int} (h : okI N i = true) (hN : N ≤ N') : okI N' i = true := decide_eq_true (Nat.le_trans (of_decide_eq_true h) hN)
mutual
theorem okD_mono {N N' : Nat} (hN : N ≤ N') : ∀ d : D, okD N d = true → okD N' d = true
  | .non, _ => rfl
  | .bl _, _ => rfl
  | .int i, h => okI_mono h hN
  | .str x, h => h
  | .tup xs, h => okL_mono hN xs h
  | .lst xs, h => okL_mono hN xs h
  | .dct kvs, h => okK_mono hN kvs h
  | .obj _ _, h => by cases h
  | .ref _, h => by cases h
  | .ty _, h => by cases h
  | .scr _, h => by cases h
  | .exc _ _, h => by cases h
theorem okL_mono {N N' : Nat} (hN : N ≤ N') : ∀ xs : List D, okL N xs = true → okL N' xs = true
  | [], _ => rfl
  | x :: xs, h => by
    have h' : okD N x = true ∧ okL N xs = true := by simpa [okL] using h
    show (okD N' x && okL N' xs) = true
    rw [okD_mono hN x h'.1, okL_mono hN xs h'.2]; rfl
theorem okK_mono {N N' : Nat} (hN : N ≤ N') : ∀ xs : List (Key × D), okK N xs = true → okK N' xs = true
  | [], _ => rfl
  | (k, v) :: xs, h => by
    have h' : okKey N k = true ∧ okD N v = true ∧ okK N xs = true := by simpa [okK] using h
    have hk : okKey N' k = true := by
      cases k with
      | inl i => exact okI_mono h'.1 hN
      | inr x => exact h'.1
    show (okKey N' k && (okD N' v && okK N' xs)) = true
    rw [hk, okD_mono hN v h'.2.1, okK_mono hN xs h'.2.2]; rfl
end
end TL
namespace TL
variable {np : Np}
open PySem PySem.Spec PyProof.Rows L2
theorem kbn_mkN {K : PySem.W.Frag} {fx qual : Str} {st : Stmt} {f : Addr} {fd : FuncData} {ps ks : List Str} (n : Nat) (π : List Nat) (F : Fun K fx qual st f fd)
    (h : ∀ (kV doc pm : Value) (an : Option Addr) (cdv ct : Value) (us ws : List Value), us.length = n → ws.length = ks.length → bindArgs (PySem.W.fnOf fx qual (defArgs st) (defBody st) (defScope st) .none kV doc pm an cdv ct) ⟨us, ks.zip ws⟩ = pure (ps.zip (us ++ sel π ws))) :
    KBn K fd ps n ks (fun us ws => us ++ sel π ws) (fun us ws => us ++ sel π ws) := by
  obtain ⟨oc, od, kV, doc, pm, an, cdv, ct, osl, rfl, lk, hcd⟩ := F.ex
  exact ⟨fun s us ws _ l1 l2 => .of_eq (h kV doc pm an cdv ct us ws l1 l2), fun r1 r2 => r1.append (vals_sel r2 π)⟩
end TL
namespace SL
end SL
namespace SL
open PySem PySem.Spec PyProof.Rows L2 PySem.Calls
section
variable {X : Cx} {pins : List (Addr × Obj)} {σ : L2.St} {H : Hp} {s : Shared}
def Grew (P : Addr) (q : Str) (ps : Array Value) (c : Addr) (H H1 : Hp) : Prop :=
  (H1 = H ∧ ∃ pos, codeAmong pos ps.toList = some (.ref c)) ∨ ∃ qs : Array Value, H c = none ∧ H1 = upd (upd H P (.tbl qs)) c (LamX.CodeO c q) ∧ TriplesOk qs.toList ∧ ∀ pos cv, codeAmong pos qs.toList = some cv → codeAmong pos ps.toList = some cv ∨ cv = .ref c
end
theorem Grew.same {P : Addr} {q : Str} {ps : Array Value} {c : Addr} {H H1 : Hp} (g : Grew P q ps c H H1) {b : Addr} {o : HO} (hb : H b = some o) (hP : b ≠ P) : H1 b = some o := by
  rcases g with ⟨rfl, _⟩ | ⟨qs, hc, rfl, _⟩
  · exact hb
  · rw [upd_ne (ne_of_none hb hc), upd_ne hP]; exact hb
theorem Grew.ne {P : Addr} {q : Str} {ps : Array Value} {c : Addr} {H H1 : Hp} (g : Grew P q ps c H H1) (hP : H P = some (.tbl ps)) {b : Addr} {o : HO} (hb : H b = some o) (ho : ∀ ps, o ≠ .tbl ps) : H1 b = some o :=
  g.same hb fun z => by rw [z, hP] at hb; exact ho ps (Option.some.inj hb).symm
end SL
namespace TL
end TL
namespace TLH
open PySem PySem.Spec PyProof.Rows L2 TL
abbrev Fr := PySem.W.Frag
abbrev HeapF := Addr → Option Obj
def codeAt (K : Fr) (a : Addr) : Addr := match K.lookup a with
  | some ⟨_, _, .func fd, _⟩ => (match fd.code with
    | .ref c => c
    | _ => 0)
  | _ => 0
def tabAt (K : Fr) (a : Addr) : Addr := He.tabOf K (codeAt K a)
def part (g : HeapF) (n : Nat) : Fr := He.frT g (He5.asA g n)
def tabsFine (g : HeapF) (ts : List (Fr → Addr)) (K : Fr) : Bool := ts.all fun t => PySem.W.codeHdIn K (codeAt K (t K)) (tabAt K (t K)) && ((g (tabAt K (t K))).map He.emptyTab).getD false
def seenY (fa : List He.Fa) (fn : List He5.DefA) (ts : List (Fr → Addr)) (ex : Fr → Bool) (g : HeapF) (K : Fr) : Bool × List He.FnW :=
  ((fa.all fun f => f.ok K) && ((fn.all fun d => d.ok K) && (ex K && tabsFine g ts K)), fn.map fun d => He5.fnA K (d.at_ K))
def dueY (fn : List He5.DefA) : Bool × List He.FnW := (true, fn.map He5.DefA.val)
structure SaysY (fa : List He.Fa) (fn : List He5.DefA) (ts : List (Fr → Addr)) (ex : Fr → Bool) (h : Heap) (K : Fr) : Prop where
  facts : ∀ f ∈ fa, f.ok K = true
  defs : ∀ d ∈ fn, ∃ fd, FunD K d.name d.qual d.params d.body d.scope (d.dvs K) (d.kws K) (d.at_ K) fd
  more : ex K = true
  codes : ∀ t ∈ ts, PySem.W.codeHdIn K (codeAt K (t K)) (tabAt K (t K)) = true
  apart : ∀ t ∈ ts, K.lookup (tabAt K (t K)) = none
  empty : ∀ t ∈ ts, h.get? (tabAt K (t K)) = some { cls := .none, data := .fields #[] }
theorem two {a b : Bool} (h : (a && b) = true) : a = true ∧ b = true := Bool.and_eq_true_iff.mp h
def mth (C m : Str) (K : Fr) : Addr := He.ma K (He.ga K C) m
mutual
def datB (K : Fr) : Nat → D → Value → Bool
  | 0, _, _ => false
  | _ + 1, .non, .none => true
  | _ + 1, .bl b, .bool c => b == c
  | _ + 1, .int i, .int j _ => decide (i = j)
  | _ + 1, .str x, .str y _ => decide (x = y)
  | n + 1, .tup ds, .ref a => match K.lookup a with
    | some ⟨.type c, none, .seq its _, _⟩ => decide (c = "tuple") && (decide (its.size ≤ sizeLine) && datsB K n ds its.toList)
    | _ => false
  | _ + 1, _, _ => false
def datsB (K : Fr) : Nat → List D → List Value → Bool
  | _, [], [] => true
  | n, d :: ds, u :: us => datB K n d u && datsB K n ds us
  | _, _, _ => false
end
mutual
theorem dat_of {K : Fr} : ∀ {n : Nat} {d : D} {u : Value}, datB K n d u = true → ∃ v, RelV v u ∧ ∀ G, Rp K G v d
  | 0, _, _, h => by unfold datB at h; cases h
  | n + 1, d, u, h => by
    unfold datB at h
    split at h
    · cases ‹_ = _›
    · exact ⟨.non, rfl, fun _ => .non⟩
    · rename_i b c _ _ _; rw [beq_iff_eq.mp h]; exact ⟨.bl _, rfl, fun _ => .bl _⟩
    · rename_i i j t _ _ _; rw [of_decide_eq_true h]; exact ⟨.int _, ⟨_, rfl⟩, fun _ => .int _⟩
    · rename_i x y t _ _ _; rw [of_decide_eq_true h]; exact ⟨.str _, ⟨_, rfl⟩, fun _ => .str _⟩
    · rename_i m ds a hm
      split at h
      · rename_i c its k sl q
        obtain ⟨h1, h0⟩ := two h
        obtain ⟨h2, h3⟩ := two h0
        have hm' : n = m := Nat.succ.inj hm
        subst hm'
        obtain ⟨vs, r1, r2⟩ := dats_of h3
        exact ⟨.ref a, rfl, fun G => .tup (.inr ⟨_, its, k, q, congrArg Value.type (of_decide_eq_true h1), rfl, of_decide_eq_true h2, r1⟩) (r2 G)⟩
      · cases h
    · cases h
theorem dats_of {K : Fr} : ∀ {n : Nat} {ds : List D} {us : List Value}, datsB K n ds us = true → ∃ vs, Vals vs us ∧ ∀ G, RpL K G vs ds
  | _, [], [], _ => ⟨[], .nil, fun _ => .nil⟩
  | n, d :: ds, u :: us, h => by
    unfold datsB at h
    obtain ⟨h1, h2⟩ := two h
    obtain ⟨v, r1, r2⟩ := dat_of h1
    obtain ⟨vs, r3, r4⟩ := dats_of h2
    exact ⟨v :: vs, .cons r1 r3, fun G => .cons (r2 G) (r4 G)⟩
  | _, [], _ :: _, h => by unfold datsB at h; cases h
  | _, _ :: _, [], h => by unfold datsB at h; cases h
end
end TLH
namespace TLH
open PySem PySem.Spec PyProof.Rows L2 TL
abbrev Cd := Addr × Addr × Str
def tabsOf (cs : List Cd) : List (Addr × Str) := cs.map (·.2)
def isTb (cs : List Cd) (b : Addr) : Prop := ∃ t ∈ cs, t.2.1 = b
theorem entry {K : Fr} {cs : List Cd} {S : DSp} {H : Hp} {a : Addr} {ns : List Int} (sq : SqL K H a (ns.map V.int)) (na : ¬ isTb cs a) (tb : ∀ t ∈ cs, H t.2.1 = some (.tbl #[])) (h : S [.fr (.scr ns)] fun r _ => r = .dat (.bl true)) :
    toSp K (tabsOf cs) 1 S [.ref a] H (fun v _ => v = .bl true) fun _ _ _ => False := by
  classical
  let G : Hp := fun b => if isTb cs b then none else H b
  have gO : ∀ {b : Addr}, ¬ isTb cs b → G b = H b := fun n => if_neg n
  have gT : ∀ {b : Addr}, isTb cs b → G b = none := fun n => if_pos n
  have gle : Same G H := fun b o z => by
    by_cases t : isTb cs b
    · rw [gT t] at z; cases z
    · rw [gO t] at z; exact z
  have sqG : SqL K G a (ns.map V.int) := by
    rcases sq with (z | ⟨o, z⟩) | z
    · exact .inl (.inl ((gO na).trans z))
    · exact .inl (.inr ⟨o, (gO na).trans z⟩)
    · exact .inr z
  have tab : ∀ b, (∃ q, (b, q) ∈ tabsOf cs) → isTb cs b := fun b ⟨q, m⟩ => by
    obtain ⟨t, ht, e⟩ := List.mem_map.mp m
    exact ⟨t, ht, by rw [e]⟩
  refine ⟨G, fun _ => none, [.fr (.scr ns)], _, rfl, ⟨gle, fun _ _ z => .inl z, ⟨fun _ _ z _ _ => z, fun b t => ?_, fun p hp => ?_⟩, (fun b i z => by cases (show (none : Option Nat) = some i from z)), rfl, fun i s z => ?_, fun i s v z o p => ?_⟩, h, fun G' ω' v r args' H' s e rr _ q => ?_⟩
  · obtain ⟨t', ht, e⟩ := tab b t
    exact ⟨gT ⟨t', ht, e⟩, fun z => z rfl, #[], by rw [← e]; exact tb t' ht⟩
  · obtain ⟨t, ht, rfl⟩ := List.mem_map.mp hp
    refine ⟨#[], tb t ht, trivial, fun pos cv z => ?_⟩
    have z' : codeAmong pos [] = some cv := z
    simp [codeAmong] at z'
  · cases i with
    | zero => cases z; exact ⟨_, rfl, .scr sqG⟩
    | succ i => cases z
  · cases i with
    | zero => cases z; cases o
    | succ i => cases z
  · subst q
    cases rr
    rfl
section
variable {P : Program} {w : World} {K : Fr} {mg : Str → Option Value}
theorem law_callY {mb : Str → Option Value} {CX : CXT} {k : Nat} {fa a : Addr} {fd : FuncData} {x : Str} {S : DSp} {s1 : Shared} {vs : List Value} {ns : List Int} {cs : List Cd}
    (inK : K.In s1.heap) (nsM : s1.heap.Ns mainGlobals mg) (nsB : s1.heap.Ns builtinsNs mb) (agree : ∀ y : Str, y ≠ "__name__" → mb y = bootBuiltins y) (free : s1.heap.NoLimit) (bareG : s1.gens = #[])
    (emp : ∀ t ∈ cs, s1.heap.get? t.2.1 = some { cls := .none, data := .fields #[] }) (off : ∀ t ∈ cs, K.lookup t.2.1 = none) (cod : ∀ t ∈ cs, PySem.W.CodeHd s1.heap t.1 t.2.1)
    (bmod : ∃ (bm : Addr) (ob : Obj), mg "__builtins__" = some (.ref bm) ∧ bm ≠ builtinsNs ∧ s1.heap.get? bm = some ob ∧ ob.cls = .type "module" ∧ ob.dict = some builtinsNs ∧ ob.data = .plain)
    (at_ : s1.heap.get? a = some { cls := .type "list", data := .seq vs.toArray }) (ints_ : IntsAre vs ns) (few : ns.length ≤ sizeLine) (room : Room k callerA)
    (F : ∀ base : Heap, K.In base → base.Ns mainGlobals mg → (∀ t ∈ cs, LamX.TabB base mg t.1 t.2.1) → FnG P w K mg base CX k fa fd [x] (toSp K (tabsOf cs) 1 S)) (bt : ∀ (s : Shared) (u : Value), BindsTo s fd ⟨[u], []⟩ [(x, u)])
    (law : S [.fr (.scr ns)] fun r _ => r = .dat (.bl true)) (noX : ∀ H e s', CX [] H s1 (fun _ _ _ => False) e s' → False) :
    codeAny (model P w) callerA (.call (.ref fa) ⟨[.ref a], []⟩) (fun r s' => r = .ok (.ret (.bool true)) ∧ OldK s1.heap s'.heap ∧ s'.os = s1.os ∧ AllBare s'.gens) s1 := by
  classical
  have rel := vals_ints ints_
  have same := ints_.length
  have empB : ∀ {b : Addr}, isTb cs b → s1.heap.get? b = some { cls := .none, data := .fields #[] } := fun ⟨t, ht, e⟩ => by rw [← e]; exact emp t ht
  have na : ¬ isTb cs a := fun t => by
    have z := empB t
    rw [at_] at z
    cases congrArg Obj.data (Option.some.inj z)
  have main : ∀ H : Hp, (∀ t ∈ cs, H t.2.1 = some (.tbl #[])) → (∀ b, H b = none ∨ isTb cs b ∨ ∃ o xs, H b = some (.frz o (.lst xs))) → SqL K H a (ns.map V.int) → HOk P w H s1.heap → (∀ b, H b ≠ none → b = a ∨ isTb cs b) → (H a ≠ none → K.lookup a = none) →
      codeAny (model P w) callerA (.call (.ref fa) ⟨[.ref a], []⟩) (fun r s' => r = .ok (.ret (.bool true)) ∧ OldK s1.heap s'.heap ∧ s'.os = s1.os ∧ AllBare s'.gens) s1 := by
    intro H tbl only sq hok lone hid
    have up : ∀ {b : Addr} {o : Obj}, s1.heap.get? b = some o → H b = none → (hidT s1.heap H).get? b = some o := fun y z => hidT_get y z
    have offD : ∀ {b : Addr} {o : Obj}, s1.heap.get? b = some o → (∀ us n, o.data ≠ .seq us n) → o.data ≠ .fields #[] → H b = none := fun {b o} y d1 d2 => by
      cases z : H b with
      | none => rfl
      | some u =>
        rcases lone b (by rw [z]; simp) with rfl | t
        · rw [at_] at y; cases y; exact absurd rfl (d1 _ _)
        · rw [empB t] at y; cases y; exact absurd rfl d2
    have nsH : ∀ {b : Addr} {m : Str → Option Value}, s1.heap.Ns b m → (hidT s1.heap H).Ns b m := fun ⟨o, es, ep, y, dd, z⟩ =>
      ⟨o, es, ep, up y (offD y (fun _ _ q => by rw [dd] at q; cases q) fun q => by rw [dd] at q; cases q), dd, z⟩
    have inH : K.In (hidT s1.heap H) := fun b o y => up (inK b o y) (by
      cases z : H b with
      | none => rfl
      | some u =>
        rcases lone b (by rw [z]; simp) with rfl | ⟨t, ht, e⟩
        · rw [hid (by rw [z]; simp)] at y; cases y
        · rw [← e, off t ht] at y; cases y)
    have md : Mod K mg (hidT s1.heap H) := ⟨inH, nsH nsM, ⟨mb, nsH nsB, agree⟩, let ⟨mc, z1, z2⟩ := free; ⟨mc, nsH z1, z2⟩⟩
    have tbs : ∀ t ∈ cs, LamX.TabB (hidT s1.heap H) mg t.1 t.2.1 := fun t ht => by
      have here := emp t ht
      refine ⟨?_, ?_, fun z => ?_⟩
      · obtain ⟨o, us, file, tf, flags, tg, inF, text, tt, y, r1, r2, r3, r4, r5, r6, r7, r8, hne⟩ := cod t ht
        refine ⟨o, us, file, tf, flags, tg, inF, text, tt, up y (offD y (fun _ _ q => by rw [r2] at q; cases q) fun q => ?_), r1, r2, r3, r4, r5, r6, r7, r8, hne⟩
        rw [r2] at q
        cases q
        simp at r3
      · obtain ⟨bm, ob, b1, b2, b3, b4, b5, b6⟩ := bmod
        refine ⟨bm, ob, b1, b2, fun q => ?_, fun q => ?_, up b3 (offD b3 (fun _ _ q => by rw [b6] at q; cases q) fun q => by rw [b6] at q; cases q), b4, b5, b6⟩
        · obtain ⟨o, es, ep, y, dd, _⟩ := nsM
          rw [q, y] at b3
          cases b3
          rw [dd] at b6; cases b6
        · rw [q, here] at b3
          cases b3
          cases b6
      · obtain ⟨o, es, ep, y, dd, _⟩ := nsM
        rw [z, here] at y
        cases y
        cases dd
    have en : Env0 P w K mg (hidT s1.heap H) callerA [] s1 H :=
      ⟨rfl, md, fun b o y => of_hidT y, Nat.le_of_eq (hidT_size _ _), trivial, fun b hb => absurd (show b ∈ ([] : List Addr) from hb) (by simp), hok, .of_eq bareG⟩
    refine codeAny_mono ((F _ inH (nsH nsM) tbs).go callerA [] s1 H ⟨[.ref a], []⟩ [.ref a] [.ref a] _ _ rfl room en (bt s1 (.ref a)) (.cons rfl .nil) (entry sq na tbl law)) fun r s2 z => ?_
    cases r with
    | error ex => exact (noX H ex s2 z).elim
    | ok fl =>
      cases fl with
      | next => exact z.elim
      | brk => exact z.elim
      | cont => exact z.elim
      | ret u =>
        obtain ⟨v, H2, osq, bareq, unq, hok2, rv, hv⟩ := z
        obtain rfl : v = .bl true := hv
        obtain rfl : u = Value.bool true := rv
        have old : ∀ b o, ¬ isTb cs b → s1.heap.get? b = some o → s2.heap.get? b = some o := fun b o nt y => by
          cases z : H b with
          | none => exact unq.keep b o y z (by intro u; exact absurd (show b ∈ ([] : List Addr) from u) (by simp)) (by simp)
          | some u =>
            rcases only b with y2 | y2 | ⟨ob, xs, y2⟩
            · rw [z] at y2; cases y2
            · exact absurd y2 nt
            · have y3 := unq.frzs b ob _ y2
              obtain ⟨e1, _⟩ := hok b _ y2
              obtain ⟨e2, _⟩ := hok2 b _ y3
              rw [y] at e1
              cases e1
              exact e2
        have grown : ∀ t ∈ cs, ∃ more : Array Value, s2.heap.get? t.2.1 = some { cls := .none, data := .fields more } := fun t ht => by
          obtain ⟨more, q⟩ := unq.tbls t.2.1 #[] (tbl t ht)
          exact ⟨_, hok2 t.2.1 _ q⟩
        refine ⟨rfl, ⟨fun b o y => ?_, fun b o y => ?_⟩, osq, bareq⟩
        · by_cases t : isTb cs b
          · obtain ⟨u, hu, rfl⟩ := t
            obtain ⟨more, q⟩ := grown u hu
            rw [emp u hu] at y
            cases y
            exact .inr (.inl ⟨((cod u hu).tab (emp u hu)).isCodeTable, rfl, #[], more, rfl, by rw [Array.empty_append]; exact q⟩)
          · exact .inl (old b o t y)
        · by_cases t : isTb cs b
          · obtain ⟨u, hu, rfl⟩ := t
            obtain ⟨more, q⟩ := grown u hu
            exact ⟨_, q⟩
          · exact ⟨o, old b o t y⟩
  have tbI : ∀ t ∈ cs, isTb cs t.2.1 := fun t ht => ⟨t, ht, rfl⟩
  let T0 : Hp := fun b => if isTb cs b then some (.tbl #[]) else none
  cases inMod : K.lookup a with
  | some o =>
    have y := inK a o inMod
    rw [at_] at y
    cases y
    refine main T0 (fun t ht => if_pos (tbI t ht)) (fun b => ?_) (.inr ⟨_, vs.toArray, _, inMod, rfl, rfl, rfl, by rw [List.size_toArray, same]; exact few, by simpa using rel⟩) (fun b u z => ?_) (fun b z => ?_) fun z => absurd (if_neg na) z
    · by_cases t : isTb cs b
      · exact .inr (.inl t)
      · exact .inl (if_neg t)
    · by_cases t : isTb cs b
      · cases (if_pos t).symm.trans z; exact empB t
      · cases (if_neg t).symm.trans z
    · by_cases t : isTb cs b
      · exact .inr t
      · exact absurd (if_neg t) z
  | none =>
    let H1 : Hp := fun b => if b = a then some (.frz { cls := .type "list", data := .seq vs.toArray } (.lst (ns.map V.int))) else T0 b
    have off1 : ∀ {b : Addr}, b ≠ a → H1 b = T0 b := fun n => if_neg n
    have on1 : H1 a = some (.frz { cls := .type "list", data := .seq vs.toArray } (.lst (ns.map V.int))) := if_pos rfl
    refine main H1 (fun t ht => ?_) (fun b => ?_) (.inl (.inr ⟨_, on1⟩)) (fun b u z => ?_) (fun b z => ?_) fun _ => inMod
    · exact (off1 fun e => na (e ▸ tbI t ht)).trans (if_pos (tbI t ht))
    · by_cases e : b = a
      · subst e; exact .inr (.inr ⟨_, _, on1⟩)
      · by_cases t : isTb cs b
        · exact .inr (.inl t)
        · exact .inl ((off1 e).trans (if_neg t))
    · by_cases e : b = a
      · subst e
        rw [on1] at z
        cases z
        exact ⟨at_, by rw [List.length_map]; exact few, vs, _, rel, at_⟩
      · rw [off1 e] at z
        by_cases t : isTb cs b
        · cases (if_pos t).symm.trans z; exact empB t
        · cases (if_neg t).symm.trans z
    · by_cases e : b = a
      · exact .inl e
      · rw [off1 e] at z
        by_cases t : isTb cs b
        · exact .inr t
        · exact absurd (if_neg t) z
end
structure LawAt (l : PySem.W.OpenLaw) (w : World) (CX : CXT) (k n : Nat) (x : Str) (mg : Str → Option Value) (fa : Addr) (h : Heap) (K : Fr) (fd : FuncData) (cs : List Cd) (S : DSp) : Prop where
  emp : ∀ t ∈ cs, h.get? t.2.1 = some { cls := .none, data := .fields #[] }
  off : ∀ t ∈ cs, K.lookup t.2.1 = none
  cod : ∀ t ∈ cs, PySem.W.CodeHd h t.1 t.2.1
  bt : ∀ (s : Shared) (u : Value), BindsTo s fd ⟨[u], []⟩ [(x, u)]
  law : ∀ ns : List Int, ns.length ≤ n → S [.fr (.scr ns)] fun r _ => r = .dat (.bl true)
  F : ∀ base : Heap, K.In base → base.Ns mainGlobals mg → (∀ t ∈ cs, LamX.TabB base mg t.1 t.2.1) → FnG l.prog w K mg base CX k fa fd [x] (toSp K (tabsOf cs) 1 S)
theorem walk_ofY {l : PySem.W.OpenLaw} {n k : Nat} {q : Program} {loose : List Str} {XP : (Str → Option Value) → Heap → Prop} {YP : World → Heap → Prop} {d : DefRec} {CX : World → CXT} {x : Str}
    (most : l.most = some n) (fits : n ≤ sizeLine) (plainD : d.params.defaults = []) (room : Room k callerA)
    (F : ∀ (w : World) (mg : Str → Option Value) (fa : Addr) (h : Heap), YP w h → h.Ns mainGlobals mg → mg d.name = some (.ref fa) → ∃ (K : Fr) (fd : FuncData) (cs : List Cd) (S : DSp), K.In h ∧ LawAt l w (CX w) k n x mg fa h K fd cs S)
    (noX : ∀ (w : World) (H : Hp) (s : Shared) (e : Value) (s' : Shared), CX w [] H s (fun _ _ _ => False) e s' → False) :
    PySem.W.WalkO q loose XP YP l.row.toRowW d [] (fun f vs => PySem.call f vs) := by
  refine Att.attach_call most plainD fun w s0 s1 mg mb fa o pm cd doc a vs ns G Y ho hd hcd at_mg obj_ ints_ len_ bareG => ?_
  obtain ⟨K, fd, cs, S, inK, Z⟩ := F w mg fa _ Y G.T.g at_mg
  exact law_callY inK G.T.g G.T.b G.T.builtins G.T.nolimit bareG Z.emp Z.off Z.cod G.T.bmain obj_ ints_ (Nat.le_trans len_ fits) room Z.F Z.bt (Z.law ns len_) fun H e s2 => noX w H s1 e s2
theorem law_binds {K : Fr} {x qual : Str} {st : Stmt} {f : Addr} {fd : FuncData} {a : Str} (F : Fun K x qual st f fd)
    (h : ∀ (kV doc pm : Value) (an : Option Addr) (cdv ct : Value) (u : Value), bindArgs (PySem.W.fnOf x qual (defArgs st) (defBody st) (defScope st) .none kV doc pm an cdv ct) ⟨[u], []⟩ = pure [(a, u)]) (s : Shared) (v : Value) : BindsTo s fd ⟨[v], []⟩ [(a, v)] := by
  obtain ⟨oc, od, kV, doc, pm, an, cdv, ct, osl, rfl, lk, hcd⟩ := F.ex
  exact .of_eq (h kV doc pm an cdv ct v)
end TLH
namespace TLH
open PySem PySem.Spec PyProof.Rows L2 TL
theorem saysZ {fa : List He.Fa} {fn : List He5.DefA} {ts : List (Fr → Addr)} {ex : Fr → Bool} {h : Heap} {as : List Addr} (e : seenY fa fn ts ex h.get? (He.frT h.get? as) = dueY fn) : SaysY fa fn ts ex h (He.frT h.get? as) := by
  generalize hK : He.frT h.get? as = K at e
  have e1 := congrArg Prod.fst e
  have e2 := congrArg Prod.snd e
  obtain ⟨b1, b2⟩ := two e1
  obtain ⟨b3, b4⟩ := two b2
  obtain ⟨b5, b6⟩ := two b4
  have tb : ∀ t ∈ ts, PySem.W.codeHdIn K (codeAt K (t K)) (tabAt K (t K)) = true ∧ ∃ o, h.get? (tabAt K (t K)) = some o ∧ He.emptyTab o = true := fun t ht => by
    obtain ⟨z1, z2⟩ := two (List.all_eq_true.mp b6 t ht)
    refine ⟨z1, ?_⟩
    cases q : h.get? (tabAt K (t K)) with
    | none => rw [q] at z2; cases z2
    | some o => rw [q] at z2; exact ⟨o, rfl, z2⟩
  refine ⟨List.all_eq_true.mp b1, fun d hd => ?_, b5, fun t ht => (tb t ht).1, fun t ht => ?_, fun t ht => ?_⟩
  · obtain ⟨i, hi, rfl⟩ := List.mem_iff_getElem.mp hd
    have z : (fn.map fun d => He5.fnA K (d.at_ K))[i]? = (fn.map He5.DefA.val)[i]? := congrArg (fun l => l[i]?) e2
    rw [List.getElem?_map, List.getElem?_map, List.getElem?_eq_getElem hi] at z
    exact He5.DefA.funD (Option.some.inj z) (List.all_eq_true.mp b3 _ hd)
  · obtain ⟨_, o, q, z⟩ := tb t ht
    rw [← hK] at q ⊢
    exact He.frT_none q z
  · obtain ⟨_, o, q, z⟩ := tb t ht
    rw [q, He.emptyTab_eq z]
def hookZ (as : List Addr) (fa : List He.Fa) (fn : List He5.DefA) (ts : List (Fr → Addr)) (ex : Fr → Bool) : PySem.W.Hook where
  α := Bool × List He.FnW
  obs := fun s => seenY fa fn ts ex s.heap.get? (He.frT s.heap.get? as)
  val := fun _ => dueY fn
  says := fun _ h => ∃ K : Fr, K.In h ∧ SaysY fa fn ts ex h K
  of := fun _ _ e => ⟨_, He.frT_in, saysZ e⟩
  keeps := fun _ _ _ ⟨K, inK, c⟩ up => ⟨K, inK.keeps up, c.facts, c.defs, c.more, c.codes, c.apart, fun t ht => up _ _ (c.empty t ht)⟩
def seenZ (as : List Addr) (fa : List He.Fa) (fn : List He5.DefA) (ts : List (Fr → Addr)) (ex : Fr → Bool) (s : PySem.W.SharedT) : Bool × List He.FnW := seenY fa fn ts ex (HandSHeadRun.getT s) (He.frT (HandSHeadRun.getT s) as)
theorem seenZ_eq {as : List Addr} {fa : List He.Fa} {fn : List He5.DefA} {ts : List (Fr → Addr)} {ex : Fr → Bool} (s : PySem.W.SharedT) : seenZ as fa fn ts ex s = (hookZ as fa fn ts ex).obs s.abs := by
  have e : HandSHeadRun.getT s = s.abs.heap.get? := funext (HandSHeadRun.getT_eq s)
  unfold seenZ
  rw [e]
  rfl
end TLH
namespace L2
end L2
namespace TL
variable {np : Np}
open PySem PySem.Spec PyProof.Rows L2
def isMut : D → Bool
  | .lst _ => true
  | .dct _ => true
  | _ => false
theorem RdV.rpN {K : PySem.W.Frag} {G H : Hp} {v : V} {d : D} (rv : RdV K G H v d) (h : isMut d = false) : Rp K G v d := by
  rcases rv with r | ⟨_, _, _, _, rfl, _⟩ | ⟨_, _, _, _, rfl, _⟩
  · exact r
  · cases h
  · cases h
def valD (kvs : List (Key × D)) (k : Key) : Option D := (kvs.find? fun kv => decide (kv.1 = k)).map (·.2)
inductive OpR2 (K : PySem.W.Frag) (G : Hp) : Option V → Option D → Prop
  | none : OpR2 K G none none
  | some {v : V} {d : D} : Rp K G v d → OpR2 K G (some v) (some d)
section
variable {K : PySem.W.Frag} {G : Hp}
theorem RpK.val (k : Key) : ∀ {kvs : List (Key × V)} {ds : List (Key × D)}, RpK K G kvs ds → OpR2 K G (valV kvs k) (valD ds k)
  | _, _, .nil => .none
  | _, _, .cons (k := k') (v := v) (d := d) (kvs := kvs) (ds := ds) h r => by
    by_cases e : k' = k
    · rw [valV_pos e, show valD ((k', d) :: ds) k = some d from by simp [valD, List.find?_cons, e]]
      exact .some h
    · rw [valV_neg e, show valD ((k', d) :: ds) k = valD ds k from by simp [valD, List.find?_cons, e]]
      exact r.val k
theorem RpK.any (k : Key) : ∀ {kvs : List (Key × V)} {ds : List (Key × D)}, RpK K G kvs ds → (kvs.any fun kv => decide (kv.1 = k)) = ds.any fun kv => decide (kv.1 = k)
  | _, _, .nil => rfl
  | _, _, .cons h r => by rw [List.any_cons, List.any_cons, r.any k]
end
end TL
namespace L2
end L2
namespace TL
variable {np : Np}
open PySem PySem.Spec PyProof.Rows L2
theorem OpR2.getD {K : PySem.W.Frag} {G : Hp} {o : Option V} {o' : Option D} {v : V} {d : D} (z : OpR2 K G o o') (r : Rp K G v d) : Rp K G (o.getD v) (o'.getD d) := by
  cases z with
  | none => exact r
  | some z => exact z
end TL
namespace HT
end HT
namespace L2
end L2
namespace TL
end TL
namespace ZE
open PySem PySem.Spec PyProof.Rows
open Builtin.SmallTypes (ownedTupleIsFree ownedTupleHandOut nextOf)
def Si (b : Bool) (h : Heap) (a : Addr) (items : Array Value) : Prop := match b with
  | true => h.IsList a items
  | false => h.IsTuple a items
def Ii (b : Bool) (h : Heap) (i a : Addr) (k : Nat) : Prop := match b with
  | true => h.IsListIter i a k
  | false => h.IsTupleIter i a k
def Oi (b : Bool) (a : Addr) : Obj := match b with
  | true => { cls := .type "list_iterator", data := .fields #[.ref a, .int 0 0] }
  | false => { cls := .type "tuple_iterator", data := .fields #[.ref a, .int 0 0] }
theorem Si.ext {b : Bool} {h h' : Heap} {a : Addr} {items : Array Value} (x : Si b h a items) (k : ∀ o, h.get? a = some o → h'.get? a = some o) : Si b h' a items := by
  cases b
  · exact Heap.IsTuple.at (show h.IsTuple a items from x) k
  · exact Heap.IsList.at (show h.IsList a items from x) k
theorem Ii.ext {b : Bool} {h h' : Heap} {i a : Addr} {k : Nat} (x : Ii b h i a k) (e : ∀ o, h.get? i = some o → h'.get? i = some o) : Ii b h' i a k := by
  cases b
  · exact Heap.IsTupleIter.at (show h.IsTupleIter i a k from x) e
  · exact Heap.IsListIter.at (show h.IsListIter i a k from x) e
theorem Si.lt {b : Bool} {h : Heap} {a : Addr} {items : Array Value} (x : Si b h a items) : a < h.objs.size := by
  cases b
  · obtain ⟨o, ho, _⟩ := (show h.IsTuple a items from x)
    exact Heap.lt_size ho
  · obtain ⟨o, ho, _⟩ := (show h.IsList a items from x)
    exact Heap.lt_size ho
theorem Ii.first {b : Bool} {h : Heap} {i a : Addr} (e : h.get? i = some (Oi b a)) : Ii b h i a 0 := by
  cases b
  · exact ⟨_, e, rfl, rfl⟩
  · exact ⟨_, e, rfl, rfl⟩
end ZE
namespace ZE
end ZE
namespace L2
open PySem PySem.Spec PyProof.Rows ZE
def Sq (b : Bool) (K : PySem.W.Frag) (H : Hp) (a : Addr) (xs : List V) : Prop := match b with
  | true => SqL K H a xs
  | false => SqT K H a xs
section
variable {X : Cx} {pins : List (Addr × Obj)} {σ : St} {H : Hp} {s : Shared} {b : Bool} {a : Addr} {xs ys : List V}
theorem Sq.at_ (I : Inv X pins σ H s) (h : Sq b X.K H a xs) : ∃ its : List Value, Vals xs its ∧ Si b s.heap a its.toArray := by
  cases b
  · obtain ⟨its, rv, p, _⟩ := I.tuple h
    exact ⟨its, rv, p⟩
  · obtain ⟨its, rv, p, _⟩ := I.list h
    exact ⟨its, rv, p.isList⟩
theorem Sq.inj (I : Inv X pins σ H s) (h : Sq b X.K H a xs) (h' : Sq b X.K H a ys) : xs = ys := by
  cases b
  · exact I.tuple_inj h h'
  · exact I.list_inj h h'
end
end L2
namespace ZE
end ZE
namespace L2
end L2
namespace TL
end TL
namespace L2
end L2
namespace TL
end TL
namespace TL
open PySem PySem.Spec PyProof.Rows L2
section
variable {K : PySem.W.Frag} {B : Bs} {G : Hp} {ω : Own} {ρ : Env} {σ : Stt} {H : Hp}
theorem Fin.more {v : V} {r : Rs} (f : Fin K B G ρ σ H v r) {p : Addr} {o : HO} (hp : H p = none) : Fin K B G ρ σ (upd H p o) v r := by
  obtain ⟨ω, e, h⟩ := f
  have e' : EnvW K B G ω ρ σ (upd H p o) := e.grow (.refl _) (same_upd hp) (fun b u z => same_upd hp _ _ (e.gle _ _ z)) fun b u z => .inl z
  refine ⟨ω, e', ?_⟩
  cases r with
  | dat d => exact h
  | sl i => exact h
  | nw s =>
    refine ⟨h.1, h.2.mono (.refl _) fun a z => ⟨z, ?_⟩⟩
    have := (e.own a _ z).2.1
    exact upd_ne (fun w => this (by rw [w]; exact hp))
end
end TL
namespace TX
open PySem PySem.Spec PyProof.Rows L2
open TL (exv)
theorem exv_ok {P : Program} {w : World} {H : Hp} {h : Heap} {a : Addr} {cls : Value} {d : Option Addr} {oe : Obj} {vs : Array Value} (e : h.get? a = some oe) (z : Zc cls d oe) (hd : oe.data = .fields vs) : ObjOk P w H h a (exv a cls d) :=
  ⟨⟨oe, vs, e, z, hd⟩, ⟨oe, e⟩, fun _ _ ⟨o, v, q, r⟩ k => ⟨o, v, k o q, r⟩⟩
theorem exv_at {P : Program} {w : World} {H : Hp} {h : Heap} {a : Addr} {cls : Value} {d : Option Addr} (hok : HOk P w H h) (he : H a = some (exv a cls d)) : ∃ (oe : Obj) (vs : Array Value), h.get? a = some oe ∧ Zc cls d oe ∧ oe.data = .fields vs := by
  have x : ObjOk P w H h a (.ext fun h => ∃ (oe : Obj) (vs : Array Value), h.get? a = some oe ∧ Zc cls d oe ∧ oe.data = .fields vs) := hok a _ he
  exact x.1
end TX
namespace TXW
open PySem PySem.Spec PySem.Calls PyProof.Rows PySem.W
section
variable {prog : Program} {w : World} {A : Around} {E : Value → Shared → Prop} {s : Shared} {K : Frag} {x D : Addr} {ox : Obj}
theorem findObj_dataX {C : Addr} {od : Option Obj} {name : Str} {a g : Value} (cC : (clsIn K C).isSome = true) (aA : findIn K (.ref C) name = some (some a)) (gG : specialIn K a "__get__" = some (some g)) (tT : takesIn K a = some true) : findObj K C od name = some (.bind g a) := by
  obtain ⟨cd, cC⟩ := Option.isSome_iff_exists.mp cC
  unfold findObj
  rw [cC, Option.bind_some, aA, Option.bind_some]
  simp [gG, tT]
theorem kin_classX {od : Option Obj} {Q : Option Value → Shared → Prop} (gA : findIn K (.ref D) "__getattribute__" = some (some (.builtin "BaseException.__getattribute__"))) (gT : findIn K (.ref D) "__getattr__" = some none) (sB : subIn K (.ref D) (.type "BaseException") = some true)
    (dT : hasDictIn K D = true) (aA : findIn K (.ref D) "__class__" = some (some (.builtin "object.__class__")))
    (nG : specialIn K (.builtin "object.__class__") "__get__" = some (some (.builtin "getset_descriptor.__get__"))) (tK : takesIn K (.builtin "object.__class__") = some true) (mO : mroIn K D (.type "object") = some true)
    (X : K.In s.heap) (I : InstAt s.heap x ox D od) (h : Q (some (.ref D)) { s with toks := s.toks + 1 }) : wpAny (model prog w) A (getAttr? (.ref x) "__class__") Q E s := by
  have fO : findObj K D od "__class__" = some (.bind (.builtin "getset_descriptor.__get__") (.builtin "object.__class__")) := findObj_dataX (by obtain ⟨cd, cC, _⟩ := any_some dT; rw [cC]; rfl) aA nG tK
  obtain ⟨hp, g, d, t, os⟩ := s
  have K0 := I.type (M := model prog w)
  have K1 := looks_findIn (M := model prog w) X gA
  have K2 := looks_findIn (M := model prog w) X gT
  have K3 := looks_find (M := model prog w) X I fO
  have sbT : Looks (model prog w) hp (isInstance (.ref x) (.type "BaseException")) true := K0.andThen (looks_subIn X sB)
  have x0 : (false && onTheHeap (Value.builtin "BaseException.__getattribute__")) = false := rfl
  have x2 : (Value.builtin "BaseException.__getattribute__" == Value.builtin "object.__getattribute__") = false := by decide +kernel
  have x1 : (onTheHeap (Value.ref D) && Value.builtin "BaseException.__getattribute__" == Value.builtin "object.__getattribute__") = false := by rw [x2]; rfl
  unfold getAttr? getAttrBy? getAttrBy
  refine wpAny_bind (wpAny_mkText (wpAny_bind (wpAny_attempt (wpAny_holding (wpAny_bind (K0.at (wpAny_bind (K1.at ?_))))))))
  show wpAny _ _ (if (onTheHeap (Value.ref D) && Value.builtin "BaseException.__getattribute__" == Value.builtin "object.__getattribute__") = true then _ else _) _ _ _
  rw [x1, if_neg Bool.false_ne_true]
  unfold getAttrByItsOwn hookBefore
  refine wpAny_bind ?_
  rw [if_pos (show onTheHeap (Value.ref D) = true from rfl)]
  refine K2.at ?_
  refine wpAny_bind (wpAny_attempt (wpAny_holding ?_))
  unfold callGetattribute
  rw [x0, if_neg Bool.false_ne_true]
  unfold boundAndCalled
  rw [PySem.F.excAttr_ValueError.ga.bind (.ref x)]
  refine wpAny_bind (wpAny_pure ?_)
  show wpAny _ _ (call (.builtin "BaseException.__getattribute__") [.ref x, .str "__class__" t]) _ _ _
  refine wpAny_call (codeAny_call_builtin PySem.F.excAttr_ValueError.ga.plain PySem.F.entry_bexc_ga ?_)
  refine @check_slot (model prog w) _ _ ⟨hp, g, d, t + 1, os⟩ "BaseException.__getattribute__" "BaseException" "__getattribute__" (.ref x) [.str "__class__" t] [] _ (by decide +kernel) (by decide +kernel) sbT (PySem.F.args_bexc_ga (.ref x) (.str "__class__" t)) ?_
  unfold Builtin.«object.__getattribute__»
  refine wpAny_bind (wpAny_of_eq (a := ((Value.ref x : Value), [Value.str "__class__" t])) (by first | rfl | (simp only [slotArgs]; rfl)) ?_)
  refine wpAny_bind (wpAny_pure (wpAny_bind (K0.at (wpAny_bind (K3.at ?_)))))
  show wpAny _ _ (holding [Value.builtin "object.__class__"] (call (.builtin "getset_descriptor.__get__") [.builtin "object.__class__", .ref x, .ref D]) >>= ret) _ _ _
  refine wpAny_bind (wpAny_holding (wpAny_call (class_get (s := ⟨hp, g, d, t + 1, os⟩) (ox := ox) (od := od) X I mO ?_)))
  refine wpAny_pure ?_
  show wpAny _ _ (handedOut (.ref D)) _ _ _
  rw [handedOut_of (v := .ref D) rfl]
  first
    | exact wpAny_pure (wpAny_pure h)
    | exact wpAny_pure h
    | exact wpAny_pure (wpAny_bind (wpAny_pure (wpAny_pure h)))
theorem kitx_excX {od : Option Obj} (gA : findIn K (.ref D) "__getattribute__" = some (some (.builtin "BaseException.__getattribute__"))) (gT : findIn K (.ref D) "__getattr__" = some none) (sB : subIn K (.ref D) (.type "BaseException") = some true) (dT : hasDictIn K D = true) (aA : findIn K (.ref D) "__class__" = some (some (.builtin "object.__class__")))
    (nG : specialIn K (.builtin "object.__class__") "__get__" = some (some (.builtin "getset_descriptor.__get__"))) (tK : takesIn K (.builtin "object.__class__") = some true) (mO : mroIn K D (.type "object") = some true) :
    KitX K (.ref x) (.ref D) (fun h => InstAt h x ox D od) where
  ty := fun _ _ _ I => I.type
  it := fun _ _ X _ => by
    obtain ⟨cdE, cE, _⟩ := any_some dT
    unfold clsIn at cE
    split at cE
    · rename_i c' d' cd' sl' ho
      intro A' Q' E' s' k q
      unfold isType loadHead
      exact wpAny_bind (wpAny_loadPart (k _ _ (X _ _ ho)) (wpAny_pure q))
    · cases cE
  ne := fun h tp dd its n sl X pT => by
    obtain ⟨cdE, cE, _⟩ := any_some dT
    refine Bool.eq_false_iff.mpr fun q => ?_
    have e : D = tp := Value.ref.inj (beq_iff_eq.mp q)
    subst e
    unfold clsIn at cE
    split at cE
    · rename_i c' d' cd' sl' ho
      have z := (X _ _ ho).symm.trans pT
      cases z
    · cases cE
  ca := fun X I k => kin_classX gA gT sB dT aA nG tK mO X I k
end
end TXW
namespace TX
open PySem PySem.Spec PyProof.Rows L2
open TL (exv)
def DOk (H : Hp) (d : Option Addr) : Prop := ∀ dd, d = some dd → ∃ fs, H dd = some (.xd fs)
theorem inst_at {P : Program} {w : World} {H : Hp} {h : Heap} {a D : Addr} {d : Option Addr} (hok : HOk P w H h) (e : H a = some (exv a (.ref D) d)) (hd : DOk H d) : ∃ oe od, PySem.W.InstAt h a oe D od := by
  obtain ⟨oe, vs, g, z, f⟩ := exv_at hok e
  cases d with
  | none =>
    refine ⟨oe, none, g, z.1, ?_, ?_⟩
    · unfold PySem.W.notCls
      rw [f]
    · rw [z.2]
      trivial
  | some dd =>
    obtain ⟨fs, e2⟩ := hd dd rfl
    have hx : ObjOk P w H h dd (.xd fs) := hok dd _ e2
    obtain ⟨mA, hns, hr⟩ := hx
    obtain ⟨od, ho, hl⟩ := lookIn_ns hns
    refine ⟨oe, some od, g, z.1, ?_, ?_⟩
    · unfold PySem.W.notCls
      rw [f]
    · rw [z.2]
      exact ho
def rIsX (K : PySem.W.Frag) : List V → Hp → VK → Prop := fun xs H Q => ∃ (a D : Addr) (d : Option Addr) (c : V) (cv : Value) (b : Bool), xs = [.ref a, c] ∧ H a = some (exv a (.ref D) d) ∧ DOk H d ∧ ExcC K D ∧ (∀ u, RelV c u → u = cv) ∧ PySem.W.kitOne K (.ref D) cv = some b ∧ Q (.bl b) H
theorem call_isX {X : Cx} : CallR X (.builtin "isinstance") (rIsX X.K) := by
  intro pins s σ H xs us Q I r h
  obtain ⟨a, D, d, c, cv, b, rfl, ea, hd, C, hcv, e, q⟩ := h
  cases r with
  | cons rx rr =>
    cases rr with
    | cons rt rr =>
      cases rr
      cases rx
      have ec := hcv _ rt
      subst ec
      obtain ⟨oe, od, J⟩ := inst_at I.hok ea hd
      exact PySem.W.kia_one (TXW.kitx_excX C.hg C.hk C.hs C.hd C.ha C.hn C.ht C.hm) I.kIn J e (fun z => nomatch z) fun tk => ⟨.bl b, H, I.kept (t' := tk) fun _ _ z => z, rfl, q⟩
def tXg (K : PySem.W.Frag) (f : Str) (te : TE) : TE := fun σ H Q => te σ H fun x H1 => ∃ (a C dd : Addr) (fs : List (Str × V)) (v : V), x = .ref a ∧ H1 a = some (exv a (.ref C) (some dd)) ∧ H1 dd = some (.xd fs) ∧ XfC K C ∧ PySem.W.findIn K (.ref C) f = some none ∧ fs.lookup f = some v ∧ Q v H1
theorem pe_xg {X : Cx} {e : Expr} {te : TE} {pos : Pos} {n : Str} (he : PE X e te) (hb : attributeBase e n X.env (eval e X.env) = eval e X.env := by rfl) : PE X (.Attribute e n pos) (tXg X.K n te) := by
  refine ⟨fun pins s σ H Q I h => ?_⟩
  refine attr_of hb (thn (he.run pins s σ H _ I h) fun u s1 hh => ?_)
  obtain ⟨x, H1, I1, rx, a, C, dd, fs, v, ex, ea, ed, T, hno, l, q⟩ := hh
  subst ex
  obtain rfl : u = Value.ref a := rx
  obtain ⟨oe, vs, g, z, f⟩ := exv_at I1.hok ea
  have hx : ObjOk X.prog X.w H1 s1.heap dd (.xd fs) := I1.hok dd _ ed
  obtain ⟨mA, hns, hr⟩ := hx
  obtain ⟨od, ho, hl⟩ := lookIn_ns hns
  obtain ⟨y, hu, ru⟩ := RelO.some_of (v := v) (o := mA n) (by rw [← l]; exact hr n)
  have J : PySem.W.InstAt s1.heap a oe C (some od) := ⟨g, z.1, by unfold PySem.W.notCls; rw [f] <;> rfl, by rw [z.2]; exact ho⟩
  exact HandSPX.exc_get I1.kIn J T.ga T.gg T.exC (PySem.W.findObj_own T.hdC hno rfl (by rw [hl, hu])) (handed_of ru) ⟨v, H1, I1.tok _, ru, q⟩
end TX
namespace TX
open PySem PySem.Spec PyProof.Rows L2
structure BaseC (K : PySem.W.Frag) (B : Addr) : Prop where
  rd : PySem.W.readsIn K B (.type "type") = true
  fc : PySem.W.findCls K (.ref B) (.type "type") "__init__" = some (.val (.builtin "ValueError.__init__"))
  sp : PySem.W.specialIn K (.ref B) "__getattribute__" = some (some (.builtin "type.__getattribute__"))
section
variable {X : Cx} {e : Expr} {es : List Expr} {ta : TA} {p1 p2 pos : Pos} {x : Str} {B : Addr}
theorem pe_binit {pl : Sem Bool} (hg : Gl X x) (hm : X.mg x = some (.ref B)) (hB : BaseC X.K B) (ha : PA X (e :: es) ta) (hdb : (x == ("__debug__" : Str)) = false := by decide)
    (hc : eval (.Call (.Attribute (.Name x p1) "__init__" p2) (e :: es) [] pos) X.env = (do
      let ov ← eval (.Name x p1) X.env
      standAt p2.atName
      let (f, first) ← holding [ov] (getMethod ov "__init__" pl)
      callWith pos f first (backTo pos (starEach (e :: es) X.env)) (backToKw pos (keywordEach [] X.env))) := by rfl)
    (hs : starEach (e :: es) X.env = (false, eval e X.env) :: starEach es X.env := by rfl) (hpl : (backTo pos (starEach es X.env)).any (·.1) = false := by rfl) :
    PE X (.Call (.Attribute (.Name x p1) "__init__" p2) (e :: es) [] pos) (tVeI X.K ta) := by
  refine ⟨fun pins s σ H Q I h => ?_⟩
  refine PySem.W.methodCall_KW (ld_glob I hg hm ?_ hdb) hc
  refine PySem.W.method_cls I.kIn hB.sp (PySem.W.cls_value I.kIn hB.rd hB.fc (by decide +kernel) ?_)
  show wpAny _ _ (callWith pos (Value.builtin "ValueError.__init__") [] (backTo pos (starEach (e :: es) X.env)) []) _ _ _
  refine PyProof.Rows.callWith_method1 (thn (ha.run pos pins _ σ H _ (I.tok _) h) fun us s1 hh => ?_) hs hpl
  obtain ⟨vs, H1, I1, r1, a, C, ws, ev, hl, T, ea, q⟩ := hh
  subst ev
  cases r1 with
  | @cons _ u0 _ ur ra rw' =>
    obtain rfl : u0 = Value.ref a := ra
    have hlen : ur.length ≤ sizeLine := by
      rw [← Paired.length rw', sizeLine_eq]
      omega
    exact oinit_ok T I1 ea hlen fun s' J => ⟨.non, H1, J, rfl, q⟩
end
end TX
namespace TX
open PySem PySem.Spec PyProof.Rows L2
def spInit (C : Addr) (f : Str) : Sp := fun vs H Q _ => ∃ (a : Addr) (v : V), vs = [.ref a, v] ∧ H a = some (exo a C none) ∧ ∀ dx, H dx = none → dx ≠ a → Q .non (upd (upd H dx (exd dx [(f, v)])) a (exo a C (some dx)))
def tInit (K : PySem.W.Frag) (f m : Str) : TS := tSeq (tDrop (tVeI K (tCons (tVar 0) (tCons (tC (.str m)) tNil)))) (tOst K f (tVar 0) (tVar 1))
section
variable {P : Program} {w : World} {K : PySem.W.Frag} {mg : Str → Option Value} {base : Heap}
theorem ok_init {qual f p m : Str} {st : Stmt} {fI C : Addr} {fd : FuncData} (F : Fun K "__init__" qual st fI fd) (S : FnScope ["self", p] ["self", p] (defScope st)) (T : OexC K C) (hno : PySem.W.findIn K (.ref C) f = some none)
    (hb : ∀ (cdv : Value) (A : Around) (outer : List PySem.Env) (s : Shared) (H : Hp) (E : XK), PSs (cxOf CX0 P w K mg base ["self", p] qual (defScope st) fI cdv A outer s H E).nox (defBody st) (tInit K f m)) : FnOk P w K mg base CX0 1 fI fd ["self", p] (spInit C f) := by
  refine F.ok (k := 0) (N := ["self", p]) S (fun vs H Q E h => ?_) fun cdv A outer s H vs Q E hr h => ?_
  · obtain ⟨a, v, rfl, _⟩ := h
    rfl
  · obtain ⟨a, v, rfl, ha, k⟩ := h
    refine ⟨_, hb cdv A outer s H E, ?_⟩
    refine ⟨_, rfl, ?_⟩
    refine ⟨a, C, [.str m], rfl, (by show 1 ≤ 1000; omega), T, ha, ?_⟩
    refine ⟨_, rfl, _, rfl, a, C, rfl, T, hno, .inl ⟨ha, fun dx h1 h2 => k dx h1 h2⟩⟩
end
end TX
namespace TL
open PySem PySem.Spec PyProof.Rows L2
abbrev DSpX := List Sl → (Rs → List Sl → Prop) → (Addr → List (Str × D) → List Sl → Prop) → Prop
abbrev XCont := Addr → List (Str × D) → Env → Prop
def toSpX (K : PySem.W.Frag) (T : List (Addr × Str)) (n : Nat) (S : DSpX) : Sp := fun vs H Q E => ∃ G ω args Qd Xd, vs.length = n ∧ EnvW K (baseOf T G H ω vs) G ω args (vs.map some) H ∧ S args Qd Xd ∧
  (∀ G' ω' v r args' H', Same G G' → EnvW K (baseOf T G H ω vs) G' ω' args' (vs.map some) H' → RsOk K G' H' ω' (vs.map some) v r → (∀ j, r ≠ .sl j) → Qd r args' → Q v H') ∧
  (∀ G' ω' args' H' C d fs, Same G G' → EnvW K (baseOf T G H ω vs) G' ω' args' (vs.map some) H' → RpX K G' d fs → Xd C fs args' → E (.ref C) d H')
section
variable {P : Program} {w : World} {K : PySem.W.Frag} {mg : Str → Option Value} {base : Heap} {T : List (Addr × Str)}
def calmS (S : DSpX) : DSp := fun args Q => S args Q fun _ _ _ => False
theorem FnOk.calm {f : Addr} {fd : FuncData} {ps : List Str} {k n : Nat} {S : DSpX} (F : FnOk P w K mg base (L2.CX P w) k f fd ps (toSpX K T n S)) : FnOk P w K mg base (L2.CX P w) k f fd ps (toSp K T n (calmS S)) :=
  F.imp fun vs H Q E ⟨G, ω, args, Qd, h1, h2, h3, h4⟩ => ⟨G, ω, args, Qd, fun _ _ _ => False, h1, h2, h3, h4, fun _ _ _ _ _ _ _ _ _ _ z => z.elim⟩
end
end TL
namespace TL
end TL
namespace TX
end TX
namespace TX
end TX
namespace TX
end TX
namespace TX
end TX
namespace TX
end TX
namespace TX
end TX
namespace TL
open PySem PySem.Spec PyProof.Rows L2
abbrev RSp := Sl → (D → Prop) → Prop
end TL
namespace TL
end TL
namespace TL
open PySem PySem.Spec PyProof.Rows L2
section
variable {X : Cx} {np : Np} {i : Nat} {x cn f : Str} {C0 : Addr} {p p1 p2 pos : Pos} {J : Addr → Bool → Prop} {T : Addr → Prop}
theorem call_isXi : CallR X (.builtin "isinstance") (fun xs H Q => TX.rIsX X.K xs H Q ∨ rIsi X.K xs H Q) := fun pins s σ H xs us Q I r h => h.elim (fun h => TX.call_isX pins s σ H xs us Q I r h) fun h => call_isi pins s σ H xs us Q I r h
end
end TL
namespace TX
open PySem PySem.Spec PyProof.Rows L2
theorem band {a b : Bool} (h : (a && b) = true) : a = true ∧ b = true := Bool.and_eq_true_iff.mp h
def oexC (K : PySem.W.Frag) (C : Addr) : Bool := match K.lookup C with
  | some ⟨.type "type", _, .cls cd, sl⟩ => (match cd.mro, sl.toList with
    | .ref C' :: bm, [_, _, _, _, some (.builtin n), _] => C' == C && (n == "ValueError.__new__" && (!cd.hasDel && (cd.hasDict && HandSPX.refsVE bm)))
    | _, _ => false)
  | _ => false
def oexB (K : PySem.W.Frag) (C : Addr) : Bool := oexC K C && (decide (PySem.W.findIn K (.ref C) "__setattr__" = some (some (.builtin "object.__setattr__"))) && (decide (PySem.W.subIn K (.ref C) (.type "BaseException") = some true) && (decide (PySem.W.typeIn K (.ref C) = some (.type "type")) && PySem.W.keepIn K (.ref C))))
theorem oex_of {K : PySem.W.Frag} {C : Addr} (h : oexB K C = true) : OexC K C := by
  obtain ⟨h1, h⟩ := band h
  obtain ⟨h2, h⟩ := band h
  obtain ⟨h3, h⟩ := band h
  obtain ⟨h4, h5⟩ := band h
  refine ⟨?_, of_decide_eq_true h2, of_decide_eq_true h3, of_decide_eq_true h4, h5⟩
  unfold oexC at h1
  split at h1
  · rename_i dd cd sl found
    split at h1
    · rename_i C' bm k0 k1 k2 k3 n k5 em es
      obtain ⟨a1, h1⟩ := band h1
      obtain ⟨a2, h1⟩ := band h1
      obtain ⟨a3, h1⟩ := band h1
      obtain ⟨a4, a5⟩ := band h1
      have a1 := beq_iff_eq.mp a1
      have a2 := beq_iff_eq.mp a2
      subst a1 a2
      obtain ⟨nm, bs, mro, ns, qn, hd, sn, sub, ab, col, del⟩ := cd
      dsimp only at em a3 a4
      have a3 : del = false := by simpa using a3
      subst em a3 a4
      have hsl : sl = #[k0, k1, k2, k3, some (.builtin "ValueError.__new__"), k5] := by
        obtain ⟨l⟩ := sl
        simp only at es
        rw [es]
      subst hsl
      exact ⟨nm, qn, ns, bs, bm, sn, sub, ab, col, dd, k0, k1, k2, k3, k5, found, a5⟩
    · cases h1
  · cases h1
def excB (K : PySem.W.Frag) (D : Addr) : Bool := decide (PySem.W.findIn K (.ref D) "__getattribute__" = some (some (.builtin "BaseException.__getattribute__"))) && (decide (PySem.W.findIn K (.ref D) "__getattr__" = some none) && (decide (PySem.W.subIn K (.ref D) (.type "BaseException") = some true) && (PySem.W.hasDictIn K D &&
  (decide (PySem.W.findIn K (.ref D) "__class__" = some (some (.builtin "object.__class__"))) && (decide (PySem.W.specialIn K (.builtin "object.__class__") "__get__" = some (some (.builtin "getset_descriptor.__get__"))) && (decide (PySem.W.takesIn K (.builtin "object.__class__") = some true) && decide (PySem.W.mroIn K D (.type "object") = some true)))))))
theorem exc_of {K : PySem.W.Frag} {D : Addr} (h : excB K D = true) : ExcC K D := by
  obtain ⟨h1, h⟩ := band h
  obtain ⟨h2, h⟩ := band h
  obtain ⟨h3, h⟩ := band h
  obtain ⟨h4, h⟩ := band h
  obtain ⟨h5, h⟩ := band h
  obtain ⟨h6, h⟩ := band h
  obtain ⟨h7, h8⟩ := band h
  exact ⟨of_decide_eq_true h1, of_decide_eq_true h2, of_decide_eq_true h3, h4, of_decide_eq_true h5, of_decide_eq_true h6, of_decide_eq_true h7, of_decide_eq_true h8⟩
def valIs : Option PySem.W.CFound → Value → Bool
  | some (.val v), u => decide (v = u)
  | _, _ => false
theorem valIs_ok {o : Option PySem.W.CFound} {u : Value} (h : valIs o u = true) : o = some (.val u) := by
  unfold valIs at h
  split at h
  · rw [of_decide_eq_true h]
  · cases h
def baseB (K : PySem.W.Frag) (B : Addr) : Bool := PySem.W.readsIn K B (.type "type") && (valIs (PySem.W.findCls K (.ref B) (.type "type") "__init__") (.builtin "ValueError.__init__") && decide (PySem.W.specialIn K (.ref B) "__getattribute__" = some (some (.builtin "type.__getattribute__"))))
theorem base_of {K : PySem.W.Frag} {B : Addr} (h : baseB K B = true) : BaseC K B := by
  obtain ⟨h1, h⟩ := band h
  obtain ⟨h2, h3⟩ := band h
  exact ⟨h1, valIs_ok h2, of_decide_eq_true h3⟩
def kitB (K : PySem.W.Frag) (t c : Value) (b : Bool) : Bool := decide (PySem.W.kitOne K t c = some b)
theorem kit_of {K : PySem.W.Frag} {t c : Value} {b : Bool} (h : kitB K t c b = true) : PySem.W.kitOne K t c = some b := of_decide_eq_true h
def iniB (K : PySem.W.Frag) (C f : Addr) : Bool := decide (PySem.W.findIn K (.ref C) "__init__" = some (some (.ref f))) && decide (PySem.W.typeIn K (.ref f) = some (.type "function"))
theorem ini_of {K : PySem.W.Frag} {C f : Addr} (h : iniB K C f = true) : PySem.W.findIn K (.ref C) "__init__" = some (some (.ref f)) ∧ PySem.W.typeIn K (.ref f) = some (.type "function") := by
  obtain ⟨h1, h2⟩ := band h
  exact ⟨of_decide_eq_true h1, of_decide_eq_true h2⟩
def noB (K : PySem.W.Frag) (C : Addr) (f : Str) : Bool := decide (PySem.W.findIn K (.ref C) f = some none)
theorem no_of {K : PySem.W.Frag} {C : Addr} {f : Str} (h : noB K C f = true) : PySem.W.findIn K (.ref C) f = some none := of_decide_eq_true h
end TX
namespace TL
end TL
namespace TL
end TL
namespace TL
end TL
namespace TX
end TX
namespace TL
end TL
namespace TL
end TL
namespace TL
end TL
namespace TL
end TL
namespace TL
open PySem PySem.Spec PyProof.Rows L2
section
variable {K : PySem.W.Frag} {B : Bs} {G : Hp} {ω : Own} {ρ : Env} {σ : Stt} {H : Hp} {F : Addr → Prop} {v : V} {i : Nat}
theorem Fo.ok.wr {x : Fo} {a p : Addr} {o : HO} (h : x.ok K G H F a) (ha : a ≠ p) (hp : ∀ b, H p ≠ some (.own b)) : x.ok K G (upd H p o) F a := by
  cases x with
  | ls ds => obtain ⟨vs, h1, r⟩ := h; exact ⟨vs, (upd_ne ha).trans h1, r⟩
  | dc ds => obtain ⟨vs, h1, r⟩ := h; exact ⟨vs, (upd_ne ha).trans h1, r⟩
  | ins C fs =>
    obtain ⟨dx, vs, f, h1, h2, r⟩ := h
    exact ⟨dx, vs, f, (upd_ne ha).trans h1, (upd_ne fun z => by subst z; exact hp _ h2).trans h2, r⟩
  | tp ds => obtain ⟨vs, h1, r⟩ := h; exact ⟨vs, (upd_ne ha).trans h1, r⟩
  | ext x => obtain ⟨o, h1, q, n⟩ := h; exact ⟨o, (upd_ne ha).trans h1, q, n⟩
end
end TL
namespace TL
end TL
namespace TL
open PySem PySem.Spec PyProof.Rows L2
mutual
def nlD : D → Bool
  | .lst _ => false
  | .dct _ => false
  | .scr _ => false
  | .tup ds => nlDs ds
  | .obj _ fs => nlFs fs
  | .exc _ fs => nlFs fs
  | _ => true
def nlDs : List D → Bool
  | [] => true
  | d :: ds => nlD d && nlDs ds
def nlFs : List (Str × D) → Bool
  | [] => true
  | d :: ds => nlD d.2 && nlFs ds
end
section
variable {K : PySem.W.Frag} {G G' : Hp}
mutual
theorem Rp.thaw (s : ∀ a o, G a = some o → (∀ vs, o ≠ .lst vs) → G' a = some o) : ∀ {v : V} {d : D}, Rp K G v d → nlD d = true → Rp K G' v d
  | _, _, .non, _ => .non
  | _, _, .bl b, _ => .bl b
  | _, _, .int i, _ => .int i
  | _, _, .str x, _ => .str x
  | _, _, .tup h r, n => .tup (by
      rcases h with (h | ⟨o, h⟩) | h
      · exact .inl (.inl (s _ _ h fun _ z => by cases z))
      · exact .inl (.inr ⟨o, s _ _ h fun _ z => by cases z⟩)
      · exact .inr h) (RpL.thaw s r n)
  | _, _, .lst h r, n => by cases n
  | _, _, .dct h r, n => by cases n
  | _, _, .obj h h' r, n => .obj (s _ _ h fun _ z => by cases z) (s _ _ h' fun _ z => by cases z) (RpF.thaw s r n)
  | _, _, .ref a, _ => .ref a
  | _, _, .ty n, _ => .ty n
  | _, _, .scr h, n => by cases n
  | _, _, .exc0 h, _ => .exc0 (s _ _ h fun _ z => by cases z)
  | _, _, .exc1 h h' r, n => .exc1 (s _ _ h fun _ z => by cases z) (s _ _ h' fun _ z => by cases z) (RpF.thaw s r n)
theorem RpL.thaw (s : ∀ a o, G a = some o → (∀ vs, o ≠ .lst vs) → G' a = some o) : ∀ {vs : List V} {ds : List D}, RpL K G vs ds → nlDs ds = true → RpL K G' vs ds
  | _, _, .nil, _ => .nil
  | _, _, .cons h r, n => .cons (Rp.thaw s h (Bool.and_eq_true_iff.mp n).1) (RpL.thaw s r (Bool.and_eq_true_iff.mp n).2)
theorem RpF.thaw (s : ∀ a o, G a = some o → (∀ vs, o ≠ .lst vs) → G' a = some o) : ∀ {vs : List (Str × V)} {ds : List (Str × D)}, RpF K G vs ds → nlFs ds = true → RpF K G' vs ds
  | _, _, .nil, _ => .nil
  | _, _, .cons h r, n => .cons (Rp.thaw s h (Bool.and_eq_true_iff.mp n).1) (RpF.thaw s r (Bool.and_eq_true_iff.mp n).2)
end
end
theorem TabG.sub {G G' H : Hp} {P : Addr} {q : Str} (t : TabG G H P q) (h : ∀ c, G c = some (LamX.CodeO c q) → G' c = some (LamX.CodeO c q)) : TabG G' H P q := by
  obtain ⟨ps, h1, h2, h3⟩ := t
  exact ⟨ps, h1, h2, fun pos cv hc => let ⟨c, e1, e2⟩ := h3 pos cv hc; ⟨c, e1, h c e2⟩⟩
end TL
namespace TL
end TL
namespace TE
open PySem PySem.Spec PyProof.Rows PySem.HandSPX
open Builtin Builtin.ObjectAttr
section
variable {M : Model} {A : Around} {E : Value → Shared → Prop} {h : Heap} {g : Array GenState} {d : Drawn} {t : Nat} {os : OsState}
variable {nm q : Str} {C N : Addr} {bs bm bmB : List Value} {hdct : Bool} {sn : List Str} {sub : List Value} {ab : Bool} {col : Option Bool} {dd : Option Addr} {k0 k1 k2 k3 k5 : Option Value} {B newId initId : String}
theorem check_new_kw (F : ExcBaseFacts B newId initId bmB) (hT : ∀ X : String, bm.contains (.type X) = bmB.contains (.type X)) {p : Str} {u : Value} {Q : Unit → Shared → Prop}
    (hC : h.get? C = some (excClassObj nm q C N bs bm hdct sn sub ab col dd k0 k1 k2 k3 k5 newId)) (hq : Q () ⟨h, g, d, t, os⟩) : wpAny M A (checkBuiltinCall newId ⟨[.ref C], [(p, u)]⟩) Q E ⟨h, g, d, t, os⟩ := by
  have hcont : (Value.ref C :: bm).contains (.type B) = true := by rw [List.contains_cons, hT, F.hasB, Bool.or_true]
  have hstar := F.noStar
  simp only [checkBuiltinCall, F.newKind, F.newSplit, F.newRow]
  repeat (first | refine wpAny_loadPart_at hC ?_ | (refine wpAny_isSubtype_exc hC ?_; rw [hcont]) | refine wpAny_staticBase_exc hC ?_ | refine wpAny_madeBy_exc hC ?_ | simp only [bne_self_eq_false, Bool.false_eq_true, if_false] | wp_step)
  exact hq
end
section
variable {prog : Program} {w : World} {A : Around} {E : Value → Shared → Prop} {R : Result → Shared → Prop} {h : Heap} {g : Array GenState} {d : Drawn} {t : Nat} {os : OsState}
variable {nm q : Str} {C N : Addr} {bs bm bmB : List Value} {hdct : Bool} {sn : List Str} {sub : List Value} {ab : Bool} {col : Option Bool} {dd : Option Addr} {k0 k1 k2 k3 k5 : Option Value} {B newId initId : String}
theorem new_kw (F : ExcBaseFacts B newId initId bmB) (hT : ∀ X : String, bm.contains (.type X) = bmB.contains (.type X)) {p : Str} {u : Value}
    (hC : h.get? C = some (excClassObj nm q C N bs bm hdct sn sub ab col dd k0 k1 k2 k3 k5 newId))
    (hq : R (.ok (.ret (.ref (h.objs.size + 1)))) ⟨(h.push { cls := .type "tuple", data := .seq #[] }).push
      { cls := .ref C, data := .fields #[.ref h.objs.size, .none, .none, .none, .bool false, .none] }, g, d, t, os⟩) :
    codeAny (model prog w) A (.builtin newId ⟨[.ref C], [(p, u)]⟩) R ⟨h, g, d, t, os⟩ := by
  have hends := F.ends
  have hcB : (Value.ref C :: bm).contains (.type B) = true := by rw [List.contains_cons, hT, F.hasB, Bool.or_true]
  have hcA : (Value.ref C :: bm).contains (.type "AttributeError") = false := by rw [List.contains_cons, hT, F.noAttr]; rfl
  have hcN : (Value.ref C :: bm).contains (.type "NameError") = false := by rw [List.contains_cons, hT, F.noName]; rfl
  have hrest : ([] : List Value).length ≤ sizeLine := Nat.zero_le _
  refine codeAny_builtinAt F.entry ?_
  unfold Builtin.«BaseException.__new__»
  refine PySem.wpAt_bind ?_
  show PySem.wpAt _ _ _ (stack >>= _) _ _ _
  refine PySem.wpAt_bind (PySem.wpAt_stack fun p below => PySem.wpAt_of_wpAny ?_)
  wp_walk
  refine PySem.wpAt_of_wpAny ?_
  rw [F.owner]
  repeat (first | with_reducible refine wpAny_madeHere_exc F.canon hC ?_ | with_reducible refine wpAny_loadPart_at hC ?_ | (with_reducible refine wpAny_isSubtype_exc hC ?_; first | rw [hcB] | rw [hcA] | rw [hcN]) | wp_step)
  show R _ _
  rw [Heap.size_push]
  exact hq
theorem type_call_kw (F : ExcBaseFacts B newId initId bmB) (hT : ∀ X : String, bm.contains (.type X) = bmB.contains (.type X)) {p : Str} {u : Value} {fI : Addr} {Q : PySem.Fin → Shared → Prop}
    (hC : h.get? C = some (excClassObj nm q C N bs bm hdct sn sub ab col dd k0 k1 k2 k3 k5 newId))
    (hi : W.Looks (model prog w) h (typeLookup (.ref C) "__init__") (some (.ref fI))) (hb : ∀ self, W.Looks (model prog w) h (bindSpecial (.ref fI) self) (.ref fI, [self]))
    (hq : codeAny (model prog w) A (.call (.ref fI) ⟨[.ref (h.objs.size + 1)], [(p, u)]⟩)
      (fun r s' => match r with | .ok (.ret v) => v = .none ∧ Q (.done (.ret (.ref (h.objs.size + 1)))) s' | .ok _ => False | .error e => E e s')
      ⟨(h.push (W.kdv_tup [])).push (excO C h.objs.size), g, d, t, os⟩) :
    wpAny (model prog w) A (Builtin.«type.__call__» ⟨[.ref C], [(p, u)]⟩) Q E ⟨h, g, d, t, os⟩ := by
  repeat (first | with_reducible refine wpAny_loadPart_at hC ?_ | with_reducible refine wpAny_madeBy_exc hC ?_ | wp_step)
  refine codeAny_call_builtin_code (Code.quiet_builtin _ F.quiet) (check_new_kw F hT hC ?_)
  refine new_kw F hT hC ?_
  show wpAny _ _ _ _ _ _
  have k : ∀ b o, h.get? b = some o → ((h.push (W.kdv_tup [])).push (excO C h.objs.size)).get? b = some o := fun b o e => Heap.get?_push_of_some _ (Heap.get?_push_of_some _ e)
  have hC₁ := k _ _ hC
  have hget : ((h.push (W.kdv_tup [])).push (excO C h.objs.size)).get? (h.objs.size + 1) = some (excO C h.objs.size) := by heap_get
  have hcC : (Value.ref C :: bm).contains (.ref C) = true := by simp
  have i1 := hi.keeps k
  have b1 := (hb (.ref (h.objs.size + 1))).keeps k
  unfold isInstance
  repeat (first | with_reducible refine wpAny_loadPart_at hget ?_ | (with_reducible refine wpAny_isSubtype_exc hC₁ ?_; rw [hcC]) | wp_step)
  show wpAny _ _ (typeLookup (.ref C) _) _ _ _
  refine i1.at ?_
  refine wpAny_holding (wpAny_bind (b1.at ?_))
  refine wpAny_bind (wpAny_call (codeAny_mono hq fun r s' z => ?_))
  rcases r with e | (v | _ | _ | _) <;> first | exact z | exact z.elim | skip
  obtain ⟨rfl, z⟩ := z
  first
    | exact wpAny_pure (wpAny_pure z)
    | (wp_walk; exact z)
theorem call_kw (F : ExcBaseFacts B newId initId bmB) (hT : ∀ X : String, bm.contains (.type X) = bmB.contains (.type X)) {p : Str} {u : Value} {fI : Addr}
    (hC : h.get? C = some (excClassObj nm q C N bs bm hdct sn sub ab col dd k0 k1 k2 k3 k5 newId))
    (hi : W.Looks (model prog w) h (typeLookup (.ref C) "__init__") (some (.ref fI))) (hb : ∀ self, W.Looks (model prog w) h (bindSpecial (.ref fI) self) (.ref fI, [self]))
    (hq : codeAny (model prog w) (A.under (.builtin "type.__call__" ⟨[.ref C], [(p, u)]⟩)) (.call (.ref fI) ⟨[.ref (h.objs.size + 1)], [(p, u)]⟩) (W.InitBack (h.objs.size + 1) R)
      ⟨(h.push (W.kdv_tup [])).push (excO C h.objs.size), g, d, t, os⟩) :
    codeAny (model prog w) A (.call (.ref C) ⟨[], [(p, u)]⟩) R ⟨h, g, d, t, os⟩ := by
  have f1 := tc_lookup
  have f2 := tc_bind (.ref C)
  have hTy : (⟨h, g, d, t, os⟩ : Shared).TypeIs (.ref C) "type" := ⟨_, hC, rfl⟩
  refine codeAny_of_tree ?_
  show wpAny _ _ (callAny (.ref C) _) _ _ _
  repeat (any_goals (first | assumption | with_reducible refine wpAny_loadPart_at hC ?_ | wp_step))
  refine ⟨rfl, ?_⟩
  refine codeAny_call_builtin_at (Code.quiet_builtin _ (by decide +kernel)) entry_typeCall (wpAny_check_type_call_sub hC (type_call_kw F hT hC hi hb ?_))
  refine codeAny_mono hq fun r s' z => ?_
  rcases r with e | (v | _ | _ | _) <;> exact z
end
end TE
namespace TE
open PySem PySem.Spec PyProof.Rows L2
open TL (exv)
theorem exv_ok {P : Program} {w : World} {H : Hp} {h : Heap} {a : Addr} {cls : Value} {d : Option Addr} {oe : Obj} {vs : Array Value} (e : h.get? a = some oe) (z : Zc cls d oe) (f : oe.data = .fields vs) : ObjOk P w H h a (exv a cls d) :=
  ⟨⟨oe, vs, e, z, f⟩, ⟨oe, e⟩, fun _ _ ⟨o, v, q, r⟩ k => ⟨o, v, k o q, r⟩⟩
section
variable {X : Cx}
theorem mk_endV {pins : List (Addr × Obj)} {σ : L2.St} {H1 H2 : Hp} {hp hp2 h2 : Heap} {g1 g2 : Array GenState} {d1 d2 : Drawn} {t1 t2 : Nat} {os1 os2 : OsState} {a C d : Addr} {fs : List (Str × V)} (I1 : Inv X pins σ H1 ⟨hp, g1, d1, t1, os1⟩)
    (ha : hp.objs.size ≤ a) (k : ∀ b o, hp.get? b = some o → hp2.get? b = some o) (un : Un (frs X.stack) [] (upd H1 a (exo a C none)) H2 hp2 h2) (hok : HOk X.prog X.w H2 h2) (ho : os2 = os1) (hb : AllBare g2)
    (ea : H2 a = some (exo a C (some d))) (ed : H2 d = some (exd d fs)) (hd1 : H1 d = none) :
    Inv X pins σ (upd (upd H2 a (exv a (.ref C) (some d))) d (.xd fs)) ⟨h2, g2, d2, t2, os2⟩ := by
  obtain ⟨t0, hoe⟩ := exo_at hok ea
  obtain ⟨mA, hns, rel⟩ := exd_at hok ed
  have hn : H1 a = none := I1.hok.fresh ha
  have hda : d ≠ a := fun z => by
    obtain ⟨o, es, ep, e1, e2, _⟩ := hns
    rw [z, hoe] at e1
    have z2 := Option.some.inj e1
    subst z2
    cases e2
  have nha : ∀ {b : Addr} {o : Obj}, hp.get? b = some o → b ≠ a := fun {b o} z => Nat.ne_of_lt (Nat.lt_of_lt_of_le (Heap.lt_size z) ha)
  have up : ∀ {b : Addr}, b ≠ a → H1 b = none → upd H1 a (exo a C none) b = none := fun {b} hb n => by rw [upd_ne hb]; exact n
  have nd : ∀ {b : Addr} {o : Obj}, hp.get? b = some o → H1 b = none → b ≠ d := fun {b o} z n e => by
    have y := un.free b o (k b o z) (up (nha z) n) (by simp)
    rw [e, ed] at y
    cases y
  have U : Un (frs X.stack) [] H1 (upd (upd H2 a (exv a (.ref C) (some d))) d (.xd fs)) hp h2 := {
    keep := fun b o z n hf hx => un.keep b o (k b o z) (up (nha z) n) hf hx
    slot := fun b o z n hf hx => un.slot b o (k b o z) (up (nha z) n) hf hx
    free := fun b o z n hx => by
      rw [upd_ne (nd z n), upd_ne (nha z)]
      exact un.free b o (k b o z) (up (nha z) n) hx
    there := fun b o z hx => un.there b o (k b o z) hx
    tups := fun b xs z => by
      rw [upd_ne (ne_of_none z hd1), upd_ne (ne_of_none z hn)]
      exact un.tups b xs (by rw [upd_ne (ne_of_none z hn)]; exact z)
    frzs := fun b o v z => by
      rw [upd_ne (ne_of_none z hd1), upd_ne (ne_of_none z hn)]
      exact un.frzs b o v (by rw [upd_ne (ne_of_none z hn)]; exact z)
    tbls := fun b ps z => by
      rw [upd_ne (ne_of_none z hd1), upd_ne (ne_of_none z hn)]
      exact un.tbls b ps (by rw [upd_ne (ne_of_none z hn)]; exact z) }
  have hok3 : HOk X.prog X.w (upd (upd H2 a (exv a (.ref C) (some d))) d (.xd fs)) h2 := fun b o z => by
    by_cases hbd : b = d
    · subst hbd
      rw [upd_same] at z
      cases z
      exact ⟨mA, hns, rel⟩
    · rw [upd_ne hbd] at z
      by_cases hba : b = a
      · subst hba
        rw [upd_same] at z
        cases z
        exact exv_ok hoe ⟨rfl, rfl⟩ rfl
      · rw [upd_ne hba] at z
        exact (hok b o z).stay (fun c v hc y => y)
          (fun c hc => by rw [upd_ne (at_ne ed hc exd_own), upd_ne (at_ne ea hc exo_own)]; exact hc) (fun c xs hc => by rw [upd_ne (at_ne ed hc exd_tup), upd_ne (at_ne ea hc exo_tup)]; exact hc)
  exact I1.call' (ch := []) ho U hok3 hb (fun b z => absurd z (by simp))
def tMkV (C : Addr) (sp : Sp) (ta : TA) : TE := fun σ H Q => ta σ H fun vs H1 => vs.length = 1 ∧ ∀ a, H1 a = none → sp (.ref a :: vs) (upd H1 a (exo a C none))
  (fun v H2 => v = .non ∧ ∃ (d : Addr) (fs : List (Str × V)), H2 a = some (exo a C (some d)) ∧ H2 d = some (exd d fs) ∧ H1 d = none ∧ Q (.ref a) (upd (upd H2 a (exv a (.ref C) (some d))) d (.xd fs))) (fun _ _ _ => False)
variable {CX : CXT} {x pn : Str} {C fI : Addr} {k : Nat} {fd : FuncData} {ps : List Str} {sp : Sp} {e : Expr} {es : List Expr} {kws : List Keyword} {ta tk : TA} {p pos : Pos}
theorem pe_oexV (T : OexC X.K C) (iC : PySem.W.findIn X.K (.ref C) "__init__" = some (some (.ref fI))) (tI : PySem.W.typeIn X.K (.ref fI) = some (.type "function"))
    (F1 : FnOk X.prog X.w X.K X.mg X.base CX k fI fd ps sp) (hr : Room (k + 1) X.A) (hb : Binds X.K fd ps []) (hx : Passes CX X (fun _ _ _ => False)) (hg : Gl X x) (hm : X.mg x = some (.ref C)) (ha : PA X (e :: es) ta)
    (hdb : (x == ("__debug__" : Str)) = false := by decide) (he : starEach (e :: es) X.env = (false, eval e X.env) :: starEach es X.env := by rfl) (hpl : (backTo pos (starEach es X.env)).any (·.1) = false := by rfl) :
    PE X (.Call (.Name x p) (e :: es) [] pos) (tMkV C sp ta) := by
  refine ⟨fun pins s σ H Q I h => ?_⟩
  obtain ⟨nm, q, N, bs, bm, sn, sub, ab, col, dd, k0, k1, k2, k3, k5, hC, hbm⟩ := T.cls
  refine wpAny_Call_Name_kw (ld_glob I hg hm ?_ hdb)
  refine PySem.W.callWith_K (h₀ := X.base) I.ok.mod.kin T.kC (thn (ha.run pos pins s σ H _ I h) fun us s1 ⟨vs, H1, I1, r1, hz, q1⟩ => ⟨I1.kIn, ?_⟩) he hpl
  show wpAny _ _ (call (.ref C) us) _ _ _
  obtain ⟨hp, g, dr, tk, os⟩ := s1
  have hsz : hp.objs.size ≤ hp.objs.size + 1 := Nat.le_succ _
  have hn : H1 (hp.objs.size + 1) = none := I1.hok.fresh hsz
  have hq := q1 (hp.objs.size + 1) hn
  have kk : ∀ b o, hp.get? b = some o → ((hp.push (PySem.W.kdv_tup us)).push (PySem.HandSPX.excO C hp.objs.size)).get? b = some o := fun b o e => Heap.get?_push_of_some _ (Heap.get?_push_of_some _ e)
  have hget : ((hp.push (PySem.W.kdv_tup us)).push (PySem.HandSPX.excO C hp.objs.size)).get? (hp.objs.size + 1) = some (PySem.HandSPX.excO C hp.objs.size) := by heap_get
  have I2 : Inv X pins σ (upd H1 (hp.objs.size + 1) (exo (hp.objs.size + 1) C none)) ⟨(hp.push (PySem.W.kdv_tup us)).push (PySem.HandSPX.excO C hp.objs.size), g, dr, tk, os⟩ :=
    I1.laid (t' := tk) (a := hp.objs.size + 1) (o := exo (hp.objs.size + 1) C none) (h' := (hp.push (PySem.W.kdv_tup us)).push (PySem.HandSPX.excO C hp.objs.size)) kk hsz (exo_ok hget)
  have r2 : Vals (V.ref (hp.objs.size + 1) :: vs) (Value.ref (hp.objs.size + 1) :: us) := .cons rfl r1
  have hl : (Value.ref (hp.objs.size + 1) :: us ++ []).length = ps.length := by
    have e := r2.length
    rw [F1.len _ _ _ _ hq] at e
    rw [List.append_nil]
    exact e.symm
  have hus : us.length ≤ sizeLine := by
    rw [← Paired.length r1, sizeLine_eq]
    omega
  refine wpAny_call (PySem.HandSPX.call_own F.excBase_ValueError (fun Y => PySem.HandSPX.refsVE_contains Y bm hbm) (I1.kIn _ _ hC) (PySem.W.looks_findIn I1.kIn iC) (fun self => PySem.W.bind_fn I1.kIn self tI) hus
    (codeAny_mono (F1.run _ X.stack _ _ ⟨Value.ref (hp.objs.size + 1) :: us, []⟩ (Value.ref (hp.objs.size + 1) :: us) _ _ (fun _ _ _ => False) (hr.make C us []) (I2.env0.make C us []) (by have := hb _ (Value.ref (hp.objs.size + 1) :: us) I2.kIn hl; rw [List.append_nil] at this; exact this) r2 hq) fun r s' hq' => ?_))
  cases r with
  | error er => exact hx pins σ _ _ er s' I2 hq'
  | ok fl =>
    cases fl with
    | ret u =>
      obtain ⟨v, H2, os2, bare2, un2, hok2, rv, ev, d, fs, ea, ed, hd1, q2⟩ := hq'
      subst ev
      obtain ⟨h2, g2, d2, t2, os'⟩ := s'
      exact ⟨rv, .ref (hp.objs.size + 1), _, mk_endV I1 hsz kk un2 hok2 os2 bare2 ea ed hd1, rfl, q2⟩
    | next => exact False.elim hq'
    | brk => exact False.elim hq'
    | cont => exact False.elim hq'
theorem pe_oexK (T : OexC X.K C) (iC : PySem.W.findIn X.K (.ref C) "__init__" = some (some (.ref fI))) (tI : PySem.W.typeIn X.K (.ref fI) = some (.type "function"))
    (F1 : FnOk X.prog X.w X.K X.mg X.base CX k fI fd ps sp) (hr : Room (k + 1) X.A) (hb : KBn X.K fd ps 1 [pn] (fun us ws => us ++ TL.sel [0] ws) (fun us ws => us ++ TL.sel [0] ws)) (hx : Passes CX X (fun _ _ _ => False)) (hg : Gl X x) (hm : X.mg x = some (.ref C)) (hkw : PK X kws tk)
    (hall : (backToKw pos (keywordEach kws X.env)).all (·.1.isSome) = true := by rfl) (hks : (backToKw pos (keywordEach kws X.env)).filterMap (·.1) = [pn] := by rfl) (hdb : (x == ("__debug__" : Str)) = false := by decide)
    (hpl : ((backTo pos (starEach [] X.env)).any (·.1) || (backToKw pos (keywordEach kws X.env)).any (·.1.isNone)) = false := by rfl) :
    PE X (.Call (.Name x p) [] kws pos) (tMkV C sp tk) := by
  refine ⟨fun pins s σ H Q I h => ?_⟩
  obtain ⟨nm, q, N, bs, bm, sn, sub, ab, col, dd, k0, k1, k2, k3, k5, hC, hbm⟩ := T.cls
  refine wpAny_Call_Name_kw (ld_glob I hg hm ?_ hdb)
  refine PySem.W.callWith_KW0 (h₀ := X.base) I.ok.mod.kin T.kC hall ?_ hpl
  refine thn (hkw.run pos pins s σ H _ I h) fun us s1 ⟨vs, H1, I1, r1, hz, q1⟩ => ⟨I1.kIn, ?_⟩
  rw [hks]
  obtain ⟨hp, g, dr, tkk, os⟩ := s1
  have hsz : hp.objs.size ≤ hp.objs.size + 1 := Nat.le_succ _
  have hn : H1 (hp.objs.size + 1) = none := I1.hok.fresh hsz
  have hq := q1 (hp.objs.size + 1) hn
  have hl0 : us.length = 1 := r1.length.symm.trans hz
  obtain ⟨u0, rfl⟩ : ∃ u0, us = [u0] := by
    match us, hl0 with
    | [u0], _ => exact ⟨u0, rfl⟩
  have kk : ∀ b o, hp.get? b = some o → ((hp.push (PySem.W.kdv_tup [])).push (PySem.HandSPX.excO C hp.objs.size)).get? b = some o := fun b o e => Heap.get?_push_of_some _ (Heap.get?_push_of_some _ e)
  have hget : ((hp.push (PySem.W.kdv_tup [])).push (PySem.HandSPX.excO C hp.objs.size)).get? (hp.objs.size + 1) = some (PySem.HandSPX.excO C hp.objs.size) := by heap_get
  have I2 : Inv X pins σ (upd H1 (hp.objs.size + 1) (exo (hp.objs.size + 1) C none)) ⟨(hp.push (PySem.W.kdv_tup [])).push (PySem.HandSPX.excO C hp.objs.size), g, dr, tkk, os⟩ :=
    I1.laid (t' := tkk) (a := hp.objs.size + 1) (o := exo (hp.objs.size + 1) C none) (h' := (hp.push (PySem.W.kdv_tup [])).push (PySem.HandSPX.excO C hp.objs.size)) kk hsz (exo_ok hget)
  obtain ⟨v0, rfl⟩ : ∃ v0, vs = [v0] := by
    match vs, hz with
    | [v0], _ => exact ⟨v0, rfl⟩
  have r2 : Vals [V.ref (hp.objs.size + 1), v0] [Value.ref (hp.objs.size + 1), u0] := .cons rfl r1
  have hbt : BindsTo _ fd ⟨[Value.ref (hp.objs.size + 1)], [(pn, u0)]⟩ (ps.zip [Value.ref (hp.objs.size + 1), u0]) := hb.to _ [Value.ref (hp.objs.size + 1)] [u0] I2.kIn rfl rfl
  show wpAny _ _ (call (.ref C) [] [(pn, u0)]) _ _ _
  refine wpAny_call (TE.call_kw F.excBase_ValueError (fun Y => PySem.HandSPX.refsVE_contains Y bm hbm) (I1.kIn _ _ hC) (PySem.W.looks_findIn I1.kIn iC) (fun self => PySem.W.bind_fn I1.kIn self tI)
    (codeAny_mono (F1.run _ X.stack _ _ ⟨[Value.ref (hp.objs.size + 1)], [(pn, u0)]⟩ [Value.ref (hp.objs.size + 1), u0] _ _ (fun _ _ _ => False) (hr.make C [] [(pn, u0)]) (I2.env0.make C [] [(pn, u0)]) hbt r2 hq) fun r s' hq' => ?_))
  cases r with
  | error er => exact hx pins σ _ _ er s' I2 hq'
  | ok fl =>
    cases fl with
    | ret u =>
      obtain ⟨v, H2, os2, bare2, un2, hok2, rv, ev, d, fs, ea, ed, hd1, q2⟩ := hq'
      subst ev
      obtain ⟨h2, g2, d2, t2, os'⟩ := s'
      exact ⟨rv, .ref (hp.objs.size + 1), _, mk_endV I1 hsz kk un2 hok2 os2 bare2 ea ed hd1, rfl, q2⟩
    | next => exact False.elim hq'
    | brk => exact False.elim hq'
    | cont => exact False.elim hq'
theorem pe_exc1V {bmB : List Value} {B newId initId : String} (F : ExcBaseFacts B newId initId bmB) (q : PySem.W.excIn X.K C bmB newId = true) (gC : X.mg x = some (.ref C)) (kC : PySem.W.keepIn X.K (.ref C) = true) (hg : Gl X x) {te : TE}
    (he : PE X e te) (hs : starEach [e] X.env = (false, eval e X.env) :: starEach [] X.env := by rfl) (hdb : (x == ("__debug__" : Str)) = false := by decide) :
    PE X (.Call (.Name x p) [e] [] pos) (fun σ H Q => te σ H fun _ H1 => ∀ a, H1 a = none → Q (.ref a) (upd H1 a (exv a (.ref C) none))) := by
  refine ⟨fun pins s σ H Q I h => ?_⟩
  refine wpAny_Call_Name_kw (ld_glob I hg gC ?_ hdb)
  refine PySem.W.callWith_K (h₀ := X.base) I.ok.mod.kin kC ?_ hs (by rfl)
  rw [hs]
  show wpAny _ _ (spliced ((false, eval e X.env) :: backTo pos (starEach [] X.env))) _ _ s
  refine Calls.spliced_cons (thn (he.run pins s σ H _ I h) fun u s1 ⟨v, H1, I1, r1, q1⟩ => ?_)
  refine Calls.spliced_nil ⟨I1.kIn, ?_⟩
  show wpAny _ _ (call (.ref C) [u]) _ _ _
  obtain ⟨bm, N, nm, qn, bs, hdct, sn, sub, ab, col, dd, k0, k1, k2, k3, k5, mN, hC, hN, hni, T⟩ := exc_obj I1.kIn q
  refine wpAny_call_exc_subT F T hC hN hni (fun h' a hm => ?_) (by show 1 ≤ sizeLine; rw [sizeLine_eq]; omega)
  have hn : H1 a = none := I1.hok.gone hm.new
  obtain ⟨t, ht, _, _⟩ := hm.there
  exact ⟨.ref a, upd H1 a (exv a (.ref C) none), I1.laidN hm.keeps hm.new hn (exv_ok ht ⟨rfl, rfl⟩ rfl), rfl, q1 a hn⟩
end
end TE
namespace TL
open PySem PySem.Spec PyProof.Rows L2
open TX (spInit)
def dExc (C : Addr) (f : Str) (te : DTE) : DTE := fun ρ Q => dCons te dNil ρ fun rs ρ1 => match rs with
  | [.dat d] => Q (.dat (.exc C [(f, d)])) ρ1
  | _ => False
def dExc0 (C : Addr) (te : DTE) : DTE := fun ρ Q => te ρ fun _ ρ1 => Q (.dat (.exc C [])) ρ1
def dXf (T : Addr → Prop) (f : Str) (t : DTE) : DTE := fun ρ Q => t ρ fun r ρ1 => match r with
  | .dat (.exc C fs) => T C ∧ (match fs.lookup f with | some d => Q (.dat d) ρ1 | none => False)
  | _ => False
section
variable {X : Cx} {np : Np} {x f p pn : Str} {e : Expr} {es : List Expr} {te : DTE} {C fI : Addr} {fd : FuncData} {k n : Nat} {kws : List Keyword} {p1 p2 pos : Pos}
theorem exc_ok (σ : Stt) (H : Hp) (Q : VK) (h : lift X.K np (dExc C f te) σ H Q) : TE.tMkV C (spInit C f) (liftA X.K np (dCons te dNil)) σ H Q := by
  obtain ⟨B, G, ρ, Qd, hn, eo, h, k⟩ := h
  refine ⟨B, G, ρ, _, hn, eo, h, fun G1 vs rs ρ1 H1 s1 e1 ar q => ?_⟩
  obtain ⟨d, rfl, xc⟩ : ∃ d, rs = [.dat d] ∧ Qd (.dat (.exc C [(f, d)])) ρ1 := by
    match rs, q with
    | [.dat d], q => exact ⟨d, rfl, q⟩
  obtain ⟨v, rfl, rv⟩ : ∃ v, vs = [v] ∧ Rp X.K G1 v d := by
    cases ar with
    | cons a r =>
      cases r
      cases a with
      | dat h => exact ⟨_, rfl, h⟩
  refine ⟨rfl, fun a na => ⟨a, v, rfl, upd_same, fun dx hd ne => ⟨rfl, dx, [(f, v)], upd_same, ?_, ?_, ?_⟩⟩⟩
  · rw [upd_ne ne, upd_same]
  · rw [upd_ne ne] at hd
    exact hd
  · rw [upd_ne ne] at hd
    have eh : upd (upd (upd (upd (upd H1 a (exo a C none)) dx (exd dx [(f, v)])) a (exo a C (some dx))) a (exv a (.ref C) (some dx))) dx (.xd [(f, v)]) = upd (upd H1 a (exv a (.ref C) (some dx))) dx (.xd [(f, v)]) := by
      funext b
      by_cases hb : b = dx
      · rw [hb, upd_same, upd_same]
      · rw [upd_ne hb, upd_ne hb]
        by_cases h2 : b = a
        · rw [h2, upd_same, upd_same]
        · rw [upd_ne h2, upd_ne h2, upd_ne hb, upd_ne h2, upd_ne h2]
    rw [eh]
    obtain ⟨ω, e1⟩ := e1
    obtain ⟨sg, e2⟩ := e1.newG (p := a) (o := exv a (.ref C) (some dx)) na
    have hd2 : upd H1 a (exv a (.ref C) (some dx)) dx = none := by rw [upd_ne ne]; exact hd
    obtain ⟨sg2, e3⟩ := e2.newG (p := dx) (o := .xd [(f, v)]) hd2
    exact k _ _ (.dat (.exc C [(f, d)])) _ _ ((s1.trans sg).trans sg2) (e3.dat (.exc1 (sg2 _ _ upd_same) upd_same (.cons ((rv.mono sg).mono sg2) .nil))) xc
theorem d_exc (TC : OexC X.K C) (iC : PySem.W.findIn X.K (.ref C) "__init__" = some (some (.ref fI))) (tI : PySem.W.typeIn X.K (.ref fI) = some (.type "function"))
    (F1 : FnOk X.prog X.w X.K X.mg X.base CX0 k fI fd ["self", pn] (spInit C f)) (hr : Room (k + 1) X.A) (hb : Binds X.K fd ["self", pn] []) (hg : Gl X x) (hm : X.mg x = some (.ref C))
    (ha : PA X [e] (liftA X.K np (dCons te dNil))) (hdb : (x == ("__debug__" : Str)) = false := by decide) (he : starEach [e] X.env = (false, eval e X.env) :: starEach [] X.env := by rfl) (hpl : (backTo pos (starEach [] X.env)).any (·.1) = false := by rfl) :
    PE X (.Call (.Name x p1) [e] [] pos) (lift X.K np (dExc C f te)) :=
  (TE.pe_oexV TC iC tI F1 hr hb (fun _ _ _ _ _ _ _ z => z.elim) hg hm ha hdb he hpl).mo fun σ H Q h => exc_ok σ H Q h
theorem d_excK (TC : OexC X.K C) (iC : PySem.W.findIn X.K (.ref C) "__init__" = some (some (.ref fI))) (tI : PySem.W.typeIn X.K (.ref fI) = some (.type "function"))
    (F1 : FnOk X.prog X.w X.K X.mg X.base CX0 k fI fd ["self", pn] (spInit C f)) (hr : Room (k + 1) X.A) (hb : KBn X.K fd ["self", pn] 1 [pn] (fun us ws => us ++ sel [0] ws) (fun us ws => us ++ sel [0] ws)) (hg : Gl X x) (hm : X.mg x = some (.ref C))
    (hkw : PK X kws (liftA X.K np (dCons te dNil)))
    (hall : (backToKw pos (keywordEach kws X.env)).all (·.1.isSome) = true := by rfl) (hks : (backToKw pos (keywordEach kws X.env)).filterMap (·.1) = [pn] := by rfl) (hdb : (x == ("__debug__" : Str)) = false := by decide)
    (hpl : ((backTo pos (starEach [] X.env)).any (·.1) || (backToKw pos (keywordEach kws X.env)).any (·.1.isNone)) = false := by rfl) :
    PE X (.Call (.Name x p1) [] kws pos) (lift X.K np (dExc C f te)) :=
  (TE.pe_oexK TC iC tI F1 hr hb (fun _ _ _ _ _ _ _ z => z.elim) hg hm hkw hall hks hdb hpl).mo fun σ H Q h => exc_ok σ H Q h
theorem d_exc0 (q : PySem.W.excIn X.K C [.type "ValueError", .type "Exception", .type "BaseException", .type "object"] "ValueError.__new__" = true) (kC : PySem.W.keepIn X.K (.ref C) = true) (hg : Gl X x) (hm : X.mg x = some (.ref C)) (he : PE X e (lift X.K np te))
    (hs : starEach [e] X.env = (false, eval e X.env) :: starEach [] X.env := by rfl) (hdb : (x == ("__debug__" : Str)) = false := by decide) : PE X (.Call (.Name x p1) [e] [] pos) (lift X.K np (dExc0 C te)) := by
  refine (TE.pe_exc1V PySem.F.excBase_ValueError q hm kC hg he hs hdb).mo fun σ H Q h => ?_
  obtain ⟨B, G, ρ, Qd, hn, eo, h, k⟩ := h
  refine ⟨B, G, ρ, _, hn, eo, h, fun G1 v r ρ1 H1 s1 f1 q1 a na => ?_⟩
  obtain ⟨ω, e1, _⟩ := f1
  obtain ⟨sg, e2⟩ := e1.newG (p := a) (o := exv a (.ref C) none) na
  exact k _ _ (.dat (.exc C [])) _ _ (s1.trans sg) (e2.dat (.exc0 upd_same)) q1
theorem d_xf {T : Addr → Prop} (hT : ∀ C, T C → XfC X.K C ∧ PySem.W.findIn X.K (.ref C) f = some none) (he : PE X e (lift X.K np te))
    (hb : attributeBase e f X.env (eval e X.env) = eval e X.env := by rfl) : PE X (.Attribute e f pos) (lift X.K np (dXf T f te)) := by
  refine (TX.pe_xg he hb).mo fun σ H Q h => ?_
  obtain ⟨B, G, ρ, Qd, hn, eo, h, k⟩ := h
  refine ⟨B, G, ρ, _, hn, eo, h, fun G1 v r ρ1 H1 s1 f1 q1 => ?_⟩
  split at q1
  · rename_i C fs
    obtain ⟨hC, q1⟩ := q1
    obtain ⟨h1, h2⟩ := hT C hC
    obtain ⟨ω, e1, rr⟩ := f1
    have rr : Rp X.K G1 v (.exc C fs) := rr
    cases rr with
    | exc0 _ => exact q1.elim
    | exc1 g1 g2 rf =>
      split at q1
      · rename_i d2 hl
        obtain ⟨w, hw, rw'⟩ := rf.look hl
        exact ⟨_, C, _, _, w, rfl, e1.gle _ _ g1, e1.gle _ _ g2, h1, h2, hw, k _ _ (.dat d2) _ _ s1 (e1.dat rw') q1⟩
      · exact q1.elim
  · exact q1.elim
end
theorem bt_ValueError : bootBuiltins "ValueError" = some (.type "ValueError") := by decide +kernel
def gIsE (J : Addr → D → Bool → Prop) : DOpL := fun xs P => match xs with
  | [.exc C _, c] => ∃ b, J C c b ∧ P (.dat (.bl b))
  | _ => False
inductive ClsD : D → Value → Prop
  | ref (a : Addr) : ClsD (.ref a) (.ref a)
  | ty (n : String) : ClsD (.ty n) (.type n)
theorem RdV.exc {K : PySem.W.Frag} {G H : Hp} {v : V} {C : Addr} {fs : List (Str × D)} (r : RdV K G H v (.exc C fs)) : Rp K G v (.exc C fs) := by
  rcases r with r | ⟨_, _, _, _, e, _⟩ | ⟨_, _, _, _, e, _⟩
  · exact r
  · cases e
  · cases e
theorem c_isE {np : Np} {K : PySem.W.Frag} {J : Addr → D → Bool → Prop} (hJ : ∀ C c b, J C c b → ∃ cv, ClsD c cv ∧ ExcC K C ∧ PySem.W.kitOne K (.ref C) cv = some b) : CL np K (fun xs H Q => TX.rIsX K xs H Q ∨ rIsi K xs H Q) (gIsE J) := by
  intro B G ω ρ σ H vs xs P Q hn e r g k
  unfold gIsE at g
  split at g
  · rename_i C fs c
    obtain ⟨v, w, rfl, rv, rw'⟩ := r.two
    obtain ⟨b, hb, p⟩ := g
    obtain ⟨cv, hc, h1, h2⟩ := hJ C c b hb
    have same : ∀ u, RelV w u → u = cv := by
      cases hc with
      | ref a =>
        have rp := rw'.rpN rfl
        cases rp
        exact fun u z => z
      | ty n =>
        rw [rw'.tyv]
        exact fun u z => z
    have rx := rv.exc
    have fin := k _ _ (.dat (.bl b)) _ (.refl _) (e.dat (.bl b)) p
    cases rx with
    | exc0 g1 => exact .inl ⟨_, C, none, w, cv, b, rfl, e.gle _ _ g1, (fun dd hd => by cases hd), h1, same, h2, fin⟩
    | exc1 g1 g2 rf => exact .inl ⟨_, C, _, w, cv, b, rfl, e.gle _ _ g1, (fun dd hd => by cases hd; exact ⟨_, e.gle _ _ g2⟩), h1, same, h2, fin⟩
  · exact g.elim
def excTabB (K : PySem.W.Frag) (cs : List Addr) (ts : List Value) (tab : Nat → Nat → Bool) : Bool :=
  (List.range cs.length).all fun i => match cs[i]? with
    | some C => TX.excB K C && (List.range ts.length).all fun j => match ts[j]? with
      | some t => TX.kitB K (.ref C) t (tab i j)
      | none => true
    | none => true
theorem excTab_ok {K : PySem.W.Frag} {cs : List Addr} {ts : List Value} {tab : Nat → Nat → Bool} (h : excTabB K cs ts tab = true) {i j : Nat} {C : Addr} {t : Value} (hi : cs[i]? = some C) (hj : ts[j]? = some t) : ExcC K C ∧ PySem.W.kitOne K (.ref C) t = some (tab i j) := by
  unfold excTabB at h
  rw [List.all_eq_true] at h
  have h1 := h i (List.mem_range.mpr (List.getElem?_eq_some_iff.mp hi).1)
  rw [hi] at h1
  obtain ⟨h2, h3⟩ := TX.band h1
  rw [List.all_eq_true] at h3
  have h4 := h3 j (List.mem_range.mpr (List.getElem?_eq_some_iff.mp hj).1)
  rw [hj] at h4
  exact ⟨TX.exc_of h2, TX.kit_of h4⟩
def excJ (cs : List Addr) (ds : List D) (tab : Nat → Nat → Bool) : Addr → D → Bool → Prop := fun C c b => ∃ i j, cs[i]? = some C ∧ ds[j]? = some c ∧ b = tab i j
theorem excJ_ok {K : PySem.W.Frag} {cs : List Addr} {ts : List Value} {ds : List D} {tab : Nat → Nat → Bool} (h : excTabB K cs ts tab = true) (hd : Paired ClsD ds ts) : ∀ C c b, excJ cs ds tab C c b → ∃ cv, ClsD c cv ∧ ExcC K C ∧ PySem.W.kitOne K (.ref C) cv = some b := by
  rintro C c b ⟨i, j, hi, hj, rfl⟩
  obtain ⟨t, ht, hc⟩ : ∃ t, ts[j]? = some t ∧ ClsD c t := by
    clear h
    induction hd generalizing j with
    | nil => simp at hj
    | cons a r ih =>
      cases j with
      | zero => simp at hj; subst hj; exact ⟨_, rfl, a⟩
      | succ j => exact ih j (by simpa using hj)
  exact ⟨t, hc, excTab_ok h hi ht⟩
end TL
namespace TL
open PySem PySem.Spec PyProof.Rows L2
def xcs (c : Ca) : List Addr := [c.BadWord, c.NoKeeper, c.BadRule, c.BadWeaving, c.BadLot, c.BadKeeper, c.BadScheme, c.BadIll, c.NotSafe, c.BadView, c.BadShape, c.Ringed, c.TooMany, c.BadRow, c.BadText, c.BadState, c.BadNumber, c.NothingLeft, c.KeeperError]
def xds (c : Ca) : List D := [.ref c.BadWord, .ref c.NoKeeper, .ref c.BadRule, .ref c.BadWeaving, .ref c.BadLot, .ref c.BadKeeper, .ref c.BadScheme, .ref c.BadIll, .ref c.NotSafe, .ref c.BadView, .ref c.BadShape, .ref c.Ringed, .ref c.TooMany, .ref c.BadRow, .ref c.BadText, .ref c.BadState, .ref c.BadNumber, .ref c.NothingLeft, .ref c.KeeperError, .ty "ValueError"]
def xvs (c : Ca) : List Value := [.ref c.BadWord, .ref c.NoKeeper, .ref c.BadRule, .ref c.BadWeaving, .ref c.BadLot, .ref c.BadKeeper, .ref c.BadScheme, .ref c.BadIll, .ref c.NotSafe, .ref c.BadView, .ref c.BadShape, .ref c.Ringed, .ref c.TooMany, .ref c.BadRow, .ref c.BadText, .ref c.BadState, .ref c.BadNumber, .ref c.NothingLeft, .ref c.KeeperError, .type "ValueError"]
theorem xcd (c : Ca) : Paired ClsD (xds c) (xvs c) := by unfold xds xvs; repeat (first | exact .nil | exact .cons (.ty _) .nil | refine .cons (.ref _) ?_)
def xtab (i j : Nat) : Bool := j == i || decide (18 ≤ j)
abbrev xJ (c : Ca) := excJ (xcs c) (xds c) xtab
end TL
namespace Lk01
open PySem PySem.Spec PyProof.Rows L2 TL
abbrev S__law_begun : DSp := Sp_begun
abbrev S__law_mixed : DSp := Sp_mixed
abbrev S__law_take : DSp := Sp_take
abbrev S__law_pick : DSp := Sp_pick
theorem k__law_begun : Keeps S__law_begun 1 3 rd_begun := kd_begun
theorem k__law_mixed : Keeps S__law_mixed 1 5 rd_mixed := kd_mixed
theorem k__law_take : Keeps S__law_take 2 3 rd_take := kd_take
theorem k__law_pick : Keeps S__law_pick 2 2 rd_pick := kd_pick
def S__law_any : DSp := fun args Q => ∃ b, args = [.rs (.st b)] ∧ 1 ≤ b ∧ ∀ d b', d ∈ TL.anyA ++ TL.anyB → b ≤ b' + 1 → Q (.dat d) [.rs (.st b')]
def r__law_any : DTS := (dSeq (dSet 1 1 ((dLst (dCons (dC .non) (dCons (dC (.bl true)) (dCons (dC (.bl false)) (dCons (dC (.int 0)) (dCons (dC (.int 1)) (dCons ((dUn gNeg (dC (.int 1)))) (dCons (dC (.int 5)) (dCons ((dBin gPow (dC (.int 10)) (dC (.int 40)))) (dCons (dC (.str "")) (dCons (dC (.str "a")) (dCons (dC (.str "x")) (dCons (dC (.str "A")) (dCons (dC (.str "ab c")) (dCons (dC (.str "abcdefghi")) (dCons ((dTup dNil)) (dCons ((dLst dNil)) (dCons (dDNew) dNil))))))))))))))))))))
      (dSeq (dSet 1 1 ((dBin gAdd ((dVar 1)) ((dLst (dCons ((dTup (dCons (dC (.str "x")) dNil))) (dCons ((dLst (dCons (dC (.str "x")) dNil))) (dCons ((dTup (dCons ((dTup dNil)) dNil))) (dCons ((dTup (dCons (dC (.int 1)) (dCons (dC (.str "x")) dNil)))) (dCons ((dTup (dCons (dC (.str "x")) (dCons (dC (.bl false)) (dCons (dC (.bl false)) dNil))))) (dCons ((dDisp [Sum.inr ("x" : Str)] [dC (.int 1)])) (dCons (dC (.str "x\n")) (dCons ((dTup (dCons (dC (.str "make")) dNil))) (dCons (dC (.str "there")) dNil))))))))))))))
      (dRet ((dCall 2 S__law_pick (dCons ((dVar 0)) (dCons ((dFrz (dVar 1))) dNil)))))))
theorem k__law_any : Keeps S__law_any 1 2 r__law_any := by
  rintro args Q h0 ⟨b, rfl, hb, h⟩
  clear h0
  refine ⟨cp 10 40 (by decide) (by decide) rfl, sz0, sz0, sz (by decide), by decide, ?_⟩
  refine ⟨sz (by decide), sz (by decide), sz0, sz (by decide), sz (by decide), sz (by decide), sz (by decide), sz (by decide), sz (by decide), by decide, ?_⟩
  exact ⟨rfl, rfl, b, .lst (TL.anyA ++ TL.anyB), TL.anyA ++ TL.anyB, rfl, rfl, hb, by simp [TL.anyA], by decide, fun x b' hx hb' => h x b' hx hb'⟩
theorem any_show {d : D} (h : d ∈ TL.anyA ++ TL.anyB) : ShowOk d :=
  (TL.fine_of (List.all_eq_true.mp TL.any_fine d h)).show_ (by decide) (by decide) (by decide)
def marks (i : Nat) : List D := [.bl (xtab i 0), .bl (xtab i 1), .bl (xtab i 2), .bl (xtab i 3), .bl (xtab i 4), .bl (xtab i 5), .bl (xtab i 6), .bl (xtab i 7), .bl (xtab i 8), .bl (xtab i 9), .bl (xtab i 10), .bl (xtab i 11), .bl (xtab i 12), .bl (xtab i 13), .bl (xtab i 14), .bl (xtab i 15), .bl (xtab i 16), .bl (xtab i 17)]
def S__law_marks_of (c : Ca) : DSp := fun args Q => ∃ i C fs, args = [.fr (.exc C fs)] ∧ (xcs c)[i]? = some C ∧ Q (.nw (.ls (marks i))) [.un]
def r__law_marks_of (c : Ca) : DTS := (dSeq (dSet 1 1 ((dLst (dCons ((dCB (gIsE (xJ c)) (dCons ((dVar 0)) (dCons ((dC (.ref c.BadWord))) dNil)))) (dCons ((dCB (gIsE (xJ c)) (dCons ((dVar 0)) (dCons ((dC (.ref c.NoKeeper))) dNil)))) (dCons ((dCB (gIsE (xJ c)) (dCons ((dVar 0)) (dCons ((dC (.ref c.BadRule))) dNil)))) dNil))))))
      (dSeq (dSet 1 1 ((dBin gAdd ((dVar 1)) ((dLst (dCons ((dCB (gIsE (xJ c)) (dCons ((dVar 0)) (dCons ((dC (.ref c.BadWeaving))) dNil)))) (dCons ((dCB (gIsE (xJ c)) (dCons ((dVar 0)) (dCons ((dC (.ref c.BadLot))) dNil)))) (dCons ((dCB (gIsE (xJ c)) (dCons ((dVar 0)) (dCons ((dC (.ref c.BadKeeper))) dNil)))) dNil))))))))
      (dSeq (dSet 1 1 ((dBin gAdd ((dVar 1)) ((dLst (dCons ((dCB (gIsE (xJ c)) (dCons ((dVar 0)) (dCons ((dC (.ref c.BadScheme))) dNil)))) (dCons ((dCB (gIsE (xJ c)) (dCons ((dVar 0)) (dCons ((dC (.ref c.BadIll))) dNil)))) (dCons ((dCB (gIsE (xJ c)) (dCons ((dVar 0)) (dCons ((dC (.ref c.NotSafe))) dNil)))) dNil))))))))
      (dSeq (dSet 1 1 ((dBin gAdd ((dVar 1)) ((dLst (dCons ((dCB (gIsE (xJ c)) (dCons ((dVar 0)) (dCons ((dC (.ref c.BadView))) dNil)))) (dCons ((dCB (gIsE (xJ c)) (dCons ((dVar 0)) (dCons ((dC (.ref c.BadShape))) dNil)))) (dCons ((dCB (gIsE (xJ c)) (dCons ((dVar 0)) (dCons ((dC (.ref c.Ringed))) dNil)))) dNil))))))))
      (dSeq (dSet 1 1 ((dBin gAdd ((dVar 1)) ((dLst (dCons ((dCB (gIsE (xJ c)) (dCons ((dVar 0)) (dCons ((dC (.ref c.TooMany))) dNil)))) (dCons ((dCB (gIsE (xJ c)) (dCons ((dVar 0)) (dCons ((dC (.ref c.BadRow))) dNil)))) (dCons ((dCB (gIsE (xJ c)) (dCons ((dVar 0)) (dCons ((dC (.ref c.BadText))) dNil)))) dNil))))))))
      (dRet ((dBin gAdd ((dVar 1)) ((dLst (dCons ((dCB (gIsE (xJ c)) (dCons ((dVar 0)) (dCons ((dC (.ref c.BadState))) dNil)))) (dCons ((dCB (gIsE (xJ c)) (dCons ((dVar 0)) (dCons ((dC (.ref c.BadNumber))) dNil)))) (dCons ((dCB (gIsE (xJ c)) (dCons ((dVar 0)) (dCons ((dC (.ref c.NothingLeft))) dNil)))) dNil)))))))))))))
theorem k__law_marks_of (c : Ca) : Keeps (S__law_marks_of c) 1 2 (r__law_marks_of c) := by
  rintro args Q h0 ⟨i, C, fs, rfl, hi, h⟩
  clear h0
  refine ⟨_, ⟨i, 0, hi, rfl, rfl⟩, _, ⟨i, 1, hi, rfl, rfl⟩, _, ⟨i, 2, hi, rfl, rfl⟩, sz (n := 3) (by decide), by decide, ?_⟩
  refine ⟨_, ⟨i, 3, hi, rfl, rfl⟩, _, ⟨i, 4, hi, rfl, rfl⟩, _, ⟨i, 5, hi, rfl, rfl⟩, sz (n := 3) (by decide), sz (n := 6) (by decide), by decide, ?_⟩
  refine ⟨_, ⟨i, 6, hi, rfl, rfl⟩, _, ⟨i, 7, hi, rfl, rfl⟩, _, ⟨i, 8, hi, rfl, rfl⟩, sz (n := 3) (by decide), sz (n := 9) (by decide), by decide, ?_⟩
  refine ⟨_, ⟨i, 9, hi, rfl, rfl⟩, _, ⟨i, 10, hi, rfl, rfl⟩, _, ⟨i, 11, hi, rfl, rfl⟩, sz (n := 3) (by decide), sz (n := 12) (by decide), by decide, ?_⟩
  refine ⟨_, ⟨i, 12, hi, rfl, rfl⟩, _, ⟨i, 13, hi, rfl, rfl⟩, _, ⟨i, 14, hi, rfl, rfl⟩, sz (n := 3) (by decide), sz (n := 15) (by decide), by decide, ?_⟩
  exact ⟨_, ⟨i, 15, hi, rfl, rfl⟩, _, ⟨i, 16, hi, rfl, rfl⟩, _, ⟨i, 17, hi, rfl, rfl⟩, sz (n := 3) (by decide), sz (n := 18) (by decide), h⟩
theorem iteT' {c : Bool} {p q : Prop} (e : c = true) (h : p) : if c = true then p else q := by rw [if_pos e]; exact h
theorem rg18 : rangeD 0 (18 : Int).toNat = ((List.range 18).map fun (j : Nat) => (j : Int)).map D.int := rfl
def dueB (i : Nat) (j : Int) : Bool := false ^^ decide (V.int j = V.int (i : Int))
theorem due_loop {i : Nat} {Q : Rs → TL.Env → Prop} {ρ0 : TL.Env} {s0 s2 : Sl} : ∀ (js : List Int) (acc : List D) (o : Sl), acc.length + js.length ≤ 900 →
    Q (.nw (.ls (acc ++ js.map fun j => .bl (dueB i j)))) [s0, .fr (.int i), s2, frO ρ0[3]?] →
    dLcL (hName 3) dYes (dBin (gEq false) (dVar 3) (dVar 1)) [3] ρ0 (js.map .int) acc [s0, .fr (.int i), s2, o] Q
  | [], acc, o, hl, h => by
    rw [List.map_nil, List.append_nil] at h
    exact h
  | j :: js, acc, o, hl, h => by
    simp only [List.length_cons] at hl
    refine ⟨by have := fin_big (n := acc.length) (by omega); omega, ?_⟩
    refine due_loop js (acc ++ [.bl (dueB i j)]) (.fr (.int j)) (by simp; omega) ?_
    rw [List.append_assoc]
    exact h
def dues (i : Nat) : List D := ((List.range 18).map fun (j : Nat) => (j : Int)).map fun j => .bl (dueB i j)
theorem md_eq : ∀ i : Fin 18, eqD (.lst (marks i)) (.lst (dues i)) = true := by decide +kernel
theorem md_sh (i : Nat) : shD (.lst (marks i)) = true ∧ shD (.lst (dues i)) = true := ⟨rfl, rfl⟩
def S__law_is_alone (c : Ca) : DSp := fun args Q => ∃ (i : Nat) (C : Addr) (fs : List (Str × D)), args = [.fr (.exc C fs), .fr (.int i)] ∧ i < 18 ∧ (xcs c)[i]? = some C ∧ Q (.dat (.bl true)) [.un, .un]
def r__law_is_alone (c : Ca) : DTS := (dSeq (dSet 2 2 (dLc (iRange1 (dCons (dC (.int 18)) dNil)) (hName 3) (dYes) ((dBin (gEq false) ((dVar 3)) ((dVar 1)))) [3]))
      (dRet ((dAndV ((dBin (gEq false) ((dCall 1 (S__law_marks_of c) (dCons ((dFrz (dVar 0))) dNil))) ((dVar 2)))) ((dAndV ((dCB (gIsE (xJ c)) (dCons ((dVar 0)) (dCons ((dC (.ref c.KeeperError))) dNil)))) ((dCB (gIsE (xJ c)) (dCons ((dVar 0)) (dCons ((dC (.ty "ValueError"))) dNil))))))))))
theorem k__law_is_alone (c : Ca) : Keeps (S__law_is_alone c) 2 4 (r__law_is_alone c) := by
  rintro args Q h0 ⟨i, C, fs, rfl, hl, hi, h⟩
  clear h0
  refine ⟨by decide, by decide, ?_⟩
  rw [rg18]
  refine due_loop _ _ _ (by decide) ?_
  refine ⟨by decide, rfl, rfl, i, C, fs, rfl, hi, (md_sh i).1, (md_sh i).2, ?_⟩
  have e : (false ^^ eqD (.lst (marks i)) (.lst (dues i))) = true := by rw [md_eq ⟨i, hl⟩]; rfl
  refine iteT' e ?_
  refine ⟨true, ⟨i, 18, hi, rfl, by simp [xtab]⟩, ?_⟩
  exact ⟨true, ⟨i, 19, hi, rfl, by simp [xtab]⟩, h⟩
def ip (f : Str) (told : D) (q : Int × Addr) : D := .tup [.int q.1, .exc q.2 [(f, told)]]
def vp (f : Str) (told : D) (q : Int × Addr) : D := .tup [.int q.1, .tup [.exc q.2 [(f, told)], told]]
theorem look1 {f : Str} {told : D} : ([(f, told)] : List (Str × D)).lookup f = some told := by rw [List.lookup_cons, beq_self_eq_true]
theorem lc2 {told : D} {f : Str} {T : Addr → Prop} {Q : Rs → TL.Env → Prop} {ρ0 : TL.Env} {s0 s1 s2 : Sl} : ∀ (L : List (Int × Addr)) (acc : List D) (o3 o4 : Sl), (∀ q ∈ L, T q.2) → acc.length + L.length ≤ 900 →
    Q (.nw (.ls (acc ++ L.map (vp f told)))) [s0, s1, s2, frO ρ0[3]?, frO ρ0[4]?] →
    dLcL (hTup 2 (hCons (hName 3) (hCons (hName 4) hNil))) dYes (dTup (dCons (dFrz (dVar 3)) (dCons (dTup (dCons (dFrz (dVar 4)) (dCons (dXf T f (dVar 4)) dNil))) dNil))) [3, 4] ρ0 (L.map (ip f told)) acc [s0, s1, s2, o3, o4] Q
  | [], acc, o3, o4, _, _, h => by
    rw [List.map_nil, List.append_nil] at h
    exact h
  | q :: L, acc, o3, o4, hT, hl, h => by
    simp only [List.length_cons] at hl
    have e := look1 (f := f) (told := told)
    refine ⟨rfl, rfl, hT q List.mem_cons_self, ?_⟩
    rw [e]
    refine ⟨sz (n := 2) (by decide), sz (n := 2) (by decide), by have := fin_big (n := acc.length) (by omega); omega, ?_⟩
    refine lc2 L (acc ++ [vp f told q]) _ _ (fun z hz => hT z (List.mem_cons_of_mem _ hz)) (by simp; omega) ?_
    rw [List.append_assoc]
    exact h
theorem lc1 {told : D} {f : Str} {n : Int} {T : Addr → Prop} {Q : Rs → TL.Env → Prop} {ρ0 : TL.Env} {s0 s1 s2 s3 : Sl} : ∀ (L : List Addr) (acc : List D) (o4 : Sl), (∀ q ∈ L, T q) → acc.length + L.length ≤ 900 →
    Q (.nw (.ls (acc ++ L.map fun C => vp f told (n, C)))) [s0, s1, s2, s3, frO ρ0[4]?] →
    dLcL (hName 4) dYes (dTup (dCons (dC (.int n)) (dCons (dTup (dCons (dFrz (dVar 4)) (dCons (dXf T f (dVar 4)) dNil))) dNil))) [4] ρ0 (L.map fun C => .exc C [(f, told)]) acc [s0, s1, s2, s3, o4] Q
  | [], acc, o4, _, _, h => by
    rw [List.map_nil, List.append_nil] at h
    exact h
  | q :: L, acc, o4, hT, hl, h => by
    simp only [List.length_cons] at hl
    have e := look1 (f := f) (told := told)
    refine ⟨hT q List.mem_cons_self, ?_⟩
    rw [e]
    refine ⟨sz (n := 2) (by decide), sz (n := 2) (by decide), by have := fin_big (n := acc.length) (by omega); omega, ?_⟩
    refine lc1 L (acc ++ [vp f told (n, q)]) _ (fun z hz => hT z (List.mem_cons_of_mem _ hz)) (by simp; omega) ?_
    rw [List.append_assoc]
    exact h
def wv (c : Ca) (d : D) : List D :=
  [(0, c.BadWord), (0, c.BadWord), (1, c.NoKeeper), (1, c.NoKeeper)].map (vp "thing" d) ++ [(2, c.BadRule), (2, c.BadRule), (3, c.BadWeaving), (3, c.BadWeaving), (4, c.BadLot), (4, c.BadLot)].map (vp "at" d) ++
  [(5, c.BadKeeper), (5, c.BadKeeper), (6, c.BadScheme), (6, c.BadScheme)].map (vp "part" d) ++ [(7, c.BadIll), (7, c.BadIll), (8, c.NotSafe), (8, c.NotSafe)].map (vp "ill" d) ++ [c.BadView, c.BadView].map (fun C => vp "view" d (9, C)) ++
  [c.BadShape, c.BadShape].map (fun C => vp "shape" d (10, C)) ++ [c.Ringed, c.Ringed].map (fun C => vp "ring" d (11, C)) ++ [c.TooMany, c.TooMany].map (fun C => vp "most" d (12, C)) ++ [c.BadRow, c.BadRow].map (fun C => vp "row" d (13, C)) ++
  [c.BadText, c.BadText].map (fun C => vp "line" d (14, C))
def S__law_with_values (c : Ca) : DSp := fun args Q => ∃ d, args = [.fr d] ∧ Q (.nw (.ls (wv c d))) [.un]
noncomputable def w14 (c : Ca) : DTS := (dRet ((dBin gAdd ((dVar 2)) ((dLc (iSeq ((dLst (dCons ((dExc c.BadText "line" ((dFrz (dVar 0))))) (dCons ((dExc c.BadText "line" ((dFrz (dVar 0))))) dNil))))) (hName 4) (dYes) ((dTup (dCons (dC (.int 14)) (dCons ((dTup (dCons ((dFrz (dVar 4))) (dCons ((dXf (fun C => C = c.BadText) "line" ((dVar 4)))) dNil)))) dNil)))) [4])))))
noncomputable def w13 (c : Ca) : DTS := dSeq (dSet 1 2 ((dBin gAdd ((dVar 2)) ((dLc (iSeq ((dLst (dCons ((dExc c.BadRow "row" ((dFrz (dVar 0))))) (dCons ((dExc c.BadRow "row" ((dFrz (dVar 0))))) dNil))))) (hName 4) (dYes) ((dTup (dCons (dC (.int 13)) (dCons ((dTup (dCons ((dFrz (dVar 4))) (dCons ((dXf (fun C => C = c.BadRow) "row" ((dVar 4)))) dNil)))) dNil)))) [4]))))) (w14 c)
noncomputable def w12 (c : Ca) : DTS := dSeq (dSet 1 2 ((dBin gAdd ((dVar 2)) ((dLc (iSeq ((dLst (dCons ((dExc c.TooMany "most" ((dFrz (dVar 0))))) (dCons ((dExc c.TooMany "most" ((dFrz (dVar 0))))) dNil))))) (hName 4) (dYes) ((dTup (dCons (dC (.int 12)) (dCons ((dTup (dCons ((dFrz (dVar 4))) (dCons ((dXf (fun C => C = c.TooMany) "most" ((dVar 4)))) dNil)))) dNil)))) [4]))))) (w13 c)
noncomputable def w11 (c : Ca) : DTS := dSeq (dSet 1 2 ((dBin gAdd ((dVar 2)) ((dLc (iSeq ((dLst (dCons ((dExc c.Ringed "ring" ((dFrz (dVar 0))))) (dCons ((dExc c.Ringed "ring" ((dFrz (dVar 0))))) dNil))))) (hName 4) (dYes) ((dTup (dCons (dC (.int 11)) (dCons ((dTup (dCons ((dFrz (dVar 4))) (dCons ((dXf (fun C => C = c.Ringed) "ring" ((dVar 4)))) dNil)))) dNil)))) [4]))))) (w12 c)
noncomputable def w10 (c : Ca) : DTS := dSeq (dSet 1 2 ((dBin gAdd ((dVar 2)) ((dLc (iSeq ((dLst (dCons ((dExc c.BadShape "shape" ((dFrz (dVar 0))))) (dCons ((dExc c.BadShape "shape" ((dFrz (dVar 0))))) dNil))))) (hName 4) (dYes) ((dTup (dCons (dC (.int 10)) (dCons ((dTup (dCons ((dFrz (dVar 4))) (dCons ((dXf (fun C => C = c.BadShape) "shape" ((dVar 4)))) dNil)))) dNil)))) [4]))))) (w11 c)
noncomputable def w9 (c : Ca) : DTS := dSeq (dSet 1 2 ((dBin gAdd ((dVar 2)) ((dLc (iSeq ((dLst (dCons ((dExc c.BadView "view" ((dFrz (dVar 0))))) (dCons ((dExc c.BadView "view" ((dFrz (dVar 0))))) dNil))))) (hName 4) (dYes) ((dTup (dCons (dC (.int 9)) (dCons ((dTup (dCons ((dFrz (dVar 4))) (dCons ((dXf (fun C => C = c.BadView) "view" ((dVar 4)))) dNil)))) dNil)))) [4]))))) (w10 c)
noncomputable def w8 (c : Ca) : DTS := dSeq (dSet 1 2 ((dBin gAdd ((dVar 2)) ((dLc (iSeq ((dFrz (dVar 1)))) (hTup 2 (hCons (hName 3) (hCons (hName 4) hNil))) (dYes) ((dTup (dCons ((dFrz (dVar 3))) (dCons ((dTup (dCons ((dFrz (dVar 4))) (dCons ((dXf (fun C => C = c.BadIll ∨ C = c.NotSafe) "ill" ((dVar 4)))) dNil)))) dNil)))) [3, 4]))))) (w9 c)
noncomputable def w7 (c : Ca) : DTS := dSeq (dSet 1 1 ((dLst (dCons ((dTup (dCons (dC (.int 7)) (dCons ((dExc c.BadIll "ill" ((dFrz (dVar 0))))) dNil)))) (dCons ((dTup (dCons (dC (.int 7)) (dCons ((dExc c.BadIll "ill" ((dFrz (dVar 0))))) dNil)))) (dCons ((dTup (dCons (dC (.int 8)) (dCons ((dExc c.NotSafe "ill" ((dFrz (dVar 0))))) dNil)))) (dCons ((dTup (dCons (dC (.int 8)) (dCons ((dExc c.NotSafe "ill" ((dFrz (dVar 0))))) dNil)))) dNil))))))) (w8 c)
noncomputable def w6 (c : Ca) : DTS := dSeq (dSet 1 2 ((dBin gAdd ((dVar 2)) ((dLc (iSeq ((dFrz (dVar 1)))) (hTup 2 (hCons (hName 3) (hCons (hName 4) hNil))) (dYes) ((dTup (dCons ((dFrz (dVar 3))) (dCons ((dTup (dCons ((dFrz (dVar 4))) (dCons ((dXf (fun C => C = c.BadKeeper ∨ C = c.BadScheme) "part" ((dVar 4)))) dNil)))) dNil)))) [3, 4]))))) (w7 c)
noncomputable def w5 (c : Ca) : DTS := dSeq (dSet 1 1 ((dLst (dCons ((dTup (dCons (dC (.int 5)) (dCons ((dExc c.BadKeeper "part" ((dFrz (dVar 0))))) dNil)))) (dCons ((dTup (dCons (dC (.int 5)) (dCons ((dExc c.BadKeeper "part" ((dFrz (dVar 0))))) dNil)))) (dCons ((dTup (dCons (dC (.int 6)) (dCons ((dExc c.BadScheme "part" ((dFrz (dVar 0))))) dNil)))) (dCons ((dTup (dCons (dC (.int 6)) (dCons ((dExc c.BadScheme "part" ((dFrz (dVar 0))))) dNil)))) dNil))))))) (w6 c)
noncomputable def w4 (c : Ca) : DTS := dSeq (dSet 1 2 ((dBin gAdd ((dVar 2)) ((dLc (iSeq ((dFrz (dVar 1)))) (hTup 2 (hCons (hName 3) (hCons (hName 4) hNil))) (dYes) ((dTup (dCons ((dFrz (dVar 3))) (dCons ((dTup (dCons ((dFrz (dVar 4))) (dCons ((dXf (fun C => C = c.BadRule ∨ C = c.BadWeaving ∨ C = c.BadLot) "at" ((dVar 4)))) dNil)))) dNil)))) [3, 4]))))) (w5 c)
noncomputable def w3 (c : Ca) : DTS := dSeq (dSet 1 1 ((dBin gAdd ((dVar 1)) ((dLst (dCons ((dTup (dCons (dC (.int 4)) (dCons ((dExc c.BadLot "at" ((dFrz (dVar 0))))) dNil)))) (dCons ((dTup (dCons (dC (.int 4)) (dCons ((dExc c.BadLot "at" ((dFrz (dVar 0))))) dNil)))) dNil))))))) (w4 c)
noncomputable def w2 (c : Ca) : DTS := dSeq (dSet 1 1 ((dLst (dCons ((dTup (dCons (dC (.int 2)) (dCons ((dExc c.BadRule "at" ((dFrz (dVar 0))))) dNil)))) (dCons ((dTup (dCons (dC (.int 2)) (dCons ((dExc c.BadRule "at" ((dFrz (dVar 0))))) dNil)))) (dCons ((dTup (dCons (dC (.int 3)) (dCons ((dExc c.BadWeaving "at" ((dFrz (dVar 0))))) dNil)))) (dCons ((dTup (dCons (dC (.int 3)) (dCons ((dExc c.BadWeaving "at" ((dFrz (dVar 0))))) dNil)))) dNil))))))) (w3 c)
noncomputable def w1 (c : Ca) : DTS := dSeq (dSet 1 2 (dLc (iSeq ((dFrz (dVar 1)))) (hTup 2 (hCons (hName 3) (hCons (hName 4) hNil))) (dYes) ((dTup (dCons ((dFrz (dVar 3))) (dCons ((dTup (dCons ((dFrz (dVar 4))) (dCons ((dXf (fun C => C = c.BadWord ∨ C = c.NoKeeper) "thing" ((dVar 4)))) dNil)))) dNil)))) [3, 4])) (w2 c)
noncomputable def w0 (c : Ca) : DTS := dSeq (dSet 1 1 ((dLst (dCons ((dTup (dCons (dC (.int 0)) (dCons ((dExc c.BadWord "thing" ((dFrz (dVar 0))))) dNil)))) (dCons ((dTup (dCons (dC (.int 0)) (dCons ((dExc c.BadWord "thing" ((dFrz (dVar 0))))) dNil)))) (dCons ((dTup (dCons (dC (.int 1)) (dCons ((dExc c.NoKeeper "thing" ((dFrz (dVar 0))))) dNil)))) (dCons ((dTup (dCons (dC (.int 1)) (dCons ((dExc c.NoKeeper "thing" ((dFrz (dVar 0))))) dNil)))) dNil))))))) (w1 c)
abbrev r__law_with_values (c : Ca) : DTS := w0 c
theorem k__law_with_values (c : Ca) : Keeps (S__law_with_values c) 1 5 (r__law_with_values c) := by
  rintro args Q h0 ⟨d, rfl, h⟩
  clear h0
  refine ⟨sz (n := 2) (by decide), sz (n := 2) (by decide), sz (n := 2) (by decide), sz (n := 2) (by decide), sz (n := 4) (by decide), by decide, ?_⟩
  refine lc2 [(0, c.BadWord), (0, c.BadWord), (1, c.NoKeeper), (1, c.NoKeeper)] [] _ _ (by simp) (show 0 + 4 ≤ 900 by decide) ?_
  refine ⟨by decide, ?_⟩
  refine ⟨sz (n := 2) (by decide), sz (n := 2) (by decide), sz (n := 2) (by decide), sz (n := 2) (by decide), sz (n := 4) (by decide), by decide, ?_⟩
  refine ⟨sz (n := 2) (by decide), sz (n := 2) (by decide), sz (n := 2) (by decide), sz (n := 6) (by decide), by decide, ?_⟩
  refine lc2 [(2, c.BadRule), (2, c.BadRule), (3, c.BadWeaving), (3, c.BadWeaving), (4, c.BadLot), (4, c.BadLot)] [] _ _ (by simp) (show 0 + 6 ≤ 900 by decide) ?_
  refine ⟨sz (n := 10) (by decide), by decide, ?_⟩
  refine ⟨sz (n := 2) (by decide), sz (n := 2) (by decide), sz (n := 2) (by decide), sz (n := 2) (by decide), sz (n := 4) (by decide), by decide, ?_⟩
  refine lc2 [(5, c.BadKeeper), (5, c.BadKeeper), (6, c.BadScheme), (6, c.BadScheme)] [] _ _ (by simp) (show 0 + 4 ≤ 900 by decide) ?_
  refine ⟨sz (n := 14) (by decide), by decide, ?_⟩
  refine ⟨sz (n := 2) (by decide), sz (n := 2) (by decide), sz (n := 2) (by decide), sz (n := 2) (by decide), sz (n := 4) (by decide), by decide, ?_⟩
  refine lc2 [(7, c.BadIll), (7, c.BadIll), (8, c.NotSafe), (8, c.NotSafe)] [] _ _ (by simp) (show 0 + 4 ≤ 900 by decide) ?_
  refine ⟨sz (n := 18) (by decide), by decide, ?_⟩
  refine ⟨sz (n := 2) (by decide), ?_⟩
  refine lc1 [c.BadView, c.BadView] [] _ (by simp) (show 0 + 2 ≤ 900 by decide) ?_
  refine ⟨sz (n := 20) (by decide), by decide, sz (n := 2) (by decide), ?_⟩
  refine lc1 [c.BadShape, c.BadShape] [] _ (by simp) (show 0 + 2 ≤ 900 by decide) ?_
  refine ⟨sz (n := 22) (by decide), by decide, sz (n := 2) (by decide), ?_⟩
  refine lc1 [c.Ringed, c.Ringed] [] _ (by simp) (show 0 + 2 ≤ 900 by decide) ?_
  refine ⟨sz (n := 24) (by decide), by decide, sz (n := 2) (by decide), ?_⟩
  refine lc1 [c.TooMany, c.TooMany] [] _ (by simp) (show 0 + 2 ≤ 900 by decide) ?_
  refine ⟨sz (n := 26) (by decide), by decide, sz (n := 2) (by decide), ?_⟩
  refine lc1 [c.BadRow, c.BadRow] [] _ (by simp) (show 0 + 2 ≤ 900 by decide) ?_
  refine ⟨sz (n := 28) (by decide), by decide, sz (n := 2) (by decide), ?_⟩
  refine lc1 [c.BadText, c.BadText] [] _ (by simp) (show 0 + 2 ≤ 900 by decide) ?_
  exact ⟨sz (n := 30) (by decide), h⟩
def S_law : DSp := fun args Q => ∃ ns : List Int, args = [.fr (.scr ns)] ∧ ns.length ≤ 63 ∧ Q (.dat (.bl true)) [.un]
noncomputable def l2 (c : Ca) : DTS := (dRet (dC (.bl true)))
noncomputable def lb5 (c : Ca) : DTS := (dIf ((dOrT ((dTst (dBin (gIn false) (dC (.bl true)) ((dCall 1 (S__law_marks_of c) (dCons ((dFrz (dVar 8))) dNil)))))) ((dNotT ((dTst ((dCB (gIsE (xJ c)) (dCons ((dVar 8)) (dCons ((dC (.ty "ValueError"))) dNil)))))))))) (dRet (dC (.bl false))) dNext)
noncomputable def lb4 (c : Ca) : DTS := dSeq (dSet 1 8 ((dExc0 c.KeeperError ((dFrz (dVar 6)))))) (lb5 c)
noncomputable def lc0 (c : Ca) : DTS := (dIf ((dNotT ((dTst ((dCall 2 (S__law_is_alone c) (dCons ((dFrz (dVar 7))) (dCons ((dFrz (dVar 4))) dNil)))))))) (dRet (dC (.bl false))) dNext)
noncomputable def lb3 (c : Ca) : DTS := dSeq (dFor (iSeq ((dLst (dCons ((dTup (dCons (dC (.int 15)) (dCons ((dExc0 c.BadState ((dFrz (dVar 6))))) dNil)))) (dCons ((dTup (dCons (dC (.int 16)) (dCons ((dExc0 c.BadNumber ((dFrz (dVar 6))))) dNil)))) (dCons ((dTup (dCons (dC (.int 17)) (dCons ((dExc0 c.NothingLeft ((dFrz (dVar 6))))) dNil)))) dNil)))))) (hTup 2 (hCons (hName 4) (hCons (hName 7) hNil))) (lc0 c)) (lb4 c)
noncomputable def lb2 (c : Ca) : DTS := dSeq (dSet 1 6 (dFrz (dCall 2 S__law_pick (dCons ((dVar 1)) (dCons ((dLst (dCons (dC (.str "")) (dCons (dC (.str "a")) (dCons (dC (.str "no state")) (dCons (dC (.str "x y")) dNil)))))) dNil))))) (lb3 c)
noncomputable def ld0 (c : Ca) : DTS := (dIf ((dOrT ((dNotT ((dTst ((dCall 2 (S__law_is_alone c) (dCons ((dBin gIx ((dVar 5)) (dC (.int 0)))) (dCons ((dFrz (dVar 4))) dNil)))))))) ((dTst (dBin (gEq true) ((dCB gRepr (dCons ((dBin gIx ((dVar 5)) (dC (.int 1)))) dNil))) ((dCB gRepr (dCons ((dVar 3)) dNil)))))))) (dRet (dC (.bl false))) dNext)
noncomputable def lb1 (c : Ca) : DTS := dSeq (dFor (iSeq ((dCall 1 (S__law_with_values c) (dCons ((dFrz (dVar 3))) dNil)))) (hTup 2 (hCons (hName 4) (hCons (hName 5) hNil))) (ld0 c)) (lb2 c)
noncomputable def lb0 (c : Ca) : DTS := dSeq (dSet 1 3 (dFrz (dCall 1 S__law_any (dCons ((dVar 1)) dNil)))) (lb1 c)
noncomputable def l1 (c : Ca) : DTS := dSeq (dFor (iRange1 (dCons ((dBin gAdd (dC (.int 2)) ((dCB gMin2 (dCons ((dCB gLen (dCons ((dVar 0)) dNil))) (dCons (dC (.int 10)) dNil)))))) dNil)) (hName 2) (lb0 c)) (l2 c)
noncomputable def l0 (c : Ca) : DTS := dSeq (dSet 1 1 ((dCall 1 S__law_begun (dCons ((dFrz (dVar 0))) dNil)))) (l1 c)
noncomputable abbrev r_law (c : Ca) : DTS := l0 c
theorem str_ne {a : Str} {P : Rs → Prop} (h : P (.dat (.bl false))) : gEq true (.str a) (.str a) P := by
  show P (.dat (.bl (true ^^ decide (V.str a = V.str a))))
  rw [decide_eq_true rfl]
  exact h
def It (c : Ca) (d x : D) : Prop := ∃ (i : Nat) (C : Addr) (f : Str), x = vp f d ((i : Int), C) ∧ i < 18 ∧ (xcs c)[i]? = some C
theorem wv_it (c : Ca) (d : D) : ∀ x ∈ wv c d, It c d x := by
  have one : ∀ (i : Nat) (C : Addr) (f : Str), i < 18 → (xcs c)[i]? = some C → It c d (vp f d ((i : Int), C)) := fun i C f h1 h2 => ⟨i, C, f, rfl, h1, h2⟩
  intro x hx
  simp only [wv, List.mem_append, List.mem_map, List.mem_cons, List.not_mem_nil, or_false] at hx
  rcases hx with ((((((((⟨q, hq, rfl⟩ | ⟨q, hq, rfl⟩) | ⟨q, hq, rfl⟩) | ⟨q, hq, rfl⟩) | ⟨q, hq, rfl⟩) | ⟨q, hq, rfl⟩) | ⟨q, hq, rfl⟩) | ⟨q, hq, rfl⟩) | ⟨q, hq, rfl⟩) | ⟨q, hq, rfl⟩
  · rcases hq with rfl | rfl | rfl | rfl
    · exact one 0 _ _ (by decide) rfl
    · exact one 0 _ _ (by decide) rfl
    · exact one 1 _ _ (by decide) rfl
    · exact one 1 _ _ (by decide) rfl
  · rcases hq with rfl | rfl | rfl | rfl | rfl | rfl
    · exact one 2 _ _ (by decide) rfl
    · exact one 2 _ _ (by decide) rfl
    · exact one 3 _ _ (by decide) rfl
    · exact one 3 _ _ (by decide) rfl
    · exact one 4 _ _ (by decide) rfl
    · exact one 4 _ _ (by decide) rfl
  · rcases hq with rfl | rfl | rfl | rfl
    · exact one 5 _ _ (by decide) rfl
    · exact one 5 _ _ (by decide) rfl
    · exact one 6 _ _ (by decide) rfl
    · exact one 6 _ _ (by decide) rfl
  · rcases hq with rfl | rfl | rfl | rfl
    · exact one 7 _ _ (by decide) rfl
    · exact one 7 _ _ (by decide) rfl
    · exact one 8 _ _ (by decide) rfl
    · exact one 8 _ _ (by decide) rfl
  · rcases hq with rfl | rfl <;> exact one 9 _ _ (by decide) rfl
  · rcases hq with rfl | rfl <;> exact one 10 _ _ (by decide) rfl
  · rcases hq with rfl | rfl <;> exact one 11 _ _ (by decide) rfl
  · rcases hq with rfl | rfl <;> exact one 12 _ _ (by decide) rfl
  · rcases hq with rfl | rfl <;> exact one 13 _ _ (by decide) rfl
  · rcases hq with rfl | rfl <;> exact one 14 _ _ (by decide) rfl
section
variable {c : Ca} {E : DEnds} {d : D} {b : Nat} {x0 x2 s4 s5 s6 s7 s8 : Sl}
theorem ld0_ok {i : Nat} {C : Addr} {f : Str} (hs : ShowOk d) (hi : i < 18) (hC : (xcs c)[i]? = some C)
    (h : E.nx [x0, .rs (.st b), x2, .fr d, .fr (.int i), .fr (.tup [.exc C [(f, d)], d]), s6, s7, s8]) : ld0 c E [x0, .rs (.st b), x2, .fr d, .fr (.int i), .fr (.tup [.exc C [(f, d)], d]), s6, s7, s8] := by
  refine ⟨rfl, rfl, i, C, _, rfl, hi, hC, ?_⟩
  refine ⟨d, rfl, hs, d, rfl, hs, ?_⟩
  exact W2_mk (x := .str (shown d)) (y := .str (shown d)) rfl rfl (str_ne h)
theorem it_loop (hs : ShowOk d) : ∀ (xs : List D) (s4 s5 : Sl), (∀ x ∈ xs, It c d x) → (∀ s4 s5, E.nx [x0, .rs (.st b), x2, .fr d, s4, s5, s6, s7, s8]) →
    dForL (hTup 2 (hCons (hName 4) (hCons (hName 5) hNil))) (ld0 c) E xs [x0, .rs (.st b), x2, .fr d, s4, s5, s6, s7, s8]
  | [], s4, s5, _, h => h s4 s5
  | x :: xs, s4, s5, hx, h => by
    obtain ⟨i, C, f, rfl, hi, hC⟩ := hx x List.mem_cons_self
    refine ⟨rfl, rfl, ?_⟩
    refine ld0_ok hs hi hC ?_
    exact it_loop hs xs _ _ (fun y hy => hx y (List.mem_cons_of_mem _ hy)) h
theorem lc0_ok {i : Nat} {C : Addr} {fs : List (Str × D)} {s3 : Sl} (hi : i < 18) (hC : (xcs c)[i]? = some C)
    (h : E.nx [x0, .rs (.st b), x2, s3, .fr (.int i), s5, s6, .fr (.exc C fs), s8]) : lc0 c E [x0, .rs (.st b), x2, s3, .fr (.int i), s5, s6, .fr (.exc C fs), s8] := by
  refine ⟨rfl, rfl, i, C, _, rfl, hi, hC, ?_⟩
  exact h
theorem lb5_ok {s3 s6 : Sl} (h : E.nx [x0, .rs (.st b), x2, s3, s4, s5, s6, s7, .fr (.exc c.KeeperError [])]) : lb5 c E [x0, .rs (.st b), x2, s3, s4, s5, s6, s7, .fr (.exc c.KeeperError [])] := by
  refine ⟨rfl, rfl, 18, c.KeeperError, _, rfl, rfl, ?_⟩
  refine ⟨true, ⟨18, 19, rfl, rfl, by simp [xtab]⟩, ?_⟩
  exact h
theorem lb2_ok {s3 : Sl} (hb : 1 ≤ b) (h : ∀ b' s4 s5 s6 s7 s8, b ≤ b' + 1 → E.nx [x0, .rs (.st b'), x2, s3, s4, s5, s6, s7, s8]) : lb2 c E [x0, .rs (.st b), x2, s3, s4, s5, s6, s7, s8] := by
  refine ⟨sz (n := 4) (by decide), rfl, rfl, b, .lst [.str "", .str "a", .str "no state", .str "x y"], [.str "", .str "a", .str "no state", .str "x y"], rfl, rfl, hb, by simp, by decide, fun x b' hx hb' => ?_⟩
  refine ⟨sz (n := 2) (by decide), sz (n := 2) (by decide), sz (n := 2) (by decide), sz (n := 3) (by decide), ?_⟩
  refine ⟨rfl, rfl, ?_⟩
  refine lc0_ok (i := 15) (by decide) rfl ?_
  refine ⟨rfl, rfl, ?_⟩
  refine lc0_ok (i := 16) (by decide) rfl ?_
  refine ⟨rfl, rfl, ?_⟩
  refine lc0_ok (i := 17) (by decide) rfl ?_
  refine lb5_ok ?_
  exact h _ _ _ _ _ _ hb'
theorem lb0_ok {s3 : Sl} (hb : 2 ≤ b) (h : ∀ b' s3 s4 s5 s6 s7 s8, b ≤ b' + 2 → E.nx [x0, .rs (.st b'), x2, s3, s4, s5, s6, s7, s8]) : lb0 c E [x0, .rs (.st b), x2, s3, s4, s5, s6, s7, s8] := by
  refine ⟨rfl, rfl, b, rfl, by omega, fun d b1 hd hb1 => ?_⟩
  refine ⟨rfl, rfl, d, rfl, ?_⟩
  refine it_loop (any_show hd) _ _ _ (wv_it c d) fun s4 s5 => ?_
  exact lb2_ok (by omega) fun b' s4 s5 s6 s7 s8 hb' => h b' _ _ _ _ _ _ (by omega)
end
theorem law_loop {c : Ca} {E : DEnds} {x0 : Sl} : ∀ (xs : List D) (b : Nat) (s2 s3 s4 s5 s6 s7 s8 : Sl), 2 * xs.length ≤ b → (∀ b' s2 s3 s4 s5 s6 s7 s8, E.nx [x0, .rs (.st b'), s2, s3, s4, s5, s6, s7, s8]) →
    dForL (hName 2) (lb0 c) E xs [x0, .rs (.st b), s2, s3, s4, s5, s6, s7, s8]
  | [], b, s2, s3, s4, s5, s6, s7, s8, _, h => h b s2 s3 s4 s5 s6 s7 s8
  | x :: xs, b, s2, s3, s4, s5, s6, s7, s8, hb, h => by
    simp only [List.length_cons] at hb
    refine lb0_ok (x2 := .fr x) (by omega) fun b' s3 s4 s5 s6 s7 s8 hb' => ?_
    exact law_loop xs b' _ _ _ _ _ _ _ (by omega) h
theorem k_law (c : Ca) : Keeps S_law 1 9 (r_law c) := by
  rintro args Q h0 ⟨ns, rfl, hl, h⟩
  clear h0
  refine ⟨rfl, rfl, ns, rfl, hl, ?_⟩
  have h40 : (if (10 : Int) < (ns.length : Int) then (10 : Int) else (ns.length : Int)) ≤ 10 := by split <;> omega
  have h00 : 0 ≤ (if (10 : Int) < (ns.length : Int) then (10 : Int) else (ns.length : Int)) := by split <;> omega
  have two62 : (2 : Int) ^ 62 = 4611686018427387904 := by decide
  refine ⟨by decide, ?_⟩
  refine ⟨by omega, by omega, ?_⟩
  refine law_loop _ _ _ _ _ _ _ _ _ ?_ fun b' s2 s3 s4 s5 s6 s7 s8 => ?_
  · rw [rangeD_len]
    omega
  exact h
theorem law_true (ns : List Int) (hl : ns.length ≤ 63) : S_law [.fr (.scr ns)] fun r _ => r = .dat (.bl true) := ⟨ns, rfl, hl, rfl⟩
end Lk01
namespace Lk01
end Lk01
namespace Lk01
open PySem PySem.Spec PyProof.Rows L2 TL
def topS (i : Nat) : Stmt := PySem.Challenge.pw_latekeepers_k01_errors_apart.main.body.getD i (.Pass ⟨0, 0, 0, 0⟩)
abbrev s__law_begun : Stmt := topS 21
theorem sc__law_begun : FnScope ["_law_script", "_law_large", "_law_cell"] ["_law_script"] (defScope s__law_begun) := ⟨rfl, rfl, rfl, by decide +kernel, rfl, by decide +kernel, by decide +kernel⟩
abbrev s__law_mixed : Stmt := topS 22
theorem sc__law_mixed : FnScope ["_law_state", "_law_found", "_law_prime", "_law_blend", "_law_cell"] ["_law_state"] (defScope s__law_mixed) := ⟨rfl, rfl, rfl, by decide +kernel, rfl, by decide +kernel, by decide +kernel⟩
abbrev s__law_take : Stmt := topS 23
theorem sc__law_take : FnScope ["_law_state", "_law_size", "_law_found"] ["_law_state", "_law_size"] (defScope s__law_take) := ⟨rfl, rfl, rfl, by decide +kernel, rfl, by decide +kernel, by decide +kernel⟩
abbrev s__law_pick : Stmt := topS 24
theorem sc__law_pick : FnScope ["_law_state", "_law_some"] ["_law_state", "_law_some"] (defScope s__law_pick) := ⟨rfl, rfl, rfl, by decide +kernel, rfl, by decide +kernel, by decide +kernel⟩
abbrev s__law_any : Stmt := topS 25
theorem sc__law_any : FnScope ["_law_state", "_law_some"] ["_law_state"] (defScope s__law_any) := ⟨rfl, rfl, rfl, by decide +kernel, rfl, by decide +kernel, by decide +kernel⟩
abbrev s__law_with_values : Stmt := topS 26
theorem sc__law_with_values : FnScope ["_law_told", "_law_found", "_law_some", "_law_place", "_law_error"] ["_law_told"] (defScope s__law_with_values) := ⟨rfl, rfl, rfl, by decide +kernel, rfl, by decide +kernel, by decide +kernel⟩
abbrev s__law_marks_of : Stmt := topS 27
theorem sc__law_marks_of : FnScope ["_law_error", "_law_found"] ["_law_error"] (defScope s__law_marks_of) := ⟨rfl, rfl, rfl, by decide +kernel, rfl, by decide +kernel, by decide +kernel⟩
abbrev s__law_is_alone : Stmt := topS 28
theorem sc__law_is_alone : FnScope ["_law_error", "_law_place", "_law_due", "_law_spot"] ["_law_error", "_law_place"] (defScope s__law_is_alone) := ⟨rfl, rfl, rfl, by decide +kernel, rfl, by decide +kernel, by decide +kernel⟩
abbrev s_law : Stmt := topS 29
theorem sc_law : FnScope ["_law_script", "_law_state", "_law_turn", "_law_told", "_law_place", "_law_pair", "_law_words", "_law_error", "_law_plain"] ["_law_script"] (defScope s_law) := ⟨rfl, rfl, rfl, by decide +kernel, rfl, by decide +kernel, by decide +kernel⟩
abbrev s_BadIll___init__ : Stmt := inClass (topS 8) 0
theorem sc_BadIll___init__ : FnScope ["self", "ill"] ["self", "ill"] (defScope s_BadIll___init__) := ⟨rfl, rfl, rfl, by decide +kernel, rfl, by decide +kernel, by decide +kernel⟩
abbrev s_BadKeeper___init__ : Stmt := inClass (topS 4) 0
theorem sc_BadKeeper___init__ : FnScope ["self", "part"] ["self", "part"] (defScope s_BadKeeper___init__) := ⟨rfl, rfl, rfl, by decide +kernel, rfl, by decide +kernel, by decide +kernel⟩
abbrev s_BadLot___init__ : Stmt := inClass (topS 11) 0
theorem sc_BadLot___init__ : FnScope ["self", "at"] ["self", "at"] (defScope s_BadLot___init__) := ⟨rfl, rfl, rfl, by decide +kernel, rfl, by decide +kernel, by decide +kernel⟩
abbrev s_BadRow___init__ : Stmt := inClass (topS 17) 0
theorem sc_BadRow___init__ : FnScope ["self", "row"] ["self", "row"] (defScope s_BadRow___init__) := ⟨rfl, rfl, rfl, by decide +kernel, rfl, by decide +kernel, by decide +kernel⟩
abbrev s_BadRule___init__ : Stmt := inClass (topS 5) 0
theorem sc_BadRule___init__ : FnScope ["self", "at"] ["self", "at"] (defScope s_BadRule___init__) := ⟨rfl, rfl, rfl, by decide +kernel, rfl, by decide +kernel, by decide +kernel⟩
abbrev s_BadScheme___init__ : Stmt := inClass (topS 6) 0
theorem sc_BadScheme___init__ : FnScope ["self", "part"] ["self", "part"] (defScope s_BadScheme___init__) := ⟨rfl, rfl, rfl, by decide +kernel, rfl, by decide +kernel, by decide +kernel⟩
abbrev s_BadShape___init__ : Stmt := inClass (topS 10) 0
theorem sc_BadShape___init__ : FnScope ["self", "shape"] ["self", "shape"] (defScope s_BadShape___init__) := ⟨rfl, rfl, rfl, by decide +kernel, rfl, by decide +kernel, by decide +kernel⟩
abbrev s_BadText___init__ : Stmt := inClass (topS 19) 0
theorem sc_BadText___init__ : FnScope ["self", "line"] ["self", "line"] (defScope s_BadText___init__) := ⟨rfl, rfl, rfl, by decide +kernel, rfl, by decide +kernel, by decide +kernel⟩
abbrev s_BadView___init__ : Stmt := inClass (topS 3) 0
theorem sc_BadView___init__ : FnScope ["self", "view"] ["self", "view"] (defScope s_BadView___init__) := ⟨rfl, rfl, rfl, by decide +kernel, rfl, by decide +kernel, by decide +kernel⟩
abbrev s_BadWeaving___init__ : Stmt := inClass (topS 9) 0
theorem sc_BadWeaving___init__ : FnScope ["self", "at"] ["self", "at"] (defScope s_BadWeaving___init__) := ⟨rfl, rfl, rfl, by decide +kernel, rfl, by decide +kernel, by decide +kernel⟩
abbrev s_BadWord___init__ : Stmt := inClass (topS 2) 0
theorem sc_BadWord___init__ : FnScope ["self", "thing"] ["self", "thing"] (defScope s_BadWord___init__) := ⟨rfl, rfl, rfl, by decide +kernel, rfl, by decide +kernel, by decide +kernel⟩
abbrev s_NoKeeper___init__ : Stmt := inClass (topS 7) 0
theorem sc_NoKeeper___init__ : FnScope ["self", "thing"] ["self", "thing"] (defScope s_NoKeeper___init__) := ⟨rfl, rfl, rfl, by decide +kernel, rfl, by decide +kernel, by decide +kernel⟩
abbrev s_NotSafe___init__ : Stmt := inClass (topS 13) 0
theorem sc_NotSafe___init__ : FnScope ["self", "ill"] ["self", "ill"] (defScope s_NotSafe___init__) := ⟨rfl, rfl, rfl, by decide +kernel, rfl, by decide +kernel, by decide +kernel⟩
abbrev s_Ringed___init__ : Stmt := inClass (topS 14) 0
theorem sc_Ringed___init__ : FnScope ["self", "ring"] ["self", "ring"] (defScope s_Ringed___init__) := ⟨rfl, rfl, rfl, by decide +kernel, rfl, by decide +kernel, by decide +kernel⟩
abbrev s_TooMany___init__ : Stmt := inClass (topS 16) 0
theorem sc_TooMany___init__ : FnScope ["self", "most"] ["self", "most"] (defScope s_TooMany___init__) := ⟨rfl, rfl, rfl, by decide +kernel, rfl, by decide +kernel, by decide +kernel⟩
structure Top (K : PySem.W.Frag) (mg : Str → Option Value) where
  ca : Ca
  g_BadWord : mg "BadWord" = some (.ref ca.BadWord)
  g_NoKeeper : mg "NoKeeper" = some (.ref ca.NoKeeper)
  g_BadRule : mg "BadRule" = some (.ref ca.BadRule)
  g_BadWeaving : mg "BadWeaving" = some (.ref ca.BadWeaving)
  g_BadLot : mg "BadLot" = some (.ref ca.BadLot)
  g_BadKeeper : mg "BadKeeper" = some (.ref ca.BadKeeper)
  g_BadScheme : mg "BadScheme" = some (.ref ca.BadScheme)
  g_BadIll : mg "BadIll" = some (.ref ca.BadIll)
  g_NotSafe : mg "NotSafe" = some (.ref ca.NotSafe)
  g_BadView : mg "BadView" = some (.ref ca.BadView)
  g_BadShape : mg "BadShape" = some (.ref ca.BadShape)
  g_Ringed : mg "Ringed" = some (.ref ca.Ringed)
  g_TooMany : mg "TooMany" = some (.ref ca.TooMany)
  g_BadRow : mg "BadRow" = some (.ref ca.BadRow)
  g_BadText : mg "BadText" = some (.ref ca.BadText)
  g_BadState : mg "BadState" = some (.ref ca.BadState)
  g_BadNumber : mg "BadNumber" = some (.ref ca.BadNumber)
  g_NothingLeft : mg "NothingLeft" = some (.ref ca.NothingLeft)
  g_KeeperError : mg "KeeperError" = some (.ref ca.KeeperError)
  ox_BadIll : OexC K ca.BadIll
  f_BadIll___init__ : Addr
  d_BadIll___init__ : FuncData
  F_BadIll___init__ : Fun K "__init__" "BadIll.__init__" s_BadIll___init__ f_BadIll___init__ d_BadIll___init__
  bi_BadIll : Binds K d_BadIll___init__ ["self", "ill"] []
  ic_BadIll : PySem.W.findIn K (.ref ca.BadIll) "__init__" = some (some (.ref f_BadIll___init__)) ∧ PySem.W.typeIn K (.ref f_BadIll___init__) = some (.type "function")
  no_BadIll_ill : PySem.W.findIn K (.ref ca.BadIll) "ill" = some none
  ox_BadKeeper : OexC K ca.BadKeeper
  f_BadKeeper___init__ : Addr
  d_BadKeeper___init__ : FuncData
  F_BadKeeper___init__ : Fun K "__init__" "BadKeeper.__init__" s_BadKeeper___init__ f_BadKeeper___init__ d_BadKeeper___init__
  bi_BadKeeper : Binds K d_BadKeeper___init__ ["self", "part"] []
  ic_BadKeeper : PySem.W.findIn K (.ref ca.BadKeeper) "__init__" = some (some (.ref f_BadKeeper___init__)) ∧ PySem.W.typeIn K (.ref f_BadKeeper___init__) = some (.type "function")
  no_BadKeeper_part : PySem.W.findIn K (.ref ca.BadKeeper) "part" = some none
  ox_BadLot : OexC K ca.BadLot
  f_BadLot___init__ : Addr
  d_BadLot___init__ : FuncData
  F_BadLot___init__ : Fun K "__init__" "BadLot.__init__" s_BadLot___init__ f_BadLot___init__ d_BadLot___init__
  bi_BadLot : Binds K d_BadLot___init__ ["self", "at"] []
  ic_BadLot : PySem.W.findIn K (.ref ca.BadLot) "__init__" = some (some (.ref f_BadLot___init__)) ∧ PySem.W.typeIn K (.ref f_BadLot___init__) = some (.type "function")
  no_BadLot_at : PySem.W.findIn K (.ref ca.BadLot) "at" = some none
  ox_BadRow : OexC K ca.BadRow
  f_BadRow___init__ : Addr
  d_BadRow___init__ : FuncData
  F_BadRow___init__ : Fun K "__init__" "BadRow.__init__" s_BadRow___init__ f_BadRow___init__ d_BadRow___init__
  bi_BadRow : Binds K d_BadRow___init__ ["self", "row"] []
  ic_BadRow : PySem.W.findIn K (.ref ca.BadRow) "__init__" = some (some (.ref f_BadRow___init__)) ∧ PySem.W.typeIn K (.ref f_BadRow___init__) = some (.type "function")
  no_BadRow_row : PySem.W.findIn K (.ref ca.BadRow) "row" = some none
  ox_BadRule : OexC K ca.BadRule
  f_BadRule___init__ : Addr
  d_BadRule___init__ : FuncData
  F_BadRule___init__ : Fun K "__init__" "BadRule.__init__" s_BadRule___init__ f_BadRule___init__ d_BadRule___init__
  bi_BadRule : Binds K d_BadRule___init__ ["self", "at"] []
  ic_BadRule : PySem.W.findIn K (.ref ca.BadRule) "__init__" = some (some (.ref f_BadRule___init__)) ∧ PySem.W.typeIn K (.ref f_BadRule___init__) = some (.type "function")
  no_BadRule_at : PySem.W.findIn K (.ref ca.BadRule) "at" = some none
  ox_BadScheme : OexC K ca.BadScheme
  f_BadScheme___init__ : Addr
  d_BadScheme___init__ : FuncData
  F_BadScheme___init__ : Fun K "__init__" "BadScheme.__init__" s_BadScheme___init__ f_BadScheme___init__ d_BadScheme___init__
  bi_BadScheme : Binds K d_BadScheme___init__ ["self", "part"] []
  ic_BadScheme : PySem.W.findIn K (.ref ca.BadScheme) "__init__" = some (some (.ref f_BadScheme___init__)) ∧ PySem.W.typeIn K (.ref f_BadScheme___init__) = some (.type "function")
  no_BadScheme_part : PySem.W.findIn K (.ref ca.BadScheme) "part" = some none
  ox_BadShape : OexC K ca.BadShape
  f_BadShape___init__ : Addr
  d_BadShape___init__ : FuncData
  F_BadShape___init__ : Fun K "__init__" "BadShape.__init__" s_BadShape___init__ f_BadShape___init__ d_BadShape___init__
  bi_BadShape : Binds K d_BadShape___init__ ["self", "shape"] []
  ic_BadShape : PySem.W.findIn K (.ref ca.BadShape) "__init__" = some (some (.ref f_BadShape___init__)) ∧ PySem.W.typeIn K (.ref f_BadShape___init__) = some (.type "function")
  no_BadShape_shape : PySem.W.findIn K (.ref ca.BadShape) "shape" = some none
  ox_BadText : OexC K ca.BadText
  f_BadText___init__ : Addr
  d_BadText___init__ : FuncData
  F_BadText___init__ : Fun K "__init__" "BadText.__init__" s_BadText___init__ f_BadText___init__ d_BadText___init__
  bi_BadText : Binds K d_BadText___init__ ["self", "line"] []
  ic_BadText : PySem.W.findIn K (.ref ca.BadText) "__init__" = some (some (.ref f_BadText___init__)) ∧ PySem.W.typeIn K (.ref f_BadText___init__) = some (.type "function")
  no_BadText_line : PySem.W.findIn K (.ref ca.BadText) "line" = some none
  ox_BadView : OexC K ca.BadView
  f_BadView___init__ : Addr
  d_BadView___init__ : FuncData
  F_BadView___init__ : Fun K "__init__" "BadView.__init__" s_BadView___init__ f_BadView___init__ d_BadView___init__
  bi_BadView : Binds K d_BadView___init__ ["self", "view"] []
  ic_BadView : PySem.W.findIn K (.ref ca.BadView) "__init__" = some (some (.ref f_BadView___init__)) ∧ PySem.W.typeIn K (.ref f_BadView___init__) = some (.type "function")
  no_BadView_view : PySem.W.findIn K (.ref ca.BadView) "view" = some none
  ox_BadWeaving : OexC K ca.BadWeaving
  f_BadWeaving___init__ : Addr
  d_BadWeaving___init__ : FuncData
  F_BadWeaving___init__ : Fun K "__init__" "BadWeaving.__init__" s_BadWeaving___init__ f_BadWeaving___init__ d_BadWeaving___init__
  bi_BadWeaving : Binds K d_BadWeaving___init__ ["self", "at"] []
  ic_BadWeaving : PySem.W.findIn K (.ref ca.BadWeaving) "__init__" = some (some (.ref f_BadWeaving___init__)) ∧ PySem.W.typeIn K (.ref f_BadWeaving___init__) = some (.type "function")
  no_BadWeaving_at : PySem.W.findIn K (.ref ca.BadWeaving) "at" = some none
  ox_BadWord : OexC K ca.BadWord
  f_BadWord___init__ : Addr
  d_BadWord___init__ : FuncData
  F_BadWord___init__ : Fun K "__init__" "BadWord.__init__" s_BadWord___init__ f_BadWord___init__ d_BadWord___init__
  bi_BadWord : Binds K d_BadWord___init__ ["self", "thing"] []
  ic_BadWord : PySem.W.findIn K (.ref ca.BadWord) "__init__" = some (some (.ref f_BadWord___init__)) ∧ PySem.W.typeIn K (.ref f_BadWord___init__) = some (.type "function")
  no_BadWord_thing : PySem.W.findIn K (.ref ca.BadWord) "thing" = some none
  ox_NoKeeper : OexC K ca.NoKeeper
  f_NoKeeper___init__ : Addr
  d_NoKeeper___init__ : FuncData
  F_NoKeeper___init__ : Fun K "__init__" "NoKeeper.__init__" s_NoKeeper___init__ f_NoKeeper___init__ d_NoKeeper___init__
  bi_NoKeeper : Binds K d_NoKeeper___init__ ["self", "thing"] []
  ic_NoKeeper : PySem.W.findIn K (.ref ca.NoKeeper) "__init__" = some (some (.ref f_NoKeeper___init__)) ∧ PySem.W.typeIn K (.ref f_NoKeeper___init__) = some (.type "function")
  no_NoKeeper_thing : PySem.W.findIn K (.ref ca.NoKeeper) "thing" = some none
  ox_NotSafe : OexC K ca.NotSafe
  f_NotSafe___init__ : Addr
  d_NotSafe___init__ : FuncData
  F_NotSafe___init__ : Fun K "__init__" "NotSafe.__init__" s_NotSafe___init__ f_NotSafe___init__ d_NotSafe___init__
  bi_NotSafe : Binds K d_NotSafe___init__ ["self", "ill"] []
  ic_NotSafe : PySem.W.findIn K (.ref ca.NotSafe) "__init__" = some (some (.ref f_NotSafe___init__)) ∧ PySem.W.typeIn K (.ref f_NotSafe___init__) = some (.type "function")
  no_NotSafe_ill : PySem.W.findIn K (.ref ca.NotSafe) "ill" = some none
  ox_Ringed : OexC K ca.Ringed
  f_Ringed___init__ : Addr
  d_Ringed___init__ : FuncData
  F_Ringed___init__ : Fun K "__init__" "Ringed.__init__" s_Ringed___init__ f_Ringed___init__ d_Ringed___init__
  bi_Ringed : Binds K d_Ringed___init__ ["self", "ring"] []
  ic_Ringed : PySem.W.findIn K (.ref ca.Ringed) "__init__" = some (some (.ref f_Ringed___init__)) ∧ PySem.W.typeIn K (.ref f_Ringed___init__) = some (.type "function")
  no_Ringed_ring : PySem.W.findIn K (.ref ca.Ringed) "ring" = some none
  ox_TooMany : OexC K ca.TooMany
  f_TooMany___init__ : Addr
  d_TooMany___init__ : FuncData
  F_TooMany___init__ : Fun K "__init__" "TooMany.__init__" s_TooMany___init__ f_TooMany___init__ d_TooMany___init__
  bi_TooMany : Binds K d_TooMany___init__ ["self", "most"] []
  ic_TooMany : PySem.W.findIn K (.ref ca.TooMany) "__init__" = some (some (.ref f_TooMany___init__)) ∧ PySem.W.typeIn K (.ref f_TooMany___init__) = some (.type "function")
  no_TooMany_most : PySem.W.findIn K (.ref ca.TooMany) "most" = some none
  kx_BadIll : KBn K d_BadIll___init__ ["self", "ill"] 1 ["ill"] (fun us ws => us ++ sel [0] ws) (fun us ws => us ++ sel [0] ws)
  kx_BadKeeper : KBn K d_BadKeeper___init__ ["self", "part"] 1 ["part"] (fun us ws => us ++ sel [0] ws) (fun us ws => us ++ sel [0] ws)
  kx_BadLot : KBn K d_BadLot___init__ ["self", "at"] 1 ["at"] (fun us ws => us ++ sel [0] ws) (fun us ws => us ++ sel [0] ws)
  kx_BadRow : KBn K d_BadRow___init__ ["self", "row"] 1 ["row"] (fun us ws => us ++ sel [0] ws) (fun us ws => us ++ sel [0] ws)
  kx_BadRule : KBn K d_BadRule___init__ ["self", "at"] 1 ["at"] (fun us ws => us ++ sel [0] ws) (fun us ws => us ++ sel [0] ws)
  kx_BadScheme : KBn K d_BadScheme___init__ ["self", "part"] 1 ["part"] (fun us ws => us ++ sel [0] ws) (fun us ws => us ++ sel [0] ws)
  kx_BadShape : KBn K d_BadShape___init__ ["self", "shape"] 1 ["shape"] (fun us ws => us ++ sel [0] ws) (fun us ws => us ++ sel [0] ws)
  kx_BadText : KBn K d_BadText___init__ ["self", "line"] 1 ["line"] (fun us ws => us ++ sel [0] ws) (fun us ws => us ++ sel [0] ws)
  kx_BadView : KBn K d_BadView___init__ ["self", "view"] 1 ["view"] (fun us ws => us ++ sel [0] ws) (fun us ws => us ++ sel [0] ws)
  kx_BadWeaving : KBn K d_BadWeaving___init__ ["self", "at"] 1 ["at"] (fun us ws => us ++ sel [0] ws) (fun us ws => us ++ sel [0] ws)
  kx_BadWord : KBn K d_BadWord___init__ ["self", "thing"] 1 ["thing"] (fun us ws => us ++ sel [0] ws) (fun us ws => us ++ sel [0] ws)
  kx_NoKeeper : KBn K d_NoKeeper___init__ ["self", "thing"] 1 ["thing"] (fun us ws => us ++ sel [0] ws) (fun us ws => us ++ sel [0] ws)
  kx_NotSafe : KBn K d_NotSafe___init__ ["self", "ill"] 1 ["ill"] (fun us ws => us ++ sel [0] ws) (fun us ws => us ++ sel [0] ws)
  kx_Ringed : KBn K d_Ringed___init__ ["self", "ring"] 1 ["ring"] (fun us ws => us ++ sel [0] ws) (fun us ws => us ++ sel [0] ws)
  kx_TooMany : KBn K d_TooMany___init__ ["self", "most"] 1 ["most"] (fun us ws => us ++ sel [0] ws) (fun us ws => us ++ sel [0] ws)
  xi_BadNumber : PySem.W.excIn K ca.BadNumber [.type "ValueError", .type "Exception", .type "BaseException", .type "object"] "ValueError.__new__" = true
  kp_BadNumber : PySem.W.keepIn K (.ref ca.BadNumber) = true
  xi_BadState : PySem.W.excIn K ca.BadState [.type "ValueError", .type "Exception", .type "BaseException", .type "object"] "ValueError.__new__" = true
  kp_BadState : PySem.W.keepIn K (.ref ca.BadState) = true
  xi_KeeperError : PySem.W.excIn K ca.KeeperError [.type "ValueError", .type "Exception", .type "BaseException", .type "object"] "ValueError.__new__" = true
  kp_KeeperError : PySem.W.keepIn K (.ref ca.KeeperError) = true
  xi_NothingLeft : PySem.W.excIn K ca.NothingLeft [.type "ValueError", .type "Exception", .type "BaseException", .type "object"] "ValueError.__new__" = true
  kp_NothingLeft : PySem.W.keepIn K (.ref ca.NothingLeft) = true
  xt : excTabB K (xcs ca) (xvs ca) xtab = true
  bc_KeeperError : TX.BaseC K ca.KeeperError
  xf_BadIll : XfC K ca.BadIll
  xf_BadKeeper : XfC K ca.BadKeeper
  xf_BadLot : XfC K ca.BadLot
  xf_BadRow : XfC K ca.BadRow
  xf_BadRule : XfC K ca.BadRule
  xf_BadScheme : XfC K ca.BadScheme
  xf_BadShape : XfC K ca.BadShape
  xf_BadText : XfC K ca.BadText
  xf_BadView : XfC K ca.BadView
  xf_BadWeaving : XfC K ca.BadWeaving
  xf_BadWord : XfC K ca.BadWord
  xf_NoKeeper : XfC K ca.NoKeeper
  xf_NotSafe : XfC K ca.NotSafe
  xf_Ringed : XfC K ca.Ringed
  xf_TooMany : XfC K ca.TooMany
  f__law_begun : Addr
  d__law_begun : FuncData
  F__law_begun : Fun K "_law_begun" "_law_begun" s__law_begun f__law_begun d__law_begun
  g__law_begun : mg "_law_begun" = some (.ref f__law_begun)
  b__law_begun : Binds K d__law_begun ["_law_script"] []
  f__law_mixed : Addr
  d__law_mixed : FuncData
  F__law_mixed : Fun K "_law_mixed" "_law_mixed" s__law_mixed f__law_mixed d__law_mixed
  g__law_mixed : mg "_law_mixed" = some (.ref f__law_mixed)
  b__law_mixed : Binds K d__law_mixed ["_law_state"] []
  f__law_take : Addr
  d__law_take : FuncData
  F__law_take : Fun K "_law_take" "_law_take" s__law_take f__law_take d__law_take
  g__law_take : mg "_law_take" = some (.ref f__law_take)
  b__law_take : Binds K d__law_take ["_law_state", "_law_size"] []
  f__law_pick : Addr
  d__law_pick : FuncData
  F__law_pick : Fun K "_law_pick" "_law_pick" s__law_pick f__law_pick d__law_pick
  g__law_pick : mg "_law_pick" = some (.ref f__law_pick)
  b__law_pick : Binds K d__law_pick ["_law_state", "_law_some"] []
  f__law_any : Addr
  d__law_any : FuncData
  F__law_any : Fun K "_law_any" "_law_any" s__law_any f__law_any d__law_any
  g__law_any : mg "_law_any" = some (.ref f__law_any)
  b__law_any : Binds K d__law_any ["_law_state"] []
  f__law_with_values : Addr
  d__law_with_values : FuncData
  F__law_with_values : Fun K "_law_with_values" "_law_with_values" s__law_with_values f__law_with_values d__law_with_values
  g__law_with_values : mg "_law_with_values" = some (.ref f__law_with_values)
  b__law_with_values : Binds K d__law_with_values ["_law_told"] []
  f__law_marks_of : Addr
  d__law_marks_of : FuncData
  F__law_marks_of : Fun K "_law_marks_of" "_law_marks_of" s__law_marks_of f__law_marks_of d__law_marks_of
  g__law_marks_of : mg "_law_marks_of" = some (.ref f__law_marks_of)
  b__law_marks_of : Binds K d__law_marks_of ["_law_error"] []
  f__law_is_alone : Addr
  d__law_is_alone : FuncData
  F__law_is_alone : Fun K "_law_is_alone" "_law_is_alone" s__law_is_alone f__law_is_alone d__law_is_alone
  g__law_is_alone : mg "_law_is_alone" = some (.ref f__law_is_alone)
  b__law_is_alone : Binds K d__law_is_alone ["_law_error", "_law_place"] []
  f_law : Addr
  d_law : FuncData
  F_law : Fun K "law" "law" s_law f_law d_law
  g_law : mg "law" = some (.ref f_law)
  b_law : Binds K d_law ["_law_script"] []
  m_ValueError : mg "ValueError" = none
  m_int : mg "int" = none
  m_isinstance : mg "isinstance" = none
  m_len : mg "len" = none
  m_list : mg "list" = none
  m_min : mg "min" = none
  m_range : mg "range" = none
  m_repr : mg "repr" = none
section
variable {P : Program} {w : World} {K : PySem.W.Frag} {mg : Str → Option Value} {base : Heap}
theorem oi_BadIll (T : Top K mg) : FnOk P w K mg base CX0 1 T.f_BadIll___init__ T.d_BadIll___init__ ["self", "ill"] (TX.spInit T.ca.BadIll "ill") := TX.ok_init (m := "a value that is no ill") T.F_BadIll___init__ sc_BadIll___init__ T.ox_BadIll T.no_BadIll_ill fun cdv A outer s H E =>
    pss_cons (ps_expr (TX.pe_binit rfl T.g_KeeperError T.bc_KeeperError (pa_cons (pe_var (i := 0) rfl (.inl rfl)) (pa_cons pe_str pa_nil)))) (pss_one (ps_ost (pe_var (i := 0) rfl (.inl rfl)) (pe_var (i := 1) rfl (.inl rfl))))
theorem oi_BadKeeper (T : Top K mg) : FnOk P w K mg base CX0 1 T.f_BadKeeper___init__ T.d_BadKeeper___init__ ["self", "part"] (TX.spInit T.ca.BadKeeper "part") := TX.ok_init (m := "a part of which no keeper can be made") T.F_BadKeeper___init__ sc_BadKeeper___init__ T.ox_BadKeeper T.no_BadKeeper_part fun cdv A outer s H E =>
    pss_cons (ps_expr (TX.pe_binit rfl T.g_KeeperError T.bc_KeeperError (pa_cons (pe_var (i := 0) rfl (.inl rfl)) (pa_cons pe_str pa_nil)))) (pss_one (ps_ost (pe_var (i := 0) rfl (.inl rfl)) (pe_var (i := 1) rfl (.inl rfl))))
theorem oi_BadLot (T : Top K mg) : FnOk P w K mg base CX0 1 T.f_BadLot___init__ T.d_BadLot___init__ ["self", "at"] (TX.spInit T.ca.BadLot "at") := TX.ok_init (m := "an item that is not offered rightly") T.F_BadLot___init__ sc_BadLot___init__ T.ox_BadLot T.no_BadLot_at fun cdv A outer s H E =>
    pss_cons (ps_expr (TX.pe_binit rfl T.g_KeeperError T.bc_KeeperError (pa_cons (pe_var (i := 0) rfl (.inl rfl)) (pa_cons pe_str pa_nil)))) (pss_one (ps_ost (pe_var (i := 0) rfl (.inl rfl)) (pe_var (i := 1) rfl (.inl rfl))))
theorem oi_BadRow (T : Top K mg) : FnOk P w K mg base CX0 1 T.f_BadRow___init__ T.d_BadRow___init__ ["self", "row"] (TX.spInit T.ca.BadRow "row") := TX.ok_init (m := "a row that is not possible now") T.F_BadRow___init__ sc_BadRow___init__ T.ox_BadRow T.no_BadRow_row fun cdv A outer s H E =>
    pss_cons (ps_expr (TX.pe_binit rfl T.g_KeeperError T.bc_KeeperError (pa_cons (pe_var (i := 0) rfl (.inl rfl)) (pa_cons pe_str pa_nil)))) (pss_one (ps_ost (pe_var (i := 0) rfl (.inl rfl)) (pe_var (i := 1) rfl (.inl rfl))))
theorem oi_BadRule (T : Top K mg) : FnOk P w K mg base CX0 1 T.f_BadRule___init__ T.d_BadRule___init__ ["self", "at"] (TX.spInit T.ca.BadRule "at") := TX.ok_init (m := "a value that is no rule, or no index of one") T.F_BadRule___init__ sc_BadRule___init__ T.ox_BadRule T.no_BadRule_at fun cdv A outer s H E =>
    pss_cons (ps_expr (TX.pe_binit rfl T.g_KeeperError T.bc_KeeperError (pa_cons (pe_var (i := 0) rfl (.inl rfl)) (pa_cons pe_str pa_nil)))) (pss_one (ps_ost (pe_var (i := 0) rfl (.inl rfl)) (pe_var (i := 1) rfl (.inl rfl))))
theorem oi_BadScheme (T : Top K mg) : FnOk P w K mg base CX0 1 T.f_BadScheme___init__ T.d_BadScheme___init__ ["self", "part"] (TX.spInit T.ca.BadScheme "part") := TX.ok_init (m := "a part of which no scheme can be made") T.F_BadScheme___init__ sc_BadScheme___init__ T.ox_BadScheme T.no_BadScheme_part fun cdv A outer s H E =>
    pss_cons (ps_expr (TX.pe_binit rfl T.g_KeeperError T.bc_KeeperError (pa_cons (pe_var (i := 0) rfl (.inl rfl)) (pa_cons pe_str pa_nil)))) (pss_one (ps_ost (pe_var (i := 0) rfl (.inl rfl)) (pe_var (i := 1) rfl (.inl rfl))))
theorem oi_BadShape (T : Top K mg) : FnOk P w K mg base CX0 1 T.f_BadShape___init__ T.d_BadShape___init__ ["self", "shape"] (TX.spInit T.ca.BadShape "shape") := TX.ok_init (m := "a value that is no shape or no standing") T.F_BadShape___init__ sc_BadShape___init__ T.ox_BadShape T.no_BadShape_shape fun cdv A outer s H E =>
    pss_cons (ps_expr (TX.pe_binit rfl T.g_KeeperError T.bc_KeeperError (pa_cons (pe_var (i := 0) rfl (.inl rfl)) (pa_cons pe_str pa_nil)))) (pss_one (ps_ost (pe_var (i := 0) rfl (.inl rfl)) (pe_var (i := 1) rfl (.inl rfl))))
theorem oi_BadText (T : Top K mg) : FnOk P w K mg base CX0 1 T.f_BadText___init__ T.d_BadText___init__ ["self", "line"] (TX.spInit T.ca.BadText "line") := TX.ok_init (m := "a text that tells nothing") T.F_BadText___init__ sc_BadText___init__ T.ox_BadText T.no_BadText_line fun cdv A outer s H E =>
    pss_cons (ps_expr (TX.pe_binit rfl T.g_KeeperError T.bc_KeeperError (pa_cons (pe_var (i := 0) rfl (.inl rfl)) (pa_cons pe_str pa_nil)))) (pss_one (ps_ost (pe_var (i := 0) rfl (.inl rfl)) (pe_var (i := 1) rfl (.inl rfl))))
theorem oi_BadView (T : Top K mg) : FnOk P w K mg base CX0 1 T.f_BadView___init__ T.d_BadView___init__ ["self", "view"] (TX.spInit T.ca.BadView "view") := TX.ok_init (m := "a value that is no view") T.F_BadView___init__ sc_BadView___init__ T.ox_BadView T.no_BadView_view fun cdv A outer s H E =>
    pss_cons (ps_expr (TX.pe_binit rfl T.g_KeeperError T.bc_KeeperError (pa_cons (pe_var (i := 0) rfl (.inl rfl)) (pa_cons pe_str pa_nil)))) (pss_one (ps_ost (pe_var (i := 0) rfl (.inl rfl)) (pe_var (i := 1) rfl (.inl rfl))))
theorem oi_BadWeaving (T : Top K mg) : FnOk P w K mg base CX0 1 T.f_BadWeaving___init__ T.d_BadWeaving___init__ ["self", "at"] (TX.spInit T.ca.BadWeaving "at") := TX.ok_init (m := "a row that is none or not possible") T.F_BadWeaving___init__ sc_BadWeaving___init__ T.ox_BadWeaving T.no_BadWeaving_at fun cdv A outer s H E =>
    pss_cons (ps_expr (TX.pe_binit rfl T.g_KeeperError T.bc_KeeperError (pa_cons (pe_var (i := 0) rfl (.inl rfl)) (pa_cons pe_str pa_nil)))) (pss_one (ps_ost (pe_var (i := 0) rfl (.inl rfl)) (pe_var (i := 1) rfl (.inl rfl))))
theorem oi_BadWord (T : Top K mg) : FnOk P w K mg base CX0 1 T.f_BadWord___init__ T.d_BadWord___init__ ["self", "thing"] (TX.spInit T.ca.BadWord "thing") := TX.ok_init (m := "a value that is no word, or no new one") T.F_BadWord___init__ sc_BadWord___init__ T.ox_BadWord T.no_BadWord_thing fun cdv A outer s H E =>
    pss_cons (ps_expr (TX.pe_binit rfl T.g_KeeperError T.bc_KeeperError (pa_cons (pe_var (i := 0) rfl (.inl rfl)) (pa_cons pe_str pa_nil)))) (pss_one (ps_ost (pe_var (i := 0) rfl (.inl rfl)) (pe_var (i := 1) rfl (.inl rfl))))
theorem oi_NoKeeper (T : Top K mg) : FnOk P w K mg base CX0 1 T.f_NoKeeper___init__ T.d_NoKeeper___init__ ["self", "thing"] (TX.spInit T.ca.NoKeeper "thing") := TX.ok_init (m := "a value that is no name of a keeper") T.F_NoKeeper___init__ sc_NoKeeper___init__ T.ox_NoKeeper T.no_NoKeeper_thing fun cdv A outer s H E =>
    pss_cons (ps_expr (TX.pe_binit rfl T.g_KeeperError T.bc_KeeperError (pa_cons (pe_var (i := 0) rfl (.inl rfl)) (pa_cons pe_str pa_nil)))) (pss_one (ps_ost (pe_var (i := 0) rfl (.inl rfl)) (pe_var (i := 1) rfl (.inl rfl))))
theorem oi_NotSafe (T : Top K mg) : FnOk P w K mg base CX0 1 T.f_NotSafe___init__ T.d_NotSafe___init__ ["self", "ill"] (TX.spInit T.ca.NotSafe "ill") := TX.ok_init (m := "a scheme in which an ill comes") T.F_NotSafe___init__ sc_NotSafe___init__ T.ox_NotSafe T.no_NotSafe_ill fun cdv A outer s H E =>
    pss_cons (ps_expr (TX.pe_binit rfl T.g_KeeperError T.bc_KeeperError (pa_cons (pe_var (i := 0) rfl (.inl rfl)) (pa_cons pe_str pa_nil)))) (pss_one (ps_ost (pe_var (i := 0) rfl (.inl rfl)) (pe_var (i := 1) rfl (.inl rfl))))
theorem oi_Ringed (T : Top K mg) : FnOk P w K mg base CX0 1 T.f_Ringed___init__ T.d_Ringed___init__ ["self", "ring"] (TX.spInit T.ca.Ringed "ring") := TX.ok_init (m := "a scheme with a ring") T.F_Ringed___init__ sc_Ringed___init__ T.ox_Ringed T.no_Ringed_ring fun cdv A outer s H E =>
    pss_cons (ps_expr (TX.pe_binit rfl T.g_KeeperError T.bc_KeeperError (pa_cons (pe_var (i := 0) rfl (.inl rfl)) (pa_cons pe_str pa_nil)))) (pss_one (ps_ost (pe_var (i := 0) rfl (.inl rfl)) (pe_var (i := 1) rfl (.inl rfl))))
theorem oi_TooMany (T : Top K mg) : FnOk P w K mg base CX0 1 T.f_TooMany___init__ T.d_TooMany___init__ ["self", "most"] (TX.spInit T.ca.TooMany "most") := TX.ok_init (m := "more standings than allowed") T.F_TooMany___init__ sc_TooMany___init__ T.ox_TooMany T.no_TooMany_most fun cdv A outer s H E =>
    pss_cons (ps_expr (TX.pe_binit rfl T.g_KeeperError T.bc_KeeperError (pa_cons (pe_var (i := 0) rfl (.inl rfl)) (pa_cons pe_str pa_nil)))) (pss_one (ps_ost (pe_var (i := 0) rfl (.inl rfl)) (pe_var (i := 1) rfl (.inl rfl))))
theorem ok__law_begun (T : Top K mg) : FnOk P w K mg base CX0 1 T.f__law_begun T.d__law_begun ["_law_script"] (toSp K [] 1 S__law_begun) := by
  refine ok_tree T.F__law_begun sc__law_begun (fun cdv A outer s H E hr =>
    (ds_cons (ds_setLc 1 rfl sc__law_begun.nd (di_seq (d_frz (d_var 0))) (blkOk_by (N := ["_law_script", "_law_large", "_law_cell"]) (sc := defScope s__law_begun) (own := [("_law_cell", 2)]) (by decide +kernel)) (fun _ _ _ _ _ => (dg_name 2 sc__law_begun.nd)) (fun _ _ _ _ _ => (dts_one (d_cmpT op_ge2 (c_ord _) (d_var 2) (d_bin op_pow (c_pow _) d_int d_int) (nomark _)))) (fun _ _ _ _ _ => (d_bin op_sub (c_sub _) (d_var 2) (d_bin op_pow (c_pow _) d_int d_int))) (by rfl))
      (ds_one (ds_ret (d_stNew 1 0 (by rfl) T.m_list))))) ?_
  exact k__law_begun
theorem ok__law_mixed (T : Top K mg) : FnOk P w K mg base CX0 1 T.f__law_mixed T.d__law_mixed ["_law_state"] (toSp K [] 1 S__law_mixed) := by
  refine ok_tree T.F__law_mixed sc__law_mixed (fun cdv A outer s H E hr =>
    (ds_cons (ds_stTurn 0 (hu_of hr) (d_bin op_add4 (c_add _) (d_stTurn 0 (hu_of hr)) d_int))
      (ds_cons (ds_set 1 sc__law_mixed.nd d_int)
      (ds_cons (ds_for PassesOwn.never rfl (di_seq (d_lst (d_cons d_int (d_cons d_int (d_cons d_int (d_cons d_int (d_cons d_int (d_cons d_int d_nil)))))))) (dg_name 2 sc__law_mixed.nd) (ds_cons (ds_set 3 sc__law_mixed.nd (d_bin op_add4 (c_add _) (d_bin op_mul2 (c_mul _) d_int (d_stTurn 0 (hu_of hr))) (d_bin op_fdiv (c_div _) (d_var 2) d_int)))
      (ds_cons (ds_for PassesOwn.never rfl (di_seq (d_stCells 0 (hu_of hr))) (dg_name 4 sc__law_mixed.nd) (ds_one (ds_set 3 sc__law_mixed.nd (d_bin op_mod (c_mod _) (d_callT call_int1 (c_int _) (by rfl) T.m_int bt_int (d_cons (d_bin op_add4 (c_add _) (d_bin op_mul2 (c_mul _) (d_var 3) d_int) (d_var 4)) d_nil)) (d_var 2)))))
      (ds_one (ds_set 1 sc__law_mixed.nd (d_bin op_add4 (c_add _) (d_bin op_mul2 (c_mul _) (d_var 1) d_int) (d_bin op_mod (c_mod _) (d_callT call_int1 (c_int _) (by rfl) T.m_int bt_int (d_cons (d_bin op_pow (c_pow _) (d_var 3) d_int) d_nil)) (d_var 2))))))))
      (ds_one (ds_ret (d_var 1))))))) ?_
  exact k__law_mixed
theorem ok__law_take (T : Top K mg) : FnOk P w K mg base CX0 2 T.f__law_take T.d__law_take ["_law_state", "_law_size"] (toSp K [] 2 S__law_take) := by
  refine ok_tree T.F__law_take sc__law_take (fun cdv A outer s H E hr =>
    (ds_draw 0 (ds_cons (ds_if (d_cmpT (op_eq3 hr.units) (c_eq _) (d_stRest 0 (hu_of hr)) d_int (nomark _)) (ds_one (ds_stRest 0 (hu_of hr) (d_ife (d_stAny 0 (hu_of hr)) (d_stPop 0 (hu_of hr)) (d_call ((ok__law_mixed T).mono (by decide)) hr (by rfl) T.g__law_mixed T.F__law_mixed.kp T.b__law_mixed pass0 (d_cons (d_var 0) d_nil))))) ds_nil)
      (ds_cons (ds_set 2 sc__law_take.nd (d_bin op_mod (c_mod _) (d_callT call_int1 (c_int _) (by rfl) T.m_int bt_int (d_cons (d_stRest 0 (hu_of hr)) d_nil)) (d_var 1)))
      (ds_cons (ds_stRest 0 (hu_of hr) (d_bin op_fdiv (c_div _) (d_stRest 0 (hu_of hr)) (d_var 1)))
      (ds_one (ds_ret (d_var 2)))))))) ?_
  exact k__law_take
theorem ok__law_pick (T : Top K mg) : FnOk P w K mg base CX0 3 T.f__law_pick T.d__law_pick ["_law_state", "_law_some"] (toSp K [] 2 S__law_pick) := by
  refine ok_tree T.F__law_pick sc__law_pick (fun cdv A outer s H E hr =>
    (ds_one (ds_ret (d_ix (d_var 1) (d_call ((ok__law_take T).mono (by decide)) hr (by rfl) T.g__law_take T.F__law_take.kp T.b__law_take pass0 (d_cons (d_var 0) (d_cons (d_callB call_len2 (c_len _) (by rfl) T.m_len bt_len (d_cons (d_var 1) d_nil)) d_nil))))))) ?_
  exact k__law_pick
theorem ok__law_any (T : Top K mg) : FnOk P w K mg base CX0 4 T.f__law_any T.d__law_any ["_law_state"] (toSp K [] 1 S__law_any) := by
  refine ok_tree T.F__law_any sc__law_any (fun cdv A outer s H E hr =>
    (ds_cons (ds_set 1 sc__law_any.nd (d_lst (d_cons d_non (d_cons d_bl (d_cons d_bl (d_cons d_int (d_cons d_int (d_cons (d_un un_neg (c_neg _) d_int) (d_cons d_int (d_cons (d_bin op_pow (c_pow _) d_int d_int) (d_cons d_str (d_cons d_str (d_cons d_str (d_cons d_str (d_cons d_str (d_cons d_str (d_cons (d_tup d_nil) (d_cons (d_lst d_nil) (d_cons d_dnew d_nil)))))))))))))))))))
      (ds_cons (ds_set 1 sc__law_any.nd (d_bin op_add4 (c_add _) (d_var 1) (d_lst (d_cons (d_tup (d_cons d_str d_nil)) (d_cons (d_lst (d_cons d_str d_nil)) (d_cons (d_tup (d_cons (d_tup d_nil) d_nil)) (d_cons (d_tup (d_cons d_int (d_cons d_str d_nil))) (d_cons (d_tup (d_cons d_str (d_cons d_bl (d_cons d_bl d_nil)))) (d_cons (d_disp (ks := [Sum.inr ("x" : Str)]) (ts := [dC (.int 1)]) (pps_cons pe_str d_int pps_nil)) (d_cons d_str (d_cons (d_tup (d_cons d_str d_nil)) (d_cons d_str d_nil))))))))))))
      (ds_one (ds_ret (d_call ((ok__law_pick T).mono (by decide)) hr (by rfl) T.g__law_pick T.F__law_pick.kp T.b__law_pick pass0 (d_cons (d_var 0) (d_cons (d_frz (d_var 1)) d_nil)))))))) ?_
  exact k__law_any
theorem ok__law_with_values (T : Top K mg) : FnOk P w K mg base CX0 3 T.f__law_with_values T.d__law_with_values ["_law_told"] (toSp K [] 1 (S__law_with_values T.ca)) := by
  refine ok_tree T.F__law_with_values sc__law_with_values (fun cdv A outer s H E hr =>
    (ds_cons (ds_set 1 sc__law_with_values.nd (d_lst (d_cons (d_tup (d_cons d_int (d_cons (d_exc T.ox_BadWord T.ic_BadWord.1 T.ic_BadWord.2 (oi_BadWord T) (hr.mono (by decide)) T.bi_BadWord (by rfl) T.g_BadWord (d_cons (d_frz (d_var 0)) d_nil)) d_nil))) (d_cons (d_tup (d_cons d_int (d_cons (d_excK T.ox_BadWord T.ic_BadWord.1 T.ic_BadWord.2 (oi_BadWord T) (hr.mono (by decide)) T.kx_BadWord (by rfl) T.g_BadWord (dk_cons (d_frz (d_var 0)) dk_nil)) d_nil))) (d_cons (d_tup (d_cons d_int (d_cons (d_exc T.ox_NoKeeper T.ic_NoKeeper.1 T.ic_NoKeeper.2 (oi_NoKeeper T) (hr.mono (by decide)) T.bi_NoKeeper (by rfl) T.g_NoKeeper (d_cons (d_frz (d_var 0)) d_nil)) d_nil))) (d_cons (d_tup (d_cons d_int (d_cons (d_excK T.ox_NoKeeper T.ic_NoKeeper.1 T.ic_NoKeeper.2 (oi_NoKeeper T) (hr.mono (by decide)) T.kx_NoKeeper (by rfl) T.g_NoKeeper (dk_cons (d_frz (d_var 0)) dk_nil)) d_nil))) d_nil))))))
      (ds_cons (ds_setLc 2 rfl sc__law_with_values.nd (di_seq (d_frz (d_var 1))) (blkOk_by (N := ["_law_told", "_law_found", "_law_some", "_law_place", "_law_error"]) (sc := defScope s__law_with_values) (own := [("_law_place", 3), ("_law_error", 4)]) (by decide +kernel)) (fun _ _ _ _ _ => (dg_tup (n := 2) rfl (dg_cons (dg_name 3 sc__law_with_values.nd) (dg_cons (dg_name 4 sc__law_with_values.nd) dg_nil)))) (fun _ _ _ _ _ => dts_nil) (fun _ _ _ _ _ => (d_tup (d_cons (d_frz (d_var 3)) (d_cons (d_tup (d_cons (d_frz (d_var 4)) (d_cons (d_xf (T := fun C => C = T.ca.BadWord ∨ C = T.ca.NoKeeper) (by rintro C (rfl | rfl) <;> first | exact ⟨T.xf_BadWord, T.no_BadWord_thing⟩ | exact ⟨T.xf_NoKeeper, T.no_NoKeeper_thing⟩) (d_var 4)) d_nil))) d_nil)))) (by rfl))
      (ds_cons (ds_set 1 sc__law_with_values.nd (d_lst (d_cons (d_tup (d_cons d_int (d_cons (d_exc T.ox_BadRule T.ic_BadRule.1 T.ic_BadRule.2 (oi_BadRule T) (hr.mono (by decide)) T.bi_BadRule (by rfl) T.g_BadRule (d_cons (d_frz (d_var 0)) d_nil)) d_nil))) (d_cons (d_tup (d_cons d_int (d_cons (d_excK T.ox_BadRule T.ic_BadRule.1 T.ic_BadRule.2 (oi_BadRule T) (hr.mono (by decide)) T.kx_BadRule (by rfl) T.g_BadRule (dk_cons (d_frz (d_var 0)) dk_nil)) d_nil))) (d_cons (d_tup (d_cons d_int (d_cons (d_exc T.ox_BadWeaving T.ic_BadWeaving.1 T.ic_BadWeaving.2 (oi_BadWeaving T) (hr.mono (by decide)) T.bi_BadWeaving (by rfl) T.g_BadWeaving (d_cons (d_frz (d_var 0)) d_nil)) d_nil))) (d_cons (d_tup (d_cons d_int (d_cons (d_excK T.ox_BadWeaving T.ic_BadWeaving.1 T.ic_BadWeaving.2 (oi_BadWeaving T) (hr.mono (by decide)) T.kx_BadWeaving (by rfl) T.g_BadWeaving (dk_cons (d_frz (d_var 0)) dk_nil)) d_nil))) d_nil))))))
      (ds_cons (ds_set 1 sc__law_with_values.nd (d_bin op_add4 (c_add _) (d_var 1) (d_lst (d_cons (d_tup (d_cons d_int (d_cons (d_exc T.ox_BadLot T.ic_BadLot.1 T.ic_BadLot.2 (oi_BadLot T) (hr.mono (by decide)) T.bi_BadLot (by rfl) T.g_BadLot (d_cons (d_frz (d_var 0)) d_nil)) d_nil))) (d_cons (d_tup (d_cons d_int (d_cons (d_excK T.ox_BadLot T.ic_BadLot.1 T.ic_BadLot.2 (oi_BadLot T) (hr.mono (by decide)) T.kx_BadLot (by rfl) T.g_BadLot (dk_cons (d_frz (d_var 0)) dk_nil)) d_nil))) d_nil)))))
      (ds_cons (ds_set 2 sc__law_with_values.nd (d_bin op_add4 (c_add _) (d_var 2) (d_lc rfl sc__law_with_values.nd (di_seq (d_frz (d_var 1))) (blkOk_by (N := ["_law_told", "_law_found", "_law_some", "_law_place", "_law_error"]) (sc := defScope s__law_with_values) (own := [("_law_place", 3), ("_law_error", 4)]) (by decide +kernel)) (fun _ _ _ _ _ => (dg_tup (n := 2) rfl (dg_cons (dg_name 3 sc__law_with_values.nd) (dg_cons (dg_name 4 sc__law_with_values.nd) dg_nil)))) (fun _ _ _ _ _ => dts_nil) (fun _ _ _ _ _ => (d_tup (d_cons (d_frz (d_var 3)) (d_cons (d_tup (d_cons (d_frz (d_var 4)) (d_cons (d_xf (T := fun C => C = T.ca.BadRule ∨ C = T.ca.BadWeaving ∨ C = T.ca.BadLot) (by rintro C (rfl | rfl | rfl) <;> first | exact ⟨T.xf_BadRule, T.no_BadRule_at⟩ | exact ⟨T.xf_BadWeaving, T.no_BadWeaving_at⟩ | exact ⟨T.xf_BadLot, T.no_BadLot_at⟩) (d_var 4)) d_nil))) d_nil)))))))
      (ds_cons (ds_set 1 sc__law_with_values.nd (d_lst (d_cons (d_tup (d_cons d_int (d_cons (d_exc T.ox_BadKeeper T.ic_BadKeeper.1 T.ic_BadKeeper.2 (oi_BadKeeper T) (hr.mono (by decide)) T.bi_BadKeeper (by rfl) T.g_BadKeeper (d_cons (d_frz (d_var 0)) d_nil)) d_nil))) (d_cons (d_tup (d_cons d_int (d_cons (d_excK T.ox_BadKeeper T.ic_BadKeeper.1 T.ic_BadKeeper.2 (oi_BadKeeper T) (hr.mono (by decide)) T.kx_BadKeeper (by rfl) T.g_BadKeeper (dk_cons (d_frz (d_var 0)) dk_nil)) d_nil))) (d_cons (d_tup (d_cons d_int (d_cons (d_exc T.ox_BadScheme T.ic_BadScheme.1 T.ic_BadScheme.2 (oi_BadScheme T) (hr.mono (by decide)) T.bi_BadScheme (by rfl) T.g_BadScheme (d_cons (d_frz (d_var 0)) d_nil)) d_nil))) (d_cons (d_tup (d_cons d_int (d_cons (d_excK T.ox_BadScheme T.ic_BadScheme.1 T.ic_BadScheme.2 (oi_BadScheme T) (hr.mono (by decide)) T.kx_BadScheme (by rfl) T.g_BadScheme (dk_cons (d_frz (d_var 0)) dk_nil)) d_nil))) d_nil))))))
      (ds_cons (ds_set 2 sc__law_with_values.nd (d_bin op_add4 (c_add _) (d_var 2) (d_lc rfl sc__law_with_values.nd (di_seq (d_frz (d_var 1))) (blkOk_by (N := ["_law_told", "_law_found", "_law_some", "_law_place", "_law_error"]) (sc := defScope s__law_with_values) (own := [("_law_place", 3), ("_law_error", 4)]) (by decide +kernel)) (fun _ _ _ _ _ => (dg_tup (n := 2) rfl (dg_cons (dg_name 3 sc__law_with_values.nd) (dg_cons (dg_name 4 sc__law_with_values.nd) dg_nil)))) (fun _ _ _ _ _ => dts_nil) (fun _ _ _ _ _ => (d_tup (d_cons (d_frz (d_var 3)) (d_cons (d_tup (d_cons (d_frz (d_var 4)) (d_cons (d_xf (T := fun C => C = T.ca.BadKeeper ∨ C = T.ca.BadScheme) (by rintro C (rfl | rfl) <;> first | exact ⟨T.xf_BadKeeper, T.no_BadKeeper_part⟩ | exact ⟨T.xf_BadScheme, T.no_BadScheme_part⟩) (d_var 4)) d_nil))) d_nil)))))))
      (ds_cons (ds_set 1 sc__law_with_values.nd (d_lst (d_cons (d_tup (d_cons d_int (d_cons (d_exc T.ox_BadIll T.ic_BadIll.1 T.ic_BadIll.2 (oi_BadIll T) (hr.mono (by decide)) T.bi_BadIll (by rfl) T.g_BadIll (d_cons (d_frz (d_var 0)) d_nil)) d_nil))) (d_cons (d_tup (d_cons d_int (d_cons (d_excK T.ox_BadIll T.ic_BadIll.1 T.ic_BadIll.2 (oi_BadIll T) (hr.mono (by decide)) T.kx_BadIll (by rfl) T.g_BadIll (dk_cons (d_frz (d_var 0)) dk_nil)) d_nil))) (d_cons (d_tup (d_cons d_int (d_cons (d_exc T.ox_NotSafe T.ic_NotSafe.1 T.ic_NotSafe.2 (oi_NotSafe T) (hr.mono (by decide)) T.bi_NotSafe (by rfl) T.g_NotSafe (d_cons (d_frz (d_var 0)) d_nil)) d_nil))) (d_cons (d_tup (d_cons d_int (d_cons (d_excK T.ox_NotSafe T.ic_NotSafe.1 T.ic_NotSafe.2 (oi_NotSafe T) (hr.mono (by decide)) T.kx_NotSafe (by rfl) T.g_NotSafe (dk_cons (d_frz (d_var 0)) dk_nil)) d_nil))) d_nil))))))
      (ds_cons (ds_set 2 sc__law_with_values.nd (d_bin op_add4 (c_add _) (d_var 2) (d_lc rfl sc__law_with_values.nd (di_seq (d_frz (d_var 1))) (blkOk_by (N := ["_law_told", "_law_found", "_law_some", "_law_place", "_law_error"]) (sc := defScope s__law_with_values) (own := [("_law_place", 3), ("_law_error", 4)]) (by decide +kernel)) (fun _ _ _ _ _ => (dg_tup (n := 2) rfl (dg_cons (dg_name 3 sc__law_with_values.nd) (dg_cons (dg_name 4 sc__law_with_values.nd) dg_nil)))) (fun _ _ _ _ _ => dts_nil) (fun _ _ _ _ _ => (d_tup (d_cons (d_frz (d_var 3)) (d_cons (d_tup (d_cons (d_frz (d_var 4)) (d_cons (d_xf (T := fun C => C = T.ca.BadIll ∨ C = T.ca.NotSafe) (by rintro C (rfl | rfl) <;> first | exact ⟨T.xf_BadIll, T.no_BadIll_ill⟩ | exact ⟨T.xf_NotSafe, T.no_NotSafe_ill⟩) (d_var 4)) d_nil))) d_nil)))))))
      (ds_cons (ds_set 2 sc__law_with_values.nd (d_bin op_add4 (c_add _) (d_var 2) (d_lc rfl sc__law_with_values.nd (di_seq (d_lst (d_cons (d_exc T.ox_BadView T.ic_BadView.1 T.ic_BadView.2 (oi_BadView T) (hr.mono (by decide)) T.bi_BadView (by rfl) T.g_BadView (d_cons (d_frz (d_var 0)) d_nil)) (d_cons (d_excK T.ox_BadView T.ic_BadView.1 T.ic_BadView.2 (oi_BadView T) (hr.mono (by decide)) T.kx_BadView (by rfl) T.g_BadView (dk_cons (d_frz (d_var 0)) dk_nil)) d_nil)))) (blkOk_by (N := ["_law_told", "_law_found", "_law_some", "_law_place", "_law_error"]) (sc := defScope s__law_with_values) (own := [("_law_error", 4)]) (by decide +kernel)) (fun _ _ _ _ _ => (dg_name 4 sc__law_with_values.nd)) (fun _ _ _ _ _ => dts_nil) (fun _ _ _ _ _ => (d_tup (d_cons d_int (d_cons (d_tup (d_cons (d_frz (d_var 4)) (d_cons (d_xf (T := fun C => C = T.ca.BadView) (by rintro C (rfl) <;> first | exact ⟨T.xf_BadView, T.no_BadView_view⟩) (d_var 4)) d_nil))) d_nil)))))))
      (ds_cons (ds_set 2 sc__law_with_values.nd (d_bin op_add4 (c_add _) (d_var 2) (d_lc rfl sc__law_with_values.nd (di_seq (d_lst (d_cons (d_exc T.ox_BadShape T.ic_BadShape.1 T.ic_BadShape.2 (oi_BadShape T) (hr.mono (by decide)) T.bi_BadShape (by rfl) T.g_BadShape (d_cons (d_frz (d_var 0)) d_nil)) (d_cons (d_excK T.ox_BadShape T.ic_BadShape.1 T.ic_BadShape.2 (oi_BadShape T) (hr.mono (by decide)) T.kx_BadShape (by rfl) T.g_BadShape (dk_cons (d_frz (d_var 0)) dk_nil)) d_nil)))) (blkOk_by (N := ["_law_told", "_law_found", "_law_some", "_law_place", "_law_error"]) (sc := defScope s__law_with_values) (own := [("_law_error", 4)]) (by decide +kernel)) (fun _ _ _ _ _ => (dg_name 4 sc__law_with_values.nd)) (fun _ _ _ _ _ => dts_nil) (fun _ _ _ _ _ => (d_tup (d_cons d_int (d_cons (d_tup (d_cons (d_frz (d_var 4)) (d_cons (d_xf (T := fun C => C = T.ca.BadShape) (by rintro C (rfl) <;> first | exact ⟨T.xf_BadShape, T.no_BadShape_shape⟩) (d_var 4)) d_nil))) d_nil)))))))
      (ds_cons (ds_set 2 sc__law_with_values.nd (d_bin op_add4 (c_add _) (d_var 2) (d_lc rfl sc__law_with_values.nd (di_seq (d_lst (d_cons (d_exc T.ox_Ringed T.ic_Ringed.1 T.ic_Ringed.2 (oi_Ringed T) (hr.mono (by decide)) T.bi_Ringed (by rfl) T.g_Ringed (d_cons (d_frz (d_var 0)) d_nil)) (d_cons (d_excK T.ox_Ringed T.ic_Ringed.1 T.ic_Ringed.2 (oi_Ringed T) (hr.mono (by decide)) T.kx_Ringed (by rfl) T.g_Ringed (dk_cons (d_frz (d_var 0)) dk_nil)) d_nil)))) (blkOk_by (N := ["_law_told", "_law_found", "_law_some", "_law_place", "_law_error"]) (sc := defScope s__law_with_values) (own := [("_law_error", 4)]) (by decide +kernel)) (fun _ _ _ _ _ => (dg_name 4 sc__law_with_values.nd)) (fun _ _ _ _ _ => dts_nil) (fun _ _ _ _ _ => (d_tup (d_cons d_int (d_cons (d_tup (d_cons (d_frz (d_var 4)) (d_cons (d_xf (T := fun C => C = T.ca.Ringed) (by rintro C (rfl) <;> first | exact ⟨T.xf_Ringed, T.no_Ringed_ring⟩) (d_var 4)) d_nil))) d_nil)))))))
      (ds_cons (ds_set 2 sc__law_with_values.nd (d_bin op_add4 (c_add _) (d_var 2) (d_lc rfl sc__law_with_values.nd (di_seq (d_lst (d_cons (d_exc T.ox_TooMany T.ic_TooMany.1 T.ic_TooMany.2 (oi_TooMany T) (hr.mono (by decide)) T.bi_TooMany (by rfl) T.g_TooMany (d_cons (d_frz (d_var 0)) d_nil)) (d_cons (d_excK T.ox_TooMany T.ic_TooMany.1 T.ic_TooMany.2 (oi_TooMany T) (hr.mono (by decide)) T.kx_TooMany (by rfl) T.g_TooMany (dk_cons (d_frz (d_var 0)) dk_nil)) d_nil)))) (blkOk_by (N := ["_law_told", "_law_found", "_law_some", "_law_place", "_law_error"]) (sc := defScope s__law_with_values) (own := [("_law_error", 4)]) (by decide +kernel)) (fun _ _ _ _ _ => (dg_name 4 sc__law_with_values.nd)) (fun _ _ _ _ _ => dts_nil) (fun _ _ _ _ _ => (d_tup (d_cons d_int (d_cons (d_tup (d_cons (d_frz (d_var 4)) (d_cons (d_xf (T := fun C => C = T.ca.TooMany) (by rintro C (rfl) <;> first | exact ⟨T.xf_TooMany, T.no_TooMany_most⟩) (d_var 4)) d_nil))) d_nil)))))))
      (ds_cons (ds_set 2 sc__law_with_values.nd (d_bin op_add4 (c_add _) (d_var 2) (d_lc rfl sc__law_with_values.nd (di_seq (d_lst (d_cons (d_exc T.ox_BadRow T.ic_BadRow.1 T.ic_BadRow.2 (oi_BadRow T) (hr.mono (by decide)) T.bi_BadRow (by rfl) T.g_BadRow (d_cons (d_frz (d_var 0)) d_nil)) (d_cons (d_excK T.ox_BadRow T.ic_BadRow.1 T.ic_BadRow.2 (oi_BadRow T) (hr.mono (by decide)) T.kx_BadRow (by rfl) T.g_BadRow (dk_cons (d_frz (d_var 0)) dk_nil)) d_nil)))) (blkOk_by (N := ["_law_told", "_law_found", "_law_some", "_law_place", "_law_error"]) (sc := defScope s__law_with_values) (own := [("_law_error", 4)]) (by decide +kernel)) (fun _ _ _ _ _ => (dg_name 4 sc__law_with_values.nd)) (fun _ _ _ _ _ => dts_nil) (fun _ _ _ _ _ => (d_tup (d_cons d_int (d_cons (d_tup (d_cons (d_frz (d_var 4)) (d_cons (d_xf (T := fun C => C = T.ca.BadRow) (by rintro C (rfl) <;> first | exact ⟨T.xf_BadRow, T.no_BadRow_row⟩) (d_var 4)) d_nil))) d_nil)))))))
      (ds_one (ds_ret (d_bin op_add4 (c_add _) (d_var 2) (d_lc rfl sc__law_with_values.nd (di_seq (d_lst (d_cons (d_exc T.ox_BadText T.ic_BadText.1 T.ic_BadText.2 (oi_BadText T) (hr.mono (by decide)) T.bi_BadText (by rfl) T.g_BadText (d_cons (d_frz (d_var 0)) d_nil)) (d_cons (d_excK T.ox_BadText T.ic_BadText.1 T.ic_BadText.2 (oi_BadText T) (hr.mono (by decide)) T.kx_BadText (by rfl) T.g_BadText (dk_cons (d_frz (d_var 0)) dk_nil)) d_nil)))) (blkOk_by (N := ["_law_told", "_law_found", "_law_some", "_law_place", "_law_error"]) (sc := defScope s__law_with_values) (own := [("_law_error", 4)]) (by decide +kernel)) (fun _ _ _ _ _ => (dg_name 4 sc__law_with_values.nd)) (fun _ _ _ _ _ => dts_nil) (fun _ _ _ _ _ => (d_tup (d_cons d_int (d_cons (d_tup (d_cons (d_frz (d_var 4)) (d_cons (d_xf (T := fun C => C = T.ca.BadText) (by rintro C (rfl) <;> first | exact ⟨T.xf_BadText, T.no_BadText_line⟩) (d_var 4)) d_nil))) d_nil))))))))))))))))))))))) ?_
  exact k__law_with_values T.ca
theorem ok__law_marks_of (T : Top K mg) : FnOk P w K mg base CX0 1 T.f__law_marks_of T.d__law_marks_of ["_law_error"] (toSp K [] 1 (S__law_marks_of T.ca)) := by
  refine ok_tree T.F__law_marks_of sc__law_marks_of (fun cdv A outer s H E hr =>
    (ds_cons (ds_set 1 sc__law_marks_of.nd (d_lst (d_cons (d_callB call_isXi (c_isE (excJ_ok T.xt (xcd T.ca))) (by rfl) T.m_isinstance bt_isinstance (d_cons (d_var 0) (d_cons (d_glob (v := .ref T.ca.BadWord) (d := .ref T.ca.BadWord) (by rfl) T.g_BadWord rfl (fun _ => .ref _)) d_nil))) (d_cons (d_callB call_isXi (c_isE (excJ_ok T.xt (xcd T.ca))) (by rfl) T.m_isinstance bt_isinstance (d_cons (d_var 0) (d_cons (d_glob (v := .ref T.ca.NoKeeper) (d := .ref T.ca.NoKeeper) (by rfl) T.g_NoKeeper rfl (fun _ => .ref _)) d_nil))) (d_cons (d_callB call_isXi (c_isE (excJ_ok T.xt (xcd T.ca))) (by rfl) T.m_isinstance bt_isinstance (d_cons (d_var 0) (d_cons (d_glob (v := .ref T.ca.BadRule) (d := .ref T.ca.BadRule) (by rfl) T.g_BadRule rfl (fun _ => .ref _)) d_nil))) d_nil)))))
      (ds_cons (ds_set 1 sc__law_marks_of.nd (d_bin op_add4 (c_add _) (d_var 1) (d_lst (d_cons (d_callB call_isXi (c_isE (excJ_ok T.xt (xcd T.ca))) (by rfl) T.m_isinstance bt_isinstance (d_cons (d_var 0) (d_cons (d_glob (v := .ref T.ca.BadWeaving) (d := .ref T.ca.BadWeaving) (by rfl) T.g_BadWeaving rfl (fun _ => .ref _)) d_nil))) (d_cons (d_callB call_isXi (c_isE (excJ_ok T.xt (xcd T.ca))) (by rfl) T.m_isinstance bt_isinstance (d_cons (d_var 0) (d_cons (d_glob (v := .ref T.ca.BadLot) (d := .ref T.ca.BadLot) (by rfl) T.g_BadLot rfl (fun _ => .ref _)) d_nil))) (d_cons (d_callB call_isXi (c_isE (excJ_ok T.xt (xcd T.ca))) (by rfl) T.m_isinstance bt_isinstance (d_cons (d_var 0) (d_cons (d_glob (v := .ref T.ca.BadKeeper) (d := .ref T.ca.BadKeeper) (by rfl) T.g_BadKeeper rfl (fun _ => .ref _)) d_nil))) d_nil))))))
      (ds_cons (ds_set 1 sc__law_marks_of.nd (d_bin op_add4 (c_add _) (d_var 1) (d_lst (d_cons (d_callB call_isXi (c_isE (excJ_ok T.xt (xcd T.ca))) (by rfl) T.m_isinstance bt_isinstance (d_cons (d_var 0) (d_cons (d_glob (v := .ref T.ca.BadScheme) (d := .ref T.ca.BadScheme) (by rfl) T.g_BadScheme rfl (fun _ => .ref _)) d_nil))) (d_cons (d_callB call_isXi (c_isE (excJ_ok T.xt (xcd T.ca))) (by rfl) T.m_isinstance bt_isinstance (d_cons (d_var 0) (d_cons (d_glob (v := .ref T.ca.BadIll) (d := .ref T.ca.BadIll) (by rfl) T.g_BadIll rfl (fun _ => .ref _)) d_nil))) (d_cons (d_callB call_isXi (c_isE (excJ_ok T.xt (xcd T.ca))) (by rfl) T.m_isinstance bt_isinstance (d_cons (d_var 0) (d_cons (d_glob (v := .ref T.ca.NotSafe) (d := .ref T.ca.NotSafe) (by rfl) T.g_NotSafe rfl (fun _ => .ref _)) d_nil))) d_nil))))))
      (ds_cons (ds_set 1 sc__law_marks_of.nd (d_bin op_add4 (c_add _) (d_var 1) (d_lst (d_cons (d_callB call_isXi (c_isE (excJ_ok T.xt (xcd T.ca))) (by rfl) T.m_isinstance bt_isinstance (d_cons (d_var 0) (d_cons (d_glob (v := .ref T.ca.BadView) (d := .ref T.ca.BadView) (by rfl) T.g_BadView rfl (fun _ => .ref _)) d_nil))) (d_cons (d_callB call_isXi (c_isE (excJ_ok T.xt (xcd T.ca))) (by rfl) T.m_isinstance bt_isinstance (d_cons (d_var 0) (d_cons (d_glob (v := .ref T.ca.BadShape) (d := .ref T.ca.BadShape) (by rfl) T.g_BadShape rfl (fun _ => .ref _)) d_nil))) (d_cons (d_callB call_isXi (c_isE (excJ_ok T.xt (xcd T.ca))) (by rfl) T.m_isinstance bt_isinstance (d_cons (d_var 0) (d_cons (d_glob (v := .ref T.ca.Ringed) (d := .ref T.ca.Ringed) (by rfl) T.g_Ringed rfl (fun _ => .ref _)) d_nil))) d_nil))))))
      (ds_cons (ds_set 1 sc__law_marks_of.nd (d_bin op_add4 (c_add _) (d_var 1) (d_lst (d_cons (d_callB call_isXi (c_isE (excJ_ok T.xt (xcd T.ca))) (by rfl) T.m_isinstance bt_isinstance (d_cons (d_var 0) (d_cons (d_glob (v := .ref T.ca.TooMany) (d := .ref T.ca.TooMany) (by rfl) T.g_TooMany rfl (fun _ => .ref _)) d_nil))) (d_cons (d_callB call_isXi (c_isE (excJ_ok T.xt (xcd T.ca))) (by rfl) T.m_isinstance bt_isinstance (d_cons (d_var 0) (d_cons (d_glob (v := .ref T.ca.BadRow) (d := .ref T.ca.BadRow) (by rfl) T.g_BadRow rfl (fun _ => .ref _)) d_nil))) (d_cons (d_callB call_isXi (c_isE (excJ_ok T.xt (xcd T.ca))) (by rfl) T.m_isinstance bt_isinstance (d_cons (d_var 0) (d_cons (d_glob (v := .ref T.ca.BadText) (d := .ref T.ca.BadText) (by rfl) T.g_BadText rfl (fun _ => .ref _)) d_nil))) d_nil))))))
      (ds_one (ds_ret (d_bin op_add4 (c_add _) (d_var 1) (d_lst (d_cons (d_callB call_isXi (c_isE (excJ_ok T.xt (xcd T.ca))) (by rfl) T.m_isinstance bt_isinstance (d_cons (d_var 0) (d_cons (d_glob (v := .ref T.ca.BadState) (d := .ref T.ca.BadState) (by rfl) T.g_BadState rfl (fun _ => .ref _)) d_nil))) (d_cons (d_callB call_isXi (c_isE (excJ_ok T.xt (xcd T.ca))) (by rfl) T.m_isinstance bt_isinstance (d_cons (d_var 0) (d_cons (d_glob (v := .ref T.ca.BadNumber) (d := .ref T.ca.BadNumber) (by rfl) T.g_BadNumber rfl (fun _ => .ref _)) d_nil))) (d_cons (d_callB call_isXi (c_isE (excJ_ok T.xt (xcd T.ca))) (by rfl) T.m_isinstance bt_isinstance (d_cons (d_var 0) (d_cons (d_glob (v := .ref T.ca.NothingLeft) (d := .ref T.ca.NothingLeft) (by rfl) T.g_NothingLeft rfl (fun _ => .ref _)) d_nil))) d_nil))))))))))))) ?_
  exact k__law_marks_of T.ca
theorem ok__law_is_alone (T : Top K mg) : FnOk P w K mg base CX0 2 T.f__law_is_alone T.d__law_is_alone ["_law_error", "_law_place"] (toSp K [] 2 (S__law_is_alone T.ca)) := by
  refine ok_tree T.F__law_is_alone sc__law_is_alone (fun cdv A outer s H E hr =>
    (ds_cons (ds_setLc 2 rfl sc__law_is_alone.nd (di_range1 (by rfl) T.m_range (d_cons d_int d_nil)) (blkOk_by (N := ["_law_error", "_law_place", "_law_due", "_law_spot"]) (sc := defScope s__law_is_alone) (own := [("_law_spot", 3)]) (by decide +kernel)) (fun _ _ _ _ _ => (dg_name 3 sc__law_is_alone.nd)) (fun _ _ _ _ _ => dts_nil) (fun _ _ _ _ _ => (d_cmp (op_eq3 hr.units) (c_eq _) (d_var 3) (d_var 1) (nomark _))) (by rfl))
      (ds_one (ds_ret (d_and (d_cmp (op_eq3 hr.units) (c_eq _) (d_call ((ok__law_marks_of T).mono (by decide)) hr (by rfl) T.g__law_marks_of T.F__law_marks_of.kp T.b__law_marks_of pass0 (d_cons (d_frz (d_var 0)) d_nil)) (d_var 2) (nomark _)) (d_and (d_callB call_isXi (c_isE (excJ_ok T.xt (xcd T.ca))) (by rfl) T.m_isinstance bt_isinstance (d_cons (d_var 0) (d_cons (d_glob (v := .ref T.ca.KeeperError) (d := .ref T.ca.KeeperError) (by rfl) T.g_KeeperError rfl (fun _ => .ref _)) d_nil))) (d_one (d_callB call_isXi (c_isE (excJ_ok T.xt (xcd T.ca))) (by rfl) T.m_isinstance bt_isinstance (d_cons (d_var 0) (d_cons (d_bltT (by rfl) T.m_ValueError bt_ValueError) d_nil)))))))))) ?_
  exact k__law_is_alone T.ca
theorem ok_law (T : Top K mg) (hS : Keeps S_law 1 9 (r_law T.ca)) : FnG P w K mg base CX0 5 T.f_law T.d_law ["_law_script"] (toSp K [] 1 S_law) := by
  refine okG_tree T.F_law sc_law (fun cdv A outer s H E gz hr => PSs.nox (
    (ds_cons (ds_set 1 sc_law.nd (d_call ((ok__law_begun T).mono (by decide)) hr (by rfl) T.g__law_begun T.F__law_begun.kp T.b__law_begun pass0 (d_cons (d_frz (d_var 0)) d_nil)))
      (ds_cons (ds_for PassesOwn.never rfl (di_range1 (by rfl) T.m_range (d_cons (d_bin op_add4 (c_add _) d_int (d_callB (call_min2 rfl) (c_min2 _) (by rfl) T.m_min bt_min (d_cons (d_callB call_len2 (c_len _) (by rfl) T.m_len bt_len (d_cons (d_var 0) d_nil)) (d_cons d_int d_nil)))) d_nil)) (dg_name 2 sc_law.nd) (ds_cons (ds_set 3 sc_law.nd (d_frz (d_call ((ok__law_any T).mono (by decide)) hr (by rfl) T.g__law_any T.F__law_any.kp T.b__law_any pass0 (d_cons (d_var 1) d_nil))))
      (ds_cons (ds_for PassesOwn.never rfl (di_seq (d_call ((ok__law_with_values T).mono (by decide)) hr (by rfl) T.g__law_with_values T.F__law_with_values.kp T.b__law_with_values pass0 (d_cons (d_frz (d_var 3)) d_nil))) (dg_tup (n := 2) rfl (dg_cons (dg_name 4 sc_law.nd) (dg_cons (dg_name 5 sc_law.nd) dg_nil))) (ds_one (ds_if (PW.pt (d_orT (d_notT (d_tst (d_call ((ok__law_is_alone T).mono (by decide)) hr (by rfl) T.g__law_is_alone T.F__law_is_alone.kp T.b__law_is_alone pass0 (d_cons (d_ix (d_var 5) d_int) (d_cons (d_frz (d_var 4)) d_nil))))) (d_or1T (d_cmpT (op_ne3 hr.units) (c_ne _) (d_callB (call_repr gz hr.units) (c_repr _) (by rfl) T.m_repr bt_repr (d_cons (d_ix (d_var 5) d_int) d_nil)) (d_callB (call_repr gz hr.units) (c_repr _) (by rfl) T.m_repr bt_repr (d_cons (d_var 3) d_nil)) (nomark _))))) (ds_one (ds_ret d_bl)) ds_nil)))
      (ds_cons (ds_set 6 sc_law.nd (d_frz (d_call ((ok__law_pick T).mono (by decide)) hr (by rfl) T.g__law_pick T.F__law_pick.kp T.b__law_pick pass0 (d_cons (d_var 1) (d_cons (d_lst (d_cons d_str (d_cons d_str (d_cons d_str (d_cons d_str d_nil))))) d_nil)))))
      (ds_cons (ds_for PassesOwn.never rfl (di_seq (d_lst (d_cons (d_tup (d_cons d_int (d_cons (d_exc0 T.xi_BadState T.kp_BadState (by rfl) T.g_BadState (d_frz (d_var 6))) d_nil))) (d_cons (d_tup (d_cons d_int (d_cons (d_exc0 T.xi_BadNumber T.kp_BadNumber (by rfl) T.g_BadNumber (d_frz (d_var 6))) d_nil))) (d_cons (d_tup (d_cons d_int (d_cons (d_exc0 T.xi_NothingLeft T.kp_NothingLeft (by rfl) T.g_NothingLeft (d_frz (d_var 6))) d_nil))) d_nil))))) (dg_tup (n := 2) rfl (dg_cons (dg_name 4 sc_law.nd) (dg_cons (dg_name 7 sc_law.nd) dg_nil))) (ds_one (ds_if (d_notT (d_tst (d_call ((ok__law_is_alone T).mono (by decide)) hr (by rfl) T.g__law_is_alone T.F__law_is_alone.kp T.b__law_is_alone pass0 (d_cons (d_frz (d_var 7)) (d_cons (d_frz (d_var 4)) d_nil))))) (ds_one (ds_ret d_bl)) ds_nil)))
      (ds_cons (ds_set 8 sc_law.nd (d_exc0 T.xi_KeeperError T.kp_KeeperError (by rfl) T.g_KeeperError (d_frz (d_var 6))))
      (ds_one (ds_if (PW.pt (d_orT (d_cmpT op_in2 (c_in _) d_bl (d_call ((ok__law_marks_of T).mono (by decide)) hr (by rfl) T.g__law_marks_of T.F__law_marks_of.kp T.b__law_marks_of pass0 (d_cons (d_frz (d_var 8)) d_nil)) rfl) (d_or1T (d_notT (d_tst (d_callB call_isXi (c_isE (excJ_ok T.xt (xcd T.ca))) (by rfl) T.m_isinstance bt_isinstance (d_cons (d_var 8) (d_cons (d_bltT (by rfl) T.m_ValueError bt_ValueError) d_nil)))))))) (ds_one (ds_ret d_bl)) ds_nil))))))))
      (ds_one (ds_ret d_bl)))))) ?_
  exact hS
end
open TLH
def e__law_begun : He5.DefA := { at_ := (fun K => He.ga K "_law_begun"), name := "_law_begun", qual := "_law_begun", params := defArgs s__law_begun, body := defBody s__law_begun, scope := defScope s__law_begun, kwd := [] }
def e__law_mixed : He5.DefA := { at_ := (fun K => He.ga K "_law_mixed"), name := "_law_mixed", qual := "_law_mixed", params := defArgs s__law_mixed, body := defBody s__law_mixed, scope := defScope s__law_mixed, kwd := [] }
def e__law_take : He5.DefA := { at_ := (fun K => He.ga K "_law_take"), name := "_law_take", qual := "_law_take", params := defArgs s__law_take, body := defBody s__law_take, scope := defScope s__law_take, kwd := [] }
def e__law_pick : He5.DefA := { at_ := (fun K => He.ga K "_law_pick"), name := "_law_pick", qual := "_law_pick", params := defArgs s__law_pick, body := defBody s__law_pick, scope := defScope s__law_pick, kwd := [] }
def e__law_any : He5.DefA := { at_ := (fun K => He.ga K "_law_any"), name := "_law_any", qual := "_law_any", params := defArgs s__law_any, body := defBody s__law_any, scope := defScope s__law_any, kwd := [] }
def e__law_with_values : He5.DefA := { at_ := (fun K => He.ga K "_law_with_values"), name := "_law_with_values", qual := "_law_with_values", params := defArgs s__law_with_values, body := defBody s__law_with_values, scope := defScope s__law_with_values, kwd := [] }
def e__law_marks_of : He5.DefA := { at_ := (fun K => He.ga K "_law_marks_of"), name := "_law_marks_of", qual := "_law_marks_of", params := defArgs s__law_marks_of, body := defBody s__law_marks_of, scope := defScope s__law_marks_of, kwd := [] }
def e__law_is_alone : He5.DefA := { at_ := (fun K => He.ga K "_law_is_alone"), name := "_law_is_alone", qual := "_law_is_alone", params := defArgs s__law_is_alone, body := defBody s__law_is_alone, scope := defScope s__law_is_alone, kwd := [] }
def e_law : He5.DefA := { at_ := (fun K => He.ga K "law"), name := "law", qual := "law", params := defArgs s_law, body := defBody s_law, scope := defScope s_law, kwd := [] }
def e_BadIll___init__ : He5.DefA := { at_ := (TLH.mth "BadIll" "__init__"), name := "__init__", qual := "BadIll.__init__", params := defArgs s_BadIll___init__, body := defBody s_BadIll___init__, scope := defScope s_BadIll___init__, kwd := [] }
def e_BadKeeper___init__ : He5.DefA := { at_ := (TLH.mth "BadKeeper" "__init__"), name := "__init__", qual := "BadKeeper.__init__", params := defArgs s_BadKeeper___init__, body := defBody s_BadKeeper___init__, scope := defScope s_BadKeeper___init__, kwd := [] }
def e_BadLot___init__ : He5.DefA := { at_ := (TLH.mth "BadLot" "__init__"), name := "__init__", qual := "BadLot.__init__", params := defArgs s_BadLot___init__, body := defBody s_BadLot___init__, scope := defScope s_BadLot___init__, kwd := [] }
def e_BadRow___init__ : He5.DefA := { at_ := (TLH.mth "BadRow" "__init__"), name := "__init__", qual := "BadRow.__init__", params := defArgs s_BadRow___init__, body := defBody s_BadRow___init__, scope := defScope s_BadRow___init__, kwd := [] }
def e_BadRule___init__ : He5.DefA := { at_ := (TLH.mth "BadRule" "__init__"), name := "__init__", qual := "BadRule.__init__", params := defArgs s_BadRule___init__, body := defBody s_BadRule___init__, scope := defScope s_BadRule___init__, kwd := [] }
def e_BadScheme___init__ : He5.DefA := { at_ := (TLH.mth "BadScheme" "__init__"), name := "__init__", qual := "BadScheme.__init__", params := defArgs s_BadScheme___init__, body := defBody s_BadScheme___init__, scope := defScope s_BadScheme___init__, kwd := [] }
def e_BadShape___init__ : He5.DefA := { at_ := (TLH.mth "BadShape" "__init__"), name := "__init__", qual := "BadShape.__init__", params := defArgs s_BadShape___init__, body := defBody s_BadShape___init__, scope := defScope s_BadShape___init__, kwd := [] }
def e_BadText___init__ : He5.DefA := { at_ := (TLH.mth "BadText" "__init__"), name := "__init__", qual := "BadText.__init__", params := defArgs s_BadText___init__, body := defBody s_BadText___init__, scope := defScope s_BadText___init__, kwd := [] }
def e_BadView___init__ : He5.DefA := { at_ := (TLH.mth "BadView" "__init__"), name := "__init__", qual := "BadView.__init__", params := defArgs s_BadView___init__, body := defBody s_BadView___init__, scope := defScope s_BadView___init__, kwd := [] }
def e_BadWeaving___init__ : He5.DefA := { at_ := (TLH.mth "BadWeaving" "__init__"), name := "__init__", qual := "BadWeaving.__init__", params := defArgs s_BadWeaving___init__, body := defBody s_BadWeaving___init__, scope := defScope s_BadWeaving___init__, kwd := [] }
def e_BadWord___init__ : He5.DefA := { at_ := (TLH.mth "BadWord" "__init__"), name := "__init__", qual := "BadWord.__init__", params := defArgs s_BadWord___init__, body := defBody s_BadWord___init__, scope := defScope s_BadWord___init__, kwd := [] }
def e_NoKeeper___init__ : He5.DefA := { at_ := (TLH.mth "NoKeeper" "__init__"), name := "__init__", qual := "NoKeeper.__init__", params := defArgs s_NoKeeper___init__, body := defBody s_NoKeeper___init__, scope := defScope s_NoKeeper___init__, kwd := [] }
def e_NotSafe___init__ : He5.DefA := { at_ := (TLH.mth "NotSafe" "__init__"), name := "__init__", qual := "NotSafe.__init__", params := defArgs s_NotSafe___init__, body := defBody s_NotSafe___init__, scope := defScope s_NotSafe___init__, kwd := [] }
def e_Ringed___init__ : He5.DefA := { at_ := (TLH.mth "Ringed" "__init__"), name := "__init__", qual := "Ringed.__init__", params := defArgs s_Ringed___init__, body := defBody s_Ringed___init__, scope := defScope s_Ringed___init__, kwd := [] }
def e_TooMany___init__ : He5.DefA := { at_ := (TLH.mth "TooMany" "__init__"), name := "__init__", qual := "TooMany.__init__", params := defArgs s_TooMany___init__, body := defBody s_TooMany___init__, scope := defScope s_TooMany___init__, kwd := [] }
def fnL : List He5.DefA := [e__law_begun, e__law_mixed, e__law_take, e__law_pick, e__law_any, e__law_with_values, e__law_marks_of, e__law_is_alone, e_law, e_BadIll___init__, e_BadKeeper___init__, e_BadLot___init__, e_BadRow___init__, e_BadRule___init__, e_BadScheme___init__, e_BadShape___init__, e_BadText___init__, e_BadView___init__, e_BadWeaving___init__, e_BadWord___init__, e_NoKeeper___init__, e_NotSafe___init__, e_Ringed___init__, e_TooMany___init__]
def faL : List He.Fa := [.glo "_law_begun", .glo "_law_mixed", .glo "_law_take", .glo "_law_pick", .glo "_law_any", .glo "_law_with_values", .glo "_law_marks_of", .glo "_law_is_alone", .glo "law", .glo "BadWord", .glo "NoKeeper", .glo "BadRule", .glo "BadWeaving", .glo "BadLot", .glo "BadKeeper", .glo "BadScheme", .glo "BadIll", .glo "NotSafe", .glo "BadView", .glo "BadShape", .glo "Ringed", .glo "TooMany", .glo "BadRow", .glo "BadText", .glo "BadState", .glo "BadNumber", .glo "NothingLeft", .glo "KeeperError", .free "ValueError", .free "int", .free "isinstance", .free "len", .free "list", .free "min", .free "range", .free "repr"]
def ex0 (K : Fr) : Bool := TX.oexB K (He.ga K "BadIll")
def ex1 (K : Fr) : Bool := TX.iniB K (He.ga K "BadIll") ((TLH.mth "BadIll" "__init__") K)
def ex2 (K : Fr) : Bool := TX.noB K (He.ga K "BadIll") "ill"
def ex3 (K : Fr) : Bool := TX.oexB K (He.ga K "BadKeeper")
def ex4 (K : Fr) : Bool := TX.iniB K (He.ga K "BadKeeper") ((TLH.mth "BadKeeper" "__init__") K)
def ex5 (K : Fr) : Bool := TX.noB K (He.ga K "BadKeeper") "part"
def ex6 (K : Fr) : Bool := TX.oexB K (He.ga K "BadLot")
def ex7 (K : Fr) : Bool := TX.iniB K (He.ga K "BadLot") ((TLH.mth "BadLot" "__init__") K)
def ex8 (K : Fr) : Bool := TX.noB K (He.ga K "BadLot") "at"
def ex9 (K : Fr) : Bool := TX.oexB K (He.ga K "BadRow")
def ex10 (K : Fr) : Bool := TX.iniB K (He.ga K "BadRow") ((TLH.mth "BadRow" "__init__") K)
def ex11 (K : Fr) : Bool := TX.noB K (He.ga K "BadRow") "row"
def ex12 (K : Fr) : Bool := TX.oexB K (He.ga K "BadRule")
def ex13 (K : Fr) : Bool := TX.iniB K (He.ga K "BadRule") ((TLH.mth "BadRule" "__init__") K)
def ex14 (K : Fr) : Bool := TX.noB K (He.ga K "BadRule") "at"
def ex15 (K : Fr) : Bool := TX.oexB K (He.ga K "BadScheme")
def ex16 (K : Fr) : Bool := TX.iniB K (He.ga K "BadScheme") ((TLH.mth "BadScheme" "__init__") K)
def ex17 (K : Fr) : Bool := TX.noB K (He.ga K "BadScheme") "part"
def ex18 (K : Fr) : Bool := TX.oexB K (He.ga K "BadShape")
def ex19 (K : Fr) : Bool := TX.iniB K (He.ga K "BadShape") ((TLH.mth "BadShape" "__init__") K)
def ex20 (K : Fr) : Bool := TX.noB K (He.ga K "BadShape") "shape"
def ex21 (K : Fr) : Bool := TX.oexB K (He.ga K "BadText")
def ex22 (K : Fr) : Bool := TX.iniB K (He.ga K "BadText") ((TLH.mth "BadText" "__init__") K)
def ex23 (K : Fr) : Bool := TX.noB K (He.ga K "BadText") "line"
def ex24 (K : Fr) : Bool := TX.oexB K (He.ga K "BadView")
def ex25 (K : Fr) : Bool := TX.iniB K (He.ga K "BadView") ((TLH.mth "BadView" "__init__") K)
def ex26 (K : Fr) : Bool := TX.noB K (He.ga K "BadView") "view"
def ex27 (K : Fr) : Bool := TX.oexB K (He.ga K "BadWeaving")
def ex28 (K : Fr) : Bool := TX.iniB K (He.ga K "BadWeaving") ((TLH.mth "BadWeaving" "__init__") K)
def ex29 (K : Fr) : Bool := TX.noB K (He.ga K "BadWeaving") "at"
def ex30 (K : Fr) : Bool := TX.oexB K (He.ga K "BadWord")
def ex31 (K : Fr) : Bool := TX.iniB K (He.ga K "BadWord") ((TLH.mth "BadWord" "__init__") K)
def ex32 (K : Fr) : Bool := TX.noB K (He.ga K "BadWord") "thing"
def ex33 (K : Fr) : Bool := TX.oexB K (He.ga K "NoKeeper")
def ex34 (K : Fr) : Bool := TX.iniB K (He.ga K "NoKeeper") ((TLH.mth "NoKeeper" "__init__") K)
def ex35 (K : Fr) : Bool := TX.noB K (He.ga K "NoKeeper") "thing"
def ex36 (K : Fr) : Bool := TX.oexB K (He.ga K "NotSafe")
def ex37 (K : Fr) : Bool := TX.iniB K (He.ga K "NotSafe") ((TLH.mth "NotSafe" "__init__") K)
def ex38 (K : Fr) : Bool := TX.noB K (He.ga K "NotSafe") "ill"
def ex39 (K : Fr) : Bool := TX.oexB K (He.ga K "Ringed")
def ex40 (K : Fr) : Bool := TX.iniB K (He.ga K "Ringed") ((TLH.mth "Ringed" "__init__") K)
def ex41 (K : Fr) : Bool := TX.noB K (He.ga K "Ringed") "ring"
def ex42 (K : Fr) : Bool := TX.oexB K (He.ga K "TooMany")
def ex43 (K : Fr) : Bool := TX.iniB K (He.ga K "TooMany") ((TLH.mth "TooMany" "__init__") K)
def ex44 (K : Fr) : Bool := TX.noB K (He.ga K "TooMany") "most"
def ex45 (K : Fr) : Bool := TX.baseB K (He.ga K "KeeperError")
def ex46 (K : Fr) : Bool := xfB K (He.ga K "BadIll")
def ex47 (K : Fr) : Bool := xfB K (He.ga K "BadKeeper")
def ex48 (K : Fr) : Bool := xfB K (He.ga K "BadLot")
def ex49 (K : Fr) : Bool := xfB K (He.ga K "BadRow")
def ex50 (K : Fr) : Bool := xfB K (He.ga K "BadRule")
def ex51 (K : Fr) : Bool := xfB K (He.ga K "BadScheme")
def ex52 (K : Fr) : Bool := xfB K (He.ga K "BadShape")
def ex53 (K : Fr) : Bool := xfB K (He.ga K "BadText")
def ex54 (K : Fr) : Bool := xfB K (He.ga K "BadView")
def ex55 (K : Fr) : Bool := xfB K (He.ga K "BadWeaving")
def ex56 (K : Fr) : Bool := xfB K (He.ga K "BadWord")
def ex57 (K : Fr) : Bool := xfB K (He.ga K "NoKeeper")
def ex58 (K : Fr) : Bool := xfB K (He.ga K "NotSafe")
def ex59 (K : Fr) : Bool := xfB K (He.ga K "Ringed")
def ex60 (K : Fr) : Bool := xfB K (He.ga K "TooMany")
def ex61 (K : Fr) : Bool := PySem.W.excIn K (He.ga K "BadNumber") [.type "ValueError", .type "Exception", .type "BaseException", .type "object"] "ValueError.__new__"
def ex62 (K : Fr) : Bool := PySem.W.keepIn K (.ref (He.ga K "BadNumber"))
def ex63 (K : Fr) : Bool := PySem.W.excIn K (He.ga K "BadState") [.type "ValueError", .type "Exception", .type "BaseException", .type "object"] "ValueError.__new__"
def ex64 (K : Fr) : Bool := PySem.W.keepIn K (.ref (He.ga K "BadState"))
def ex65 (K : Fr) : Bool := PySem.W.excIn K (He.ga K "KeeperError") [.type "ValueError", .type "Exception", .type "BaseException", .type "object"] "ValueError.__new__"
def ex66 (K : Fr) : Bool := PySem.W.keepIn K (.ref (He.ga K "KeeperError"))
def ex67 (K : Fr) : Bool := PySem.W.excIn K (He.ga K "NothingLeft") [.type "ValueError", .type "Exception", .type "BaseException", .type "object"] "ValueError.__new__"
def ex68 (K : Fr) : Bool := PySem.W.keepIn K (.ref (He.ga K "NothingLeft"))
def ex69 (K : Fr) : Bool := excTabB K (xcs { BadWord := He.ga K "BadWord", NoKeeper := He.ga K "NoKeeper", BadRule := He.ga K "BadRule", BadWeaving := He.ga K "BadWeaving", BadLot := He.ga K "BadLot", BadKeeper := He.ga K "BadKeeper", BadScheme := He.ga K "BadScheme", BadIll := He.ga K "BadIll", NotSafe := He.ga K "NotSafe", BadView := He.ga K "BadView", BadShape := He.ga K "BadShape", Ringed := He.ga K "Ringed", TooMany := He.ga K "TooMany", BadRow := He.ga K "BadRow", BadText := He.ga K "BadText", BadState := He.ga K "BadState", BadNumber := He.ga K "BadNumber", NothingLeft := He.ga K "NothingLeft", KeeperError := He.ga K "KeeperError" }) (xvs { BadWord := He.ga K "BadWord", NoKeeper := He.ga K "NoKeeper", BadRule := He.ga K "BadRule", BadWeaving := He.ga K "BadWeaving", BadLot := He.ga K "BadLot", BadKeeper := He.ga K "BadKeeper", BadScheme := He.ga K "BadScheme", BadIll := He.ga K "BadIll", NotSafe := He.ga K "NotSafe", BadView := He.ga K "BadView", BadShape := He.ga K "BadShape", Ringed := He.ga K "Ringed", TooMany := He.ga K "TooMany", BadRow := He.ga K "BadRow", BadText := He.ga K "BadText", BadState := He.ga K "BadState", BadNumber := He.ga K "BadNumber", NothingLeft := He.ga K "NothingLeft", KeeperError := He.ga K "KeeperError" }) xtab
def exL : List (Fr → Bool) := [ex0, ex1, ex2, ex3, ex4, ex5, ex6, ex7, ex8, ex9, ex10, ex11, ex12, ex13, ex14, ex15, ex16, ex17, ex18, ex19, ex20, ex21, ex22, ex23, ex24, ex25, ex26, ex27, ex28, ex29, ex30, ex31, ex32, ex33, ex34, ex35, ex36, ex37, ex38, ex39, ex40, ex41, ex42, ex43, ex44, ex45, ex46, ex47, ex48, ex49, ex50, ex51, ex52, ex53, ex54, ex55, ex56, ex57, ex58, ex59, ex60, ex61, ex62, ex63, ex64, ex65, ex66, ex67, ex68, ex69]
def exA (K : Fr) : Bool := exL.all fun f => f K
def tsL : List (Fr → Addr) := []
def as0 : List Addr := [3, 2, 0, 1, 4, 5, 6, 7, 8, 9, 10, 11, 12, 13, 14, 15, 16, 17, 18, 19, 20, 21, 22, 23, 24, 25, 26, 27, 28, 29, 30, 31, 32, 33, 34, 35, 36, 37, 38, 39, 40, 41, 42, 43, 44, 45, 46, 47, 48, 49, 50, 51, 52, 53, 54, 55, 56, 57, 58, 59, 60, 61, 62, 63, 64, 65, 66, 67, 68, 69, 70, 71, 72, 73, 74, 75, 76, 77, 78, 79, 80, 81, 82, 83, 84, 85, 86, 87, 88, 89, 90, 91, 92, 93, 94, 95, 96, 97, 98, 99]
def as1 : List Addr := [100, 101, 102, 103, 104, 105, 106, 107, 108, 109, 110, 111, 112, 113, 114, 115, 116, 117, 118, 119, 120, 121, 122, 123, 124, 125, 126, 127, 128, 129, 130, 131, 132, 133, 134, 135, 136, 137, 138, 139, 140, 141, 142, 143, 144, 145, 146, 147, 148, 149, 150, 151, 152, 153, 154, 155, 156, 157, 158, 159, 160, 161, 162, 163, 164, 165, 166, 167, 168, 169, 170, 171, 172, 173, 174, 175, 176, 177, 178, 179, 180, 181, 182, 183, 184, 185, 186, 187, 188, 189, 190, 191, 192, 193, 194, 195, 196, 197, 198, 199]
def as2 : List Addr := [200, 201, 202, 203, 204, 205, 206, 207, 208, 209, 210, 211, 212, 213, 214, 215, 216, 217, 218, 219, 220, 221, 222, 223, 224, 225, 226, 227, 228, 229, 230, 231, 232, 233, 234, 235, 236, 237, 238, 239, 240, 241, 242, 243, 244, 245, 246, 247, 248, 249, 250, 251, 252, 253, 254, 255, 256, 257, 258, 259, 260, 261, 262, 263, 264, 265, 266, 267, 268, 269, 270, 271, 272, 273, 274, 275, 276, 277, 278, 279, 280, 281, 282, 283, 284, 285, 286, 287, 288, 289, 290, 291, 292, 293, 294, 295, 296, 297, 298, 299]
def as3 : List Addr := [300, 301, 302, 303, 304, 305, 306, 307, 308, 309, 310, 311, 312, 313, 314, 315, 316, 317, 318, 319, 320, 321, 322, 323, 324, 325, 326, 327, 328, 329, 330, 331, 332, 333, 334, 335, 336, 337, 338, 339, 340, 341, 342, 343, 344, 345, 346, 347, 348, 349, 350, 351, 352, 353, 354, 355, 356, 357, 358, 359, 360, 361, 362, 363, 364, 365, 366, 367, 368, 369, 370, 371, 372, 373, 374, 375, 376, 377, 378, 379, 380, 381, 382, 383, 384, 385, 386, 387, 388, 389, 390, 391, 392, 393, 394, 395, 396, 397, 398, 399]
def as4 : List Addr := [400, 401, 402, 403, 404, 405, 406, 407, 408, 409, 410, 411, 412, 413, 414, 415, 416, 417, 418, 419, 420, 421, 422, 423, 424, 425, 426, 427, 428, 429, 430, 431, 432, 433, 434, 435, 436, 437, 438, 439, 440, 441, 442, 443, 444, 445, 446, 447, 448, 449, 450, 451, 452, 453, 454, 455, 456, 457, 458, 459, 460, 461, 462, 463, 464, 465, 466, 467, 468, 469, 470, 471, 472, 473, 474, 475, 476, 477, 478, 479, 480, 481, 482, 483, 484, 485, 486, 487, 488, 489, 490, 491, 492, 493, 494, 495, 496, 497, 498, 499]
def as5 : List Addr := [500, 501, 502, 503, 504, 505, 506, 507, 508, 509, 510, 511, 512, 513, 514, 515, 516, 517, 518, 519, 520, 521, 522, 523, 524, 525, 526, 527, 528, 529, 530, 531, 532, 533, 534, 535, 536, 537, 538, 539, 540, 541, 542, 543, 544, 545, 546, 547, 548, 549, 550, 551, 552, 553, 554, 555, 556, 557, 558, 559, 560, 561, 562, 563, 564, 565, 566, 567, 568, 569, 570, 571, 572, 573, 574, 575, 576, 577, 578, 579, 580, 581, 582, 583, 584, 585, 586, 587, 588, 589, 590, 591, 592, 593, 594, 595, 596, 597, 598, 599]
def as6 : List Addr := [600, 601, 602, 603, 604, 605, 606, 607, 608, 609, 610, 611, 612, 613, 614, 615, 616, 617, 618, 619, 620, 621, 622, 623, 624, 625, 626, 627, 628, 629, 630, 631, 632, 633, 634, 635, 636, 637, 638, 639, 640, 641, 642, 643, 644, 645, 646, 647, 648, 649, 650, 651, 652, 653, 654, 655, 656, 657, 658, 659, 660, 661, 662, 663, 664, 665, 666, 667, 668, 669, 670, 671, 672, 673, 674, 675, 676, 677, 678, 679, 680, 681, 682, 683, 684, 685, 686, 687, 688, 689, 690, 691, 692, 693, 694, 695, 696, 697, 698, 699]
def as7 : List Addr := [700, 701, 702, 703, 704, 705, 706, 707, 708, 709, 710, 711, 712, 713, 714, 715, 716, 717, 718, 719, 720, 721, 722, 723, 724, 725, 726, 727, 728, 729, 730, 731, 732, 733, 734, 735, 736, 737, 738, 739, 740, 741, 742, 743, 744, 745, 746, 747, 748, 749, 750, 751, 752, 753, 754, 755, 756, 757, 758, 759, 760, 761, 762, 763, 764, 765, 766, 767, 768, 769, 770, 771, 772, 773, 774, 775, 776, 777, 778, 779, 780, 781, 782, 783, 784, 785, 786, 787, 788, 789, 790, 791, 792, 793, 794, 795, 796, 797, 798, 799]
def as8 : List Addr := [800, 801, 802, 803, 804, 805, 806, 807, 808, 809, 810, 811, 812, 813, 814, 815, 816, 817, 818, 819, 820, 821, 822, 823, 824, 825, 826, 827, 828, 829, 830, 831, 832, 833, 834, 835, 836, 837, 838, 839, 840, 841, 842, 843, 844, 845, 846, 847, 848, 849, 850, 851, 852, 853, 854, 855, 856, 857, 858, 859, 860, 861, 862, 863, 864, 865, 866, 867, 868, 869, 870, 871, 872, 873, 874, 875, 876, 877, 878, 879, 880, 881, 882, 883, 884, 885, 886, 887, 888, 889, 890, 891, 892, 893, 894, 895, 896, 897, 898, 899]
def as9 : List Addr := [900, 901, 902, 903, 904, 905, 906, 907, 908, 909, 910, 911, 912, 913, 914, 915, 916, 917, 918, 919, 920, 921, 922, 923, 924, 925, 926, 927, 928, 929, 930, 931, 932, 933, 934, 935, 936, 937, 938, 939, 940, 941, 942, 943, 944, 945, 946, 947, 948, 949, 950, 951, 952, 953, 954, 955, 956, 957, 958, 959, 960, 961, 962, 963, 964, 965, 966, 967, 968, 969, 970, 971, 972, 973, 974, 975, 976, 977, 978, 979, 980, 981, 982, 983, 984, 985, 986, 987, 988, 989, 990, 991, 992, 993, 994, 995, 996, 997, 998, 999]
def as10 : List Addr := [1000, 1001, 1002, 1003, 1004, 1005, 1006, 1007, 1008, 1009, 1010, 1011, 1012, 1013, 1014, 1015, 1016, 1017, 1018, 1019, 1020, 1021, 1022, 1023, 1024, 1025, 1026, 1027, 1028, 1029, 1030, 1031, 1032, 1033, 1034, 1035, 1036, 1037, 1038, 1039, 1040, 1041, 1042, 1043, 1044, 1045, 1046, 1047, 1048, 1049, 1050, 1051, 1052, 1053, 1054, 1055, 1056, 1057, 1058, 1059, 1060, 1061, 1062, 1063, 1064, 1065, 1066, 1067, 1068, 1069, 1070, 1071, 1072, 1073, 1074, 1075, 1076, 1077, 1078, 1079, 1080, 1081, 1082, 1083, 1084, 1085, 1086, 1087, 1088, 1089, 1090, 1091, 1092, 1093, 1094, 1095, 1096, 1097, 1098, 1099]
def as11 : List Addr := [1100, 1101, 1102, 1103, 1104, 1105, 1106, 1107, 1108, 1109, 1110, 1111, 1112, 1113, 1114, 1115, 1116, 1117, 1118, 1119, 1120, 1121, 1122, 1123, 1124, 1125, 1126, 1127, 1128, 1129, 1130, 1131, 1132, 1133, 1134, 1135, 1136, 1137, 1138, 1139, 1140, 1141, 1142, 1143, 1144, 1145, 1146, 1147, 1148, 1149, 1150, 1151, 1152, 1153, 1154, 1155, 1156, 1157, 1158, 1159, 1160, 1161, 1162, 1163, 1164, 1165, 1166, 1167, 1168, 1169, 1170, 1171, 1172, 1173, 1174, 1175, 1176, 1177, 1178, 1179, 1180, 1181, 1182, 1183, 1184, 1185, 1186, 1187, 1188, 1189, 1190, 1191, 1192, 1193, 1194, 1195, 1196, 1197, 1198, 1199]
def as12 : List Addr := [1200, 1201, 1202, 1203, 1204, 1205, 1206, 1207, 1208, 1209, 1210, 1211, 1212, 1213, 1214, 1215, 1216, 1217, 1218, 1219, 1220, 1221, 1222, 1223, 1224, 1225, 1226, 1227, 1228, 1229, 1230, 1231, 1232, 1233, 1234, 1235, 1236, 1237, 1238, 1239, 1240, 1241, 1242, 1243, 1244, 1245, 1246, 1247, 1248, 1249, 1250, 1251, 1252, 1253, 1254, 1255, 1256, 1257, 1258, 1259, 1260, 1261, 1262, 1263, 1264, 1265, 1266, 1267, 1268, 1269, 1270, 1271, 1272, 1273, 1274, 1275, 1276, 1277, 1278, 1279, 1280, 1281, 1282, 1283, 1284, 1285, 1286, 1287, 1288, 1289, 1290, 1291, 1292, 1293, 1294, 1295, 1296, 1297, 1298, 1299]
def as13 : List Addr := [1300, 1301, 1302, 1303, 1304, 1305, 1306, 1307, 1308, 1309, 1310, 1311, 1312, 1313, 1314, 1315, 1316, 1317, 1318, 1319, 1320, 1321, 1322, 1323, 1324, 1325, 1326, 1327, 1328, 1329, 1330, 1331, 1332, 1333, 1334, 1335, 1336, 1337, 1338, 1339, 1340, 1341, 1342, 1343, 1344, 1345, 1346, 1347, 1348, 1349, 1350, 1351, 1352, 1353, 1354, 1355, 1356, 1357, 1358, 1359, 1360, 1361, 1362, 1363, 1364, 1365, 1366, 1367, 1368, 1369, 1370, 1371, 1372, 1373, 1374, 1375, 1376, 1377, 1378, 1379, 1380, 1381, 1382, 1383, 1384, 1385, 1386, 1387, 1388, 1389, 1390, 1391, 1392, 1393, 1394, 1395, 1396, 1397, 1398, 1399]
def as14 : List Addr := [1400, 1401, 1402, 1403, 1404, 1405, 1406, 1407, 1408, 1409, 1410, 1411, 1412, 1413, 1414, 1415, 1416, 1417, 1418, 1419, 1420, 1421, 1422, 1423, 1424, 1425, 1426, 1427, 1428, 1429, 1430, 1431, 1432, 1433, 1434, 1435, 1436, 1437, 1438, 1439, 1440, 1441, 1442, 1443, 1444, 1445, 1446, 1447, 1448, 1449, 1450, 1451, 1452, 1453, 1454, 1455, 1456, 1457, 1458, 1459, 1460, 1461, 1462, 1463, 1464, 1465, 1466, 1467, 1468, 1469, 1470, 1471, 1472, 1473, 1474, 1475, 1476, 1477, 1478, 1479, 1480, 1481, 1482, 1483, 1484, 1485, 1486, 1487, 1488, 1489, 1490, 1491, 1492, 1493, 1494, 1495, 1496, 1497, 1498, 1499]
def asL : List Addr := as0 ++ (as1 ++ (as2 ++ (as3 ++ (as4 ++ (as5 ++ (as6 ++ (as7 ++ (as8 ++ (as9 ++ (as10 ++ (as11 ++ (as12 ++ (as13 ++ (as14))))))))))))))
def hkL : PySem.W.Hook := hookZ asL faL fnL tsL exA
def lo0 : List Str := ["__name__", "KeeperError", "BadWord", "BadView", "BadKeeper", "BadRule", "BadScheme", "NoKeeper", "BadIll", "BadWeaving", "BadShape", "BadLot", "BadState", "NotSafe", "Ringed", "BadNumber", "TooMany", "BadRow", "NothingLeft", "BadText", "_law_begun", "_law_mixed", "_law_take", "_law_pick", "_law_any", "_law_with_values", "_law_marks_of", "_law_is_alone"]
def loL : List Str := lo0
abbrev RL : PySem.W.OpenRow := PySem.W.OpenLaw.row PySem.Challenge.rw_latekeepers_k01_errors_apart
theorem run_eq (w : World) : HandSHeadRun.RunEq RL (PySem.W.view RL.prog [29]) hkL (seenZ asL faL fnL tsL exA) 12000 loL w := by
  intro os
  kernel_rfl
theorem exF {K : Fr} (h : exA K = true) (j : Nat) {f : Fr → Bool} (e : exL[j]? = some f) : f K = true := List.all_eq_true.mp h f (List.mem_of_getElem? e)
theorem top_of {K : Fr} {h : Heap} {mg : Str → Option Value} (X : K.In h) (G : h.Ns mainGlobals mg) (c : SaysY faL fnL tsL exA h K) : ∃ T : Top K mg, mg "law" = some (.ref T.f_law) := by
  obtain ⟨d__law_begun, F__law_begun⟩ := c.defs e__law_begun (List.mem_of_getElem? (i := 0) rfl)
  obtain ⟨d__law_mixed, F__law_mixed⟩ := c.defs e__law_mixed (List.mem_of_getElem? (i := 1) rfl)
  obtain ⟨d__law_take, F__law_take⟩ := c.defs e__law_take (List.mem_of_getElem? (i := 2) rfl)
  obtain ⟨d__law_pick, F__law_pick⟩ := c.defs e__law_pick (List.mem_of_getElem? (i := 3) rfl)
  obtain ⟨d__law_any, F__law_any⟩ := c.defs e__law_any (List.mem_of_getElem? (i := 4) rfl)
  obtain ⟨d__law_with_values, F__law_with_values⟩ := c.defs e__law_with_values (List.mem_of_getElem? (i := 5) rfl)
  obtain ⟨d__law_marks_of, F__law_marks_of⟩ := c.defs e__law_marks_of (List.mem_of_getElem? (i := 6) rfl)
  obtain ⟨d__law_is_alone, F__law_is_alone⟩ := c.defs e__law_is_alone (List.mem_of_getElem? (i := 7) rfl)
  obtain ⟨d_law, F_law⟩ := c.defs e_law (List.mem_of_getElem? (i := 8) rfl)
  obtain ⟨d_BadIll___init__, F_BadIll___init__⟩ := c.defs e_BadIll___init__ (List.mem_of_getElem? (i := 9) rfl)
  obtain ⟨d_BadKeeper___init__, F_BadKeeper___init__⟩ := c.defs e_BadKeeper___init__ (List.mem_of_getElem? (i := 10) rfl)
  obtain ⟨d_BadLot___init__, F_BadLot___init__⟩ := c.defs e_BadLot___init__ (List.mem_of_getElem? (i := 11) rfl)
  obtain ⟨d_BadRow___init__, F_BadRow___init__⟩ := c.defs e_BadRow___init__ (List.mem_of_getElem? (i := 12) rfl)
  obtain ⟨d_BadRule___init__, F_BadRule___init__⟩ := c.defs e_BadRule___init__ (List.mem_of_getElem? (i := 13) rfl)
  obtain ⟨d_BadScheme___init__, F_BadScheme___init__⟩ := c.defs e_BadScheme___init__ (List.mem_of_getElem? (i := 14) rfl)
  obtain ⟨d_BadShape___init__, F_BadShape___init__⟩ := c.defs e_BadShape___init__ (List.mem_of_getElem? (i := 15) rfl)
  obtain ⟨d_BadText___init__, F_BadText___init__⟩ := c.defs e_BadText___init__ (List.mem_of_getElem? (i := 16) rfl)
  obtain ⟨d_BadView___init__, F_BadView___init__⟩ := c.defs e_BadView___init__ (List.mem_of_getElem? (i := 17) rfl)
  obtain ⟨d_BadWeaving___init__, F_BadWeaving___init__⟩ := c.defs e_BadWeaving___init__ (List.mem_of_getElem? (i := 18) rfl)
  obtain ⟨d_BadWord___init__, F_BadWord___init__⟩ := c.defs e_BadWord___init__ (List.mem_of_getElem? (i := 19) rfl)
  obtain ⟨d_NoKeeper___init__, F_NoKeeper___init__⟩ := c.defs e_NoKeeper___init__ (List.mem_of_getElem? (i := 20) rfl)
  obtain ⟨d_NotSafe___init__, F_NotSafe___init__⟩ := c.defs e_NotSafe___init__ (List.mem_of_getElem? (i := 21) rfl)
  obtain ⟨d_Ringed___init__, F_Ringed___init__⟩ := c.defs e_Ringed___init__ (List.mem_of_getElem? (i := 22) rfl)
  obtain ⟨d_TooMany___init__, F_TooMany___init__⟩ := c.defs e_TooMany___init__ (List.mem_of_getElem? (i := 23) rfl)
  refine ⟨{
    ca := { BadWord := He.ga K "BadWord", NoKeeper := He.ga K "NoKeeper", BadRule := He.ga K "BadRule", BadWeaving := He.ga K "BadWeaving", BadLot := He.ga K "BadLot", BadKeeper := He.ga K "BadKeeper", BadScheme := He.ga K "BadScheme", BadIll := He.ga K "BadIll", NotSafe := He.ga K "NotSafe", BadView := He.ga K "BadView", BadShape := He.ga K "BadShape", Ringed := He.ga K "Ringed", TooMany := He.ga K "TooMany", BadRow := He.ga K "BadRow", BadText := He.ga K "BadText", BadState := He.ga K "BadState", BadNumber := He.ga K "BadNumber", NothingLeft := He.ga K "NothingLeft", KeeperError := He.ga K "KeeperError" },
    g_BadWord := He.glo_ok X G (c.facts (.glo "BadWord") (List.mem_of_getElem? (i := 9) rfl)),
    g_NoKeeper := He.glo_ok X G (c.facts (.glo "NoKeeper") (List.mem_of_getElem? (i := 10) rfl)),
    g_BadRule := He.glo_ok X G (c.facts (.glo "BadRule") (List.mem_of_getElem? (i := 11) rfl)),
    g_BadWeaving := He.glo_ok X G (c.facts (.glo "BadWeaving") (List.mem_of_getElem? (i := 12) rfl)),
    g_BadLot := He.glo_ok X G (c.facts (.glo "BadLot") (List.mem_of_getElem? (i := 13) rfl)),
    g_BadKeeper := He.glo_ok X G (c.facts (.glo "BadKeeper") (List.mem_of_getElem? (i := 14) rfl)),
    g_BadScheme := He.glo_ok X G (c.facts (.glo "BadScheme") (List.mem_of_getElem? (i := 15) rfl)),
    g_BadIll := He.glo_ok X G (c.facts (.glo "BadIll") (List.mem_of_getElem? (i := 16) rfl)),
    g_NotSafe := He.glo_ok X G (c.facts (.glo "NotSafe") (List.mem_of_getElem? (i := 17) rfl)),
    g_BadView := He.glo_ok X G (c.facts (.glo "BadView") (List.mem_of_getElem? (i := 18) rfl)),
    g_BadShape := He.glo_ok X G (c.facts (.glo "BadShape") (List.mem_of_getElem? (i := 19) rfl)),
    g_Ringed := He.glo_ok X G (c.facts (.glo "Ringed") (List.mem_of_getElem? (i := 20) rfl)),
    g_TooMany := He.glo_ok X G (c.facts (.glo "TooMany") (List.mem_of_getElem? (i := 21) rfl)),
    g_BadRow := He.glo_ok X G (c.facts (.glo "BadRow") (List.mem_of_getElem? (i := 22) rfl)),
    g_BadText := He.glo_ok X G (c.facts (.glo "BadText") (List.mem_of_getElem? (i := 23) rfl)),
    g_BadState := He.glo_ok X G (c.facts (.glo "BadState") (List.mem_of_getElem? (i := 24) rfl)),
    g_BadNumber := He.glo_ok X G (c.facts (.glo "BadNumber") (List.mem_of_getElem? (i := 25) rfl)),
    g_NothingLeft := He.glo_ok X G (c.facts (.glo "NothingLeft") (List.mem_of_getElem? (i := 26) rfl)),
    g_KeeperError := He.glo_ok X G (c.facts (.glo "KeeperError") (List.mem_of_getElem? (i := 27) rfl)),
    ox_BadIll := TX.oex_of (exF c.more 0 rfl : ex0 K = true),
    f_BadIll___init__ := (TLH.mth "BadIll" "__init__") K, d_BadIll___init__ := d_BadIll___init__, F_BadIll___init__ := He5.fun_of F_BadIll___init__,
    bi_BadIll := (He5.fun_of (st := s_BadIll___init__) F_BadIll___init__).binds (ps := ["self", "ill"]) fun _ _ _ _ _ _ us hl => match us, hl with | [_, _], _ => rfl,
    ic_BadIll := TX.ini_of (exF c.more 1 rfl : ex1 K = true),
    no_BadIll_ill := TX.no_of (exF c.more 2 rfl : ex2 K = true),
    ox_BadKeeper := TX.oex_of (exF c.more 3 rfl : ex3 K = true),
    f_BadKeeper___init__ := (TLH.mth "BadKeeper" "__init__") K, d_BadKeeper___init__ := d_BadKeeper___init__, F_BadKeeper___init__ := He5.fun_of F_BadKeeper___init__,
    bi_BadKeeper := (He5.fun_of (st := s_BadKeeper___init__) F_BadKeeper___init__).binds (ps := ["self", "part"]) fun _ _ _ _ _ _ us hl => match us, hl with | [_, _], _ => rfl,
    ic_BadKeeper := TX.ini_of (exF c.more 4 rfl : ex4 K = true),
    no_BadKeeper_part := TX.no_of (exF c.more 5 rfl : ex5 K = true),
    ox_BadLot := TX.oex_of (exF c.more 6 rfl : ex6 K = true),
    f_BadLot___init__ := (TLH.mth "BadLot" "__init__") K, d_BadLot___init__ := d_BadLot___init__, F_BadLot___init__ := He5.fun_of F_BadLot___init__,
    bi_BadLot := (He5.fun_of (st := s_BadLot___init__) F_BadLot___init__).binds (ps := ["self", "at"]) fun _ _ _ _ _ _ us hl => match us, hl with | [_, _], _ => rfl,
    ic_BadLot := TX.ini_of (exF c.more 7 rfl : ex7 K = true),
    no_BadLot_at := TX.no_of (exF c.more 8 rfl : ex8 K = true),
    ox_BadRow := TX.oex_of (exF c.more 9 rfl : ex9 K = true),
    f_BadRow___init__ := (TLH.mth "BadRow" "__init__") K, d_BadRow___init__ := d_BadRow___init__, F_BadRow___init__ := He5.fun_of F_BadRow___init__,
    bi_BadRow := (He5.fun_of (st := s_BadRow___init__) F_BadRow___init__).binds (ps := ["self", "row"]) fun _ _ _ _ _ _ us hl => match us, hl with | [_, _], _ => rfl,
    ic_BadRow := TX.ini_of (exF c.more 10 rfl : ex10 K = true),
    no_BadRow_row := TX.no_of (exF c.more 11 rfl : ex11 K = true),
    ox_BadRule := TX.oex_of (exF c.more 12 rfl : ex12 K = true),
    f_BadRule___init__ := (TLH.mth "BadRule" "__init__") K, d_BadRule___init__ := d_BadRule___init__, F_BadRule___init__ := He5.fun_of F_BadRule___init__,
    bi_BadRule := (He5.fun_of (st := s_BadRule___init__) F_BadRule___init__).binds (ps := ["self", "at"]) fun _ _ _ _ _ _ us hl => match us, hl with | [_, _], _ => rfl,
    ic_BadRule := TX.ini_of (exF c.more 13 rfl : ex13 K = true),
    no_BadRule_at := TX.no_of (exF c.more 14 rfl : ex14 K = true),
    ox_BadScheme := TX.oex_of (exF c.more 15 rfl : ex15 K = true),
    f_BadScheme___init__ := (TLH.mth "BadScheme" "__init__") K, d_BadScheme___init__ := d_BadScheme___init__, F_BadScheme___init__ := He5.fun_of F_BadScheme___init__,
    bi_BadScheme := (He5.fun_of (st := s_BadScheme___init__) F_BadScheme___init__).binds (ps := ["self", "part"]) fun _ _ _ _ _ _ us hl => match us, hl with | [_, _], _ => rfl,
    ic_BadScheme := TX.ini_of (exF c.more 16 rfl : ex16 K = true),
    no_BadScheme_part := TX.no_of (exF c.more 17 rfl : ex17 K = true),
    ox_BadShape := TX.oex_of (exF c.more 18 rfl : ex18 K = true),
    f_BadShape___init__ := (TLH.mth "BadShape" "__init__") K, d_BadShape___init__ := d_BadShape___init__, F_BadShape___init__ := He5.fun_of F_BadShape___init__,
    bi_BadShape := (He5.fun_of (st := s_BadShape___init__) F_BadShape___init__).binds (ps := ["self", "shape"]) fun _ _ _ _ _ _ us hl => match us, hl with | [_, _], _ => rfl,
    ic_BadShape := TX.ini_of (exF c.more 19 rfl : ex19 K = true),
    no_BadShape_shape := TX.no_of (exF c.more 20 rfl : ex20 K = true),
    ox_BadText := TX.oex_of (exF c.more 21 rfl : ex21 K = true),
    f_BadText___init__ := (TLH.mth "BadText" "__init__") K, d_BadText___init__ := d_BadText___init__, F_BadText___init__ := He5.fun_of F_BadText___init__,
    bi_BadText := (He5.fun_of (st := s_BadText___init__) F_BadText___init__).binds (ps := ["self", "line"]) fun _ _ _ _ _ _ us hl => match us, hl with | [_, _], _ => rfl,
    ic_BadText := TX.ini_of (exF c.more 22 rfl : ex22 K = true),
    no_BadText_line := TX.no_of (exF c.more 23 rfl : ex23 K = true),
    ox_BadView := TX.oex_of (exF c.more 24 rfl : ex24 K = true),
    f_BadView___init__ := (TLH.mth "BadView" "__init__") K, d_BadView___init__ := d_BadView___init__, F_BadView___init__ := He5.fun_of F_BadView___init__,
    bi_BadView := (He5.fun_of (st := s_BadView___init__) F_BadView___init__).binds (ps := ["self", "view"]) fun _ _ _ _ _ _ us hl => match us, hl with | [_, _], _ => rfl,
    ic_BadView := TX.ini_of (exF c.more 25 rfl : ex25 K = true),
    no_BadView_view := TX.no_of (exF c.more 26 rfl : ex26 K = true),
    ox_BadWeaving := TX.oex_of (exF c.more 27 rfl : ex27 K = true),
    f_BadWeaving___init__ := (TLH.mth "BadWeaving" "__init__") K, d_BadWeaving___init__ := d_BadWeaving___init__, F_BadWeaving___init__ := He5.fun_of F_BadWeaving___init__,
    bi_BadWeaving := (He5.fun_of (st := s_BadWeaving___init__) F_BadWeaving___init__).binds (ps := ["self", "at"]) fun _ _ _ _ _ _ us hl => match us, hl with | [_, _], _ => rfl,
    ic_BadWeaving := TX.ini_of (exF c.more 28 rfl : ex28 K = true),
    no_BadWeaving_at := TX.no_of (exF c.more 29 rfl : ex29 K = true),
    ox_BadWord := TX.oex_of (exF c.more 30 rfl : ex30 K = true),
    f_BadWord___init__ := (TLH.mth "BadWord" "__init__") K, d_BadWord___init__ := d_BadWord___init__, F_BadWord___init__ := He5.fun_of F_BadWord___init__,
    bi_BadWord := (He5.fun_of (st := s_BadWord___init__) F_BadWord___init__).binds (ps := ["self", "thing"]) fun _ _ _ _ _ _ us hl => match us, hl with | [_, _], _ => rfl,
    ic_BadWord := TX.ini_of (exF c.more 31 rfl : ex31 K = true),
    no_BadWord_thing := TX.no_of (exF c.more 32 rfl : ex32 K = true),
    ox_NoKeeper := TX.oex_of (exF c.more 33 rfl : ex33 K = true),
    f_NoKeeper___init__ := (TLH.mth "NoKeeper" "__init__") K, d_NoKeeper___init__ := d_NoKeeper___init__, F_NoKeeper___init__ := He5.fun_of F_NoKeeper___init__,
    bi_NoKeeper := (He5.fun_of (st := s_NoKeeper___init__) F_NoKeeper___init__).binds (ps := ["self", "thing"]) fun _ _ _ _ _ _ us hl => match us, hl with | [_, _], _ => rfl,
    ic_NoKeeper := TX.ini_of (exF c.more 34 rfl : ex34 K = true),
    no_NoKeeper_thing := TX.no_of (exF c.more 35 rfl : ex35 K = true),
    ox_NotSafe := TX.oex_of (exF c.more 36 rfl : ex36 K = true),
    f_NotSafe___init__ := (TLH.mth "NotSafe" "__init__") K, d_NotSafe___init__ := d_NotSafe___init__, F_NotSafe___init__ := He5.fun_of F_NotSafe___init__,
    bi_NotSafe := (He5.fun_of (st := s_NotSafe___init__) F_NotSafe___init__).binds (ps := ["self", "ill"]) fun _ _ _ _ _ _ us hl => match us, hl with | [_, _], _ => rfl,
    ic_NotSafe := TX.ini_of (exF c.more 37 rfl : ex37 K = true),
    no_NotSafe_ill := TX.no_of (exF c.more 38 rfl : ex38 K = true),
    ox_Ringed := TX.oex_of (exF c.more 39 rfl : ex39 K = true),
    f_Ringed___init__ := (TLH.mth "Ringed" "__init__") K, d_Ringed___init__ := d_Ringed___init__, F_Ringed___init__ := He5.fun_of F_Ringed___init__,
    bi_Ringed := (He5.fun_of (st := s_Ringed___init__) F_Ringed___init__).binds (ps := ["self", "ring"]) fun _ _ _ _ _ _ us hl => match us, hl with | [_, _], _ => rfl,
    ic_Ringed := TX.ini_of (exF c.more 40 rfl : ex40 K = true),
    no_Ringed_ring := TX.no_of (exF c.more 41 rfl : ex41 K = true),
    ox_TooMany := TX.oex_of (exF c.more 42 rfl : ex42 K = true),
    f_TooMany___init__ := (TLH.mth "TooMany" "__init__") K, d_TooMany___init__ := d_TooMany___init__, F_TooMany___init__ := He5.fun_of F_TooMany___init__,
    bi_TooMany := (He5.fun_of (st := s_TooMany___init__) F_TooMany___init__).binds (ps := ["self", "most"]) fun _ _ _ _ _ _ us hl => match us, hl with | [_, _], _ => rfl,
    ic_TooMany := TX.ini_of (exF c.more 43 rfl : ex43 K = true),
    no_TooMany_most := TX.no_of (exF c.more 44 rfl : ex44 K = true),
    kx_BadIll := kbn_mkN 1 [0] (He5.fun_of (st := s_BadIll___init__) F_BadIll___init__) fun _ _ _ _ _ _ us ws h1 h2 => match us, ws, h1, h2 with | [_], [_], _, _ => rfl,
    kx_BadKeeper := kbn_mkN 1 [0] (He5.fun_of (st := s_BadKeeper___init__) F_BadKeeper___init__) fun _ _ _ _ _ _ us ws h1 h2 => match us, ws, h1, h2 with | [_], [_], _, _ => rfl,
    kx_BadLot := kbn_mkN 1 [0] (He5.fun_of (st := s_BadLot___init__) F_BadLot___init__) fun _ _ _ _ _ _ us ws h1 h2 => match us, ws, h1, h2 with | [_], [_], _, _ => rfl,
    kx_BadRow := kbn_mkN 1 [0] (He5.fun_of (st := s_BadRow___init__) F_BadRow___init__) fun _ _ _ _ _ _ us ws h1 h2 => match us, ws, h1, h2 with | [_], [_], _, _ => rfl,
    kx_BadRule := kbn_mkN 1 [0] (He5.fun_of (st := s_BadRule___init__) F_BadRule___init__) fun _ _ _ _ _ _ us ws h1 h2 => match us, ws, h1, h2 with | [_], [_], _, _ => rfl,
    kx_BadScheme := kbn_mkN 1 [0] (He5.fun_of (st := s_BadScheme___init__) F_BadScheme___init__) fun _ _ _ _ _ _ us ws h1 h2 => match us, ws, h1, h2 with | [_], [_], _, _ => rfl,
    kx_BadShape := kbn_mkN 1 [0] (He5.fun_of (st := s_BadShape___init__) F_BadShape___init__) fun _ _ _ _ _ _ us ws h1 h2 => match us, ws, h1, h2 with | [_], [_], _, _ => rfl,
    kx_BadText := kbn_mkN 1 [0] (He5.fun_of (st := s_BadText___init__) F_BadText___init__) fun _ _ _ _ _ _ us ws h1 h2 => match us, ws, h1, h2 with | [_], [_], _, _ => rfl,
    kx_BadView := kbn_mkN 1 [0] (He5.fun_of (st := s_BadView___init__) F_BadView___init__) fun _ _ _ _ _ _ us ws h1 h2 => match us, ws, h1, h2 with | [_], [_], _, _ => rfl,
    kx_BadWeaving := kbn_mkN 1 [0] (He5.fun_of (st := s_BadWeaving___init__) F_BadWeaving___init__) fun _ _ _ _ _ _ us ws h1 h2 => match us, ws, h1, h2 with | [_], [_], _, _ => rfl,
    kx_BadWord := kbn_mkN 1 [0] (He5.fun_of (st := s_BadWord___init__) F_BadWord___init__) fun _ _ _ _ _ _ us ws h1 h2 => match us, ws, h1, h2 with | [_], [_], _, _ => rfl,
    kx_NoKeeper := kbn_mkN 1 [0] (He5.fun_of (st := s_NoKeeper___init__) F_NoKeeper___init__) fun _ _ _ _ _ _ us ws h1 h2 => match us, ws, h1, h2 with | [_], [_], _, _ => rfl,
    kx_NotSafe := kbn_mkN 1 [0] (He5.fun_of (st := s_NotSafe___init__) F_NotSafe___init__) fun _ _ _ _ _ _ us ws h1 h2 => match us, ws, h1, h2 with | [_], [_], _, _ => rfl,
    kx_Ringed := kbn_mkN 1 [0] (He5.fun_of (st := s_Ringed___init__) F_Ringed___init__) fun _ _ _ _ _ _ us ws h1 h2 => match us, ws, h1, h2 with | [_], [_], _, _ => rfl,
    kx_TooMany := kbn_mkN 1 [0] (He5.fun_of (st := s_TooMany___init__) F_TooMany___init__) fun _ _ _ _ _ _ us ws h1 h2 => match us, ws, h1, h2 with | [_], [_], _, _ => rfl,
    xi_BadNumber := (exF c.more 61 rfl : ex61 K = true), kp_BadNumber := (exF c.more 62 rfl : ex62 K = true),
    xi_BadState := (exF c.more 63 rfl : ex63 K = true), kp_BadState := (exF c.more 64 rfl : ex64 K = true),
    xi_KeeperError := (exF c.more 65 rfl : ex65 K = true), kp_KeeperError := (exF c.more 66 rfl : ex66 K = true),
    xi_NothingLeft := (exF c.more 67 rfl : ex67 K = true), kp_NothingLeft := (exF c.more 68 rfl : ex68 K = true),
    xt := (exF c.more 69 rfl : ex69 K = true),
    bc_KeeperError := TX.base_of (exF c.more 45 rfl : ex45 K = true),
    xf_BadIll := xfB_ok (exF c.more 46 rfl : ex46 K = true),
    xf_BadKeeper := xfB_ok (exF c.more 47 rfl : ex47 K = true),
    xf_BadLot := xfB_ok (exF c.more 48 rfl : ex48 K = true),
    xf_BadRow := xfB_ok (exF c.more 49 rfl : ex49 K = true),
    xf_BadRule := xfB_ok (exF c.more 50 rfl : ex50 K = true),
    xf_BadScheme := xfB_ok (exF c.more 51 rfl : ex51 K = true),
    xf_BadShape := xfB_ok (exF c.more 52 rfl : ex52 K = true),
    xf_BadText := xfB_ok (exF c.more 53 rfl : ex53 K = true),
    xf_BadView := xfB_ok (exF c.more 54 rfl : ex54 K = true),
    xf_BadWeaving := xfB_ok (exF c.more 55 rfl : ex55 K = true),
    xf_BadWord := xfB_ok (exF c.more 56 rfl : ex56 K = true),
    xf_NoKeeper := xfB_ok (exF c.more 57 rfl : ex57 K = true),
    xf_NotSafe := xfB_ok (exF c.more 58 rfl : ex58 K = true),
    xf_Ringed := xfB_ok (exF c.more 59 rfl : ex59 K = true),
    xf_TooMany := xfB_ok (exF c.more 60 rfl : ex60 K = true),
    f__law_begun := (fun K => He.ga K "_law_begun") K, d__law_begun := d__law_begun, F__law_begun := He5.fun_of F__law_begun,
    g__law_begun := He.glo_ok X G (c.facts (.glo "_law_begun") (List.mem_of_getElem? (i := 0) rfl)),
    b__law_begun := (He5.fun_of (st := s__law_begun) F__law_begun).binds (ps := ["_law_script"]) fun _ _ _ _ _ _ us hl => match us, hl with | [_], _ => rfl,
    f__law_mixed := (fun K => He.ga K "_law_mixed") K, d__law_mixed := d__law_mixed, F__law_mixed := He5.fun_of F__law_mixed,
    g__law_mixed := He.glo_ok X G (c.facts (.glo "_law_mixed") (List.mem_of_getElem? (i := 1) rfl)),
    b__law_mixed := (He5.fun_of (st := s__law_mixed) F__law_mixed).binds (ps := ["_law_state"]) fun _ _ _ _ _ _ us hl => match us, hl with | [_], _ => rfl,
    f__law_take := (fun K => He.ga K "_law_take") K, d__law_take := d__law_take, F__law_take := He5.fun_of F__law_take,
    g__law_take := He.glo_ok X G (c.facts (.glo "_law_take") (List.mem_of_getElem? (i := 2) rfl)),
    b__law_take := (He5.fun_of (st := s__law_take) F__law_take).binds (ps := ["_law_state", "_law_size"]) fun _ _ _ _ _ _ us hl => match us, hl with | [_, _], _ => rfl,
    f__law_pick := (fun K => He.ga K "_law_pick") K, d__law_pick := d__law_pick, F__law_pick := He5.fun_of F__law_pick,
    g__law_pick := He.glo_ok X G (c.facts (.glo "_law_pick") (List.mem_of_getElem? (i := 3) rfl)),
    b__law_pick := (He5.fun_of (st := s__law_pick) F__law_pick).binds (ps := ["_law_state", "_law_some"]) fun _ _ _ _ _ _ us hl => match us, hl with | [_, _], _ => rfl,
    f__law_any := (fun K => He.ga K "_law_any") K, d__law_any := d__law_any, F__law_any := He5.fun_of F__law_any,
    g__law_any := He.glo_ok X G (c.facts (.glo "_law_any") (List.mem_of_getElem? (i := 4) rfl)),
    b__law_any := (He5.fun_of (st := s__law_any) F__law_any).binds (ps := ["_law_state"]) fun _ _ _ _ _ _ us hl => match us, hl with | [_], _ => rfl,
    f__law_with_values := (fun K => He.ga K "_law_with_values") K, d__law_with_values := d__law_with_values, F__law_with_values := He5.fun_of F__law_with_values,
    g__law_with_values := He.glo_ok X G (c.facts (.glo "_law_with_values") (List.mem_of_getElem? (i := 5) rfl)),
    b__law_with_values := (He5.fun_of (st := s__law_with_values) F__law_with_values).binds (ps := ["_law_told"]) fun _ _ _ _ _ _ us hl => match us, hl with | [_], _ => rfl,
    f__law_marks_of := (fun K => He.ga K "_law_marks_of") K, d__law_marks_of := d__law_marks_of, F__law_marks_of := He5.fun_of F__law_marks_of,
    g__law_marks_of := He.glo_ok X G (c.facts (.glo "_law_marks_of") (List.mem_of_getElem? (i := 6) rfl)),
    b__law_marks_of := (He5.fun_of (st := s__law_marks_of) F__law_marks_of).binds (ps := ["_law_error"]) fun _ _ _ _ _ _ us hl => match us, hl with | [_], _ => rfl,
    f__law_is_alone := (fun K => He.ga K "_law_is_alone") K, d__law_is_alone := d__law_is_alone, F__law_is_alone := He5.fun_of F__law_is_alone,
    g__law_is_alone := He.glo_ok X G (c.facts (.glo "_law_is_alone") (List.mem_of_getElem? (i := 7) rfl)),
    b__law_is_alone := (He5.fun_of (st := s__law_is_alone) F__law_is_alone).binds (ps := ["_law_error", "_law_place"]) fun _ _ _ _ _ _ us hl => match us, hl with | [_, _], _ => rfl,
    f_law := (fun K => He.ga K "law") K, d_law := d_law, F_law := He5.fun_of F_law,
    g_law := He.glo_ok X G (c.facts (.glo "law") (List.mem_of_getElem? (i := 8) rfl)),
    b_law := (He5.fun_of (st := s_law) F_law).binds (ps := ["_law_script"]) fun _ _ _ _ _ _ us hl => match us, hl with | [_], _ => rfl,
    m_ValueError := He.free_ok X G (c.facts (.free "ValueError") (List.mem_of_getElem? (i := 28) rfl)),
    m_int := He.free_ok X G (c.facts (.free "int") (List.mem_of_getElem? (i := 29) rfl)),
    m_isinstance := He.free_ok X G (c.facts (.free "isinstance") (List.mem_of_getElem? (i := 30) rfl)),
    m_len := He.free_ok X G (c.facts (.free "len") (List.mem_of_getElem? (i := 31) rfl)),
    m_list := He.free_ok X G (c.facts (.free "list") (List.mem_of_getElem? (i := 32) rfl)),
    m_min := He.free_ok X G (c.facts (.free "min") (List.mem_of_getElem? (i := 33) rfl)),
    m_range := He.free_ok X G (c.facts (.free "range") (List.mem_of_getElem? (i := 34) rfl)),
    m_repr := He.free_ok X G (c.facts (.free "repr") (List.mem_of_getElem? (i := 35) rfl)) }, He.glo_ok X G (c.facts (.glo "law") (List.mem_of_getElem? (i := 8) rfl))⟩
end Lk01
open PySem PySem.W PySem.Calls PyProof.Rows
theorem PySem.Challenge.cw_latekeepers_k01_errors_apart_holds : PySem.Challenge.rw_latekeepers_k01_errors_apart.Holds := by
  w_on; o_law
  refine HandSHeadRun.head_any (r := OpenLaw.row PySem.Challenge.rw_latekeepers_k01_errors_apart) (q := view (OpenLaw.row PySem.Challenge.rw_latekeepers_k01_errors_apart).prog [29]) (H := Lk01.hkL) (ob := TLH.seenZ Lk01.asL Lk01.faL Lk01.fnL Lk01.tsL Lk01.exA) (M := 12000) (loose := Lk01.loL) (d := HandSHeadRun.topDef (OpenLaw.row PySem.Challenge.rw_latekeepers_k01_errors_apart).prog 29) (kwd := []) TLH.seenZ_eq
    (by kernel_rfl) (fun s => by kernel_rfl) Lk01.run_eq (by kernel_rfl) (by kernel_rfl) (by kernel_rfl) (by rfl) (by first | assumption | decide +kernel) (by decide +kernel) ⟨rfl, rfl, rfl, rfl, rfl, by decide +kernel⟩ ?hw ?hc
  case hw => w_witness2
  case hc =>
    refine TLH.walk_ofY (l := PySem.Challenge.rw_latekeepers_k01_errors_apart) (n := 63) (k := 5) (x := "_law_script") (CX := fun _ => L2.CX0) rfl (by decide) (by kernel_rfl) ⟨rfl, by decide, by decide⟩ ?F (fun _ _ _ _ _ z => z)
    intro w mg fa h Y G hmg0
    obtain ⟨K, X, c⟩ := Y
    have hmg : mg ("law" : PySem.Str) = some (.ref fa) := by
      have e : (HandSHeadRun.topDef (OpenLaw.row PySem.Challenge.rw_latekeepers_k01_errors_apart).prog 29).name = ("law" : PySem.Str) := by kernel_rfl
      rw [← e]; exact hmg0
    obtain ⟨T, zl⟩ := Lk01.top_of X G c
    have efa : fa = T.f_law := by rw [zl] at hmg; cases hmg; rfl
    subst efa
    refine ⟨K, T.d_law, [], Lk01.S_law, X, ⟨fun t ht => (nomatch ht), fun t ht => (nomatch ht), fun t ht => (nomatch ht), fun s v => ?_, fun ns hl => Lk01.law_true ns hl, fun base inK nsM tb => ?_⟩⟩
    · exact TLH.law_binds T.F_law (fun _ _ _ _ _ _ u => rfl) s v
    · exact Lk01.ok_law T (Lk01.k_law T.ca)
