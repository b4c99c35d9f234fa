import PyProof.Rows.All
import PySem.Challenge.RW_latekeepers_k47_comparing_refused
import HandS.ForMost
import HandS.DictComp
import KE.KDictCopyH
import KE.KDictKeyed
import KE.KDictLaw
import KE.KDictPairs
import KE.KDictZip
import PyProof.DictStraight
import KE.KDictItemsList
import KE.KeyNested
import KE.KEqDict
import PyProof.DictFindH
import HandS.DictTup
import HandS.Lambda
import HandS.IsInst
import HandS.TupAny
import HandS.More
import HandS.Style
import HandS.Small
import HandS.Dict
import HandS.Exc
import HandS.ExcOwn
import PyProof.FactsLen
import HandS.Words
import HandS.WordsExc
import HandS.Ends
import HandS.Defaults
import HandS.Strs
import HandS.Property
import HandS.Comp
import HandS.Iter
import KE.GoesMore
import KE.GoesEnum
import HandS.OwnEq
import OpenK.KOps
import PyProof.InstEq
import PyProof.ListRange
import PyProof.ReprLen
import HandS.Codes
import KE.SortKeyHeap
import HandS.SortKw
import HandS.Head0
import HandS.Head1
import HandS.Head2
import HandS.HeadHook4
import HandS.HeadNt
import HandS.EndBits
import HandS.EndTab
import HandS.MakeKwOnly
import HandS.Deep
import KE.GoesZip
import HandS.Keys
import HandS.ExcInit
import HandS.ExcIs
import HandS.ExcField
set_option Elab.async false
set_option linter.all false
set_option maxRecDepth 100000
set_option maxHeartbeats 4000000
namespace L2
open PySem PySem.Spec PyProof.Rows
def lfO : Option Int → Leaf
  | none => .none
  | some i => .num i
def kvO : Option Int → V
  | none => .non
  | some i => .int i
theorem lfO_inj {a b : Option Int} (h : lfO a = lfO b) : a = b := by
  cases a <;> cases b <;> simp_all [lfO]
def KdP (d : Addr) (ks : List (Option Int)) : Heap → Prop := fun h => (d == sysModules) = false ∧ ∀ (prog : Program) (w : World), ∃ kvs : List (Leaf × Value), h.DictOf (leafKind prog w) d kvs ∧ (∀ kv ∈ kvs, ∃ o, kv.1 = lfO o) ∧ kvs.length ≤ ks.length ∧
  ∀ o, (valueAt kvs (lfO o)).isSome = decide (o ∈ ks)
section
variable {prog prog' : Program} {w w' : World} {h : Heap} {d : Addr} {kvs : List (Leaf × Value)}
theorem pairs_re : ∀ {es : List DictEntry} {kvs : List (Leaf × Value)}, Pairs (leafKind prog w) es kvs → Pairs (leafKind prog' w') es kvs
  | _, _, .nil => .nil
  | _, _, .cons a b r => .cons a b (pairs_re r)
theorem pairs_mem : ∀ {es : List DictEntry} {kvs : List (Leaf × Value)}, Pairs (leafKind prog w) es kvs → ∀ e ∈ es, ∃ kv ∈ kvs, (leafKind prog w).is kv.1 e.key = true
  | _, _, .nil, e, he => by cases he
  | _, _, .cons (kv := kv) a b r, e, he => by
    rcases List.mem_cons.mp he with rfl | he
    · exact ⟨kv, List.mem_cons_self .., a⟩
    · obtain ⟨kv', m, z⟩ := pairs_mem r e he
      exact ⟨kv', List.mem_cons_of_mem _ m, z⟩
theorem kind_re (hm : h.DictOf (leafKind prog w) d kvs) (nt : ∀ kv ∈ kvs, ∃ o, kv.1 = lfO o) : h.DictOf (leafKind prog' w') d kvs := by
  obtain ⟨o, es, ep, ho, hc, hd, hk, hp, hn⟩ := hm
  refine ⟨o, es, ep, ho, hc, hd, fun e he => ?_, pairs_re hp, hn⟩
  obtain ⟨k, h1, h2⟩ := hk e he
  obtain ⟨kv, m, z⟩ := pairs_mem hp e (by simpa using he)
  have ek : k = kv.1 := (leafKind prog w).inj _ _ _ h1 z
  obtain ⟨q, eq⟩ := nt kv m
  refine ⟨k, h1, ?_⟩
  rw [h2, ek, eq]
  cases q <;> rfl
end
section
variable {P : Program} {w : World} {H : Hp} {h : Heap} {a : Addr} {ks : List (Option Int)}
theorem kd_ok (hp : KdP a ks h) : ObjOk P w H h a (.ext (KdP a ks)) := by
  obtain ⟨z, q⟩ := id hp
  obtain ⟨kvs, ⟨o, _, _, ho, _⟩, _⟩ := q P w
  refine ⟨hp, ⟨o, ho⟩, fun h1 h2 p k => ⟨p.1, fun prog w => ?_⟩⟩
  obtain ⟨kvs, x, y⟩ := p.2 prog w
  exact ⟨kvs, x.at k, y⟩
theorem kd_new (h : Heap) (hb : (h.objs.size == sysModules) = false) : KdP h.objs.size [] (h.push { cls := .type "dict", data := .dict #[] }) :=
  ⟨hb, fun prog w => ⟨[], Heap.DictOf.new h, ⟨fun kv z => (by simp at z), Nat.le_refl _, fun o => rfl⟩⟩⟩
theorem kd_put {h' : Heap} {o : Option Int} {v : Value} (hp : KdP a ks h) {kvs : List (Leaf × Value)} (nt : ∀ kv ∈ kvs, ∃ o, kv.1 = lfO o) (hl : kvs.length ≤ ks.length) (hs : ∀ o, (valueAt kvs (lfO o)).isSome = decide (o ∈ ks)) (hd : h'.DictOf (leafKind P w) a (stored kvs (lfO o) v)) : KdP a (ks ++ [o]) h' := by
  have nt' : ∀ kv ∈ stored kvs (lfO o) v, ∃ o, kv.1 = lfO o := by
    intro kv hkv
    unfold stored at hkv
    split at hkv
    · obtain ⟨x, hx, e⟩ := List.mem_map.mp hkv
      obtain ⟨q, hq⟩ := nt x hx
      split at e
      · exact ⟨q, by rw [← e]; exact hq⟩
      · exact ⟨q, by rw [← e]; exact hq⟩
    · rcases List.mem_append.mp hkv with m | m
      · exact nt kv m
      · have : kv = (lfO o, v) := by simpa using m
        exact ⟨o, by rw [this]⟩
  refine ⟨hp.1, fun prog' w' => ⟨stored kvs (lfO o) v, kind_re hd nt', nt', ?_, fun q => ?_⟩⟩
  · rw [length_stored, List.length_append]
    show _ ≤ ks.length + 1
    split <;> omega
  · by_cases e : q = o
    · subst e
      rw [valueAt_stored_same]
      simp
    · rw [valueAt_stored_other kvs _ v (fun z => e (lfO_inj z)), hs q]
      simp [e]
theorem kd_key {o : Option Int} {u : Value} (r : RelV (kvO o) u) : (leafKind P w).is (lfO o) u = true := by
  cases o with
  | none => cases (show u = Value.none from r); rfl
  | some i => obtain ⟨t, rfl⟩ := (show ∃ t, u = Value.int i t from r); exact decide_eq_true rfl
theorem kd_dictSet {X : Cx} {pins : List (Addr × Obj)} {σ : St} {H : Hp} {s : Shared} {E : Value → Shared → Prop} {D : Addr} {ks : List (Option Int)} {o : Option Int} {u r : Value} {Q : Unit → Shared → Prop} (I : Inv X pins σ H s) (hD : H D = some (.ext (KdP D ks))) (hz : ks.length < sizeLine)
    (ry : RelV (kvO o) u) (h : ∀ s', Inv X pins σ (upd H D (.ext (KdP D (ks ++ [o])))) s' → Q () s') : wpAny (model X.prog X.w) X.A (dictSet D u r) Q E s := by
  have hp : KdP D ks s.heap := (I.hok D _ hD).1
  obtain ⟨kvs, dd, nt, hl, hs⟩ := hp.2 X.prog X.w
  refine wpAny_dictSet_pairs (hsz := by omega) (kd_key ry) dd fun h' dd' sb => h _ ?_
  have he : ∃ q, h'.get? D = some q := let ⟨q, _, _, hq, _⟩ := dd'; ⟨q, hq⟩
  exact d_write I (by rw [hD]; exact True.intro) sb he (kd_ok (kd_put hp nt hl hs dd'))
end
section
variable {X : Cx}
def tKc (wi : TI) (g : TG) (tt : TT) (tk tv : TE) (vs : List Nat) : TE := fun σ H Q => wi σ H fun J H1 => ∀ D, H1 D = none → ∃ W : Nat → Nat → Hp → Prop, (∃ m, W 0 m (upd H1 D (.ext (KdP D [])))) ∧ ∀ i m H, W i m H →
  (J.stop i H ∧ Q (.ref D) H) ∨ (J.go i H ∧ ∃ Nx : Hp → Prop, (∀ H', Nx H' → ∃ m', m' < m ∧ W (i + 1) m' H') ∧ ∀ x H', J.yld i H x H' → g x (wipe σ vs) H' fun σ2 H2 => wipe σ2 vs = wipe σ vs ∧ tt σ2 H2 fun b H3 =>
    if b = true then tk σ2 H3 fun y H4 => tv σ2 H4 fun _ H5 => ∃ ks o, y = kvO o ∧ H5 D = some (.ext (KdP D ks)) ∧ ks.length < sizeLine ∧ Nx (upd H5 D (.ext (KdP D (ks ++ [o])))) else Nx H3)
theorem kc_core {pins : List (Addr × Obj)} {s : Shared} {σ : St} {H : Hp} {Q : VK} {kx vx tg iter : Expr} {ifs : List Expr} {scope : Scope} {own : List (Str × Nat)} {pos pos' : Pos} {wi : TI} {g : TG} {tt : TT} {tk tv : TE} {use : Option (Value → Sem Unit)} {Qf : Value → Shared → Prop}
    (hc : X.calm = true) (hN : X.N.Nodup) (I : Inv X pins σ H s) (hi : PI X tg iter wi) (ok : BlkOk X.N X.env.scope scope own)
    (hg : ∀ (s : Shared) (H : Hp) (C : Addr) (cl : List (Str × Addr)) (fp : List Addr), PG (X.blk s H scope (compEnvC scope cl C X.env) fp) tg g) (ht : ∀ (s : Shared) (H : Hp) (C : Addr) (cl : List (Str × Addr)) (fp : List Addr), PTs (X.blk s H scope (compEnvC scope cl C X.env) fp) ifs tt)
    (hk : ∀ (s : Shared) (H : Hp) (C : Addr) (cl : List (Str × Addr)) (fp : List Addr), PE (X.blk s H scope (compEnvC scope cl C X.env) fp) kx tk)
    (he : ∀ (s : Shared) (H : Hp) (C : Addr) (cl : List (Str × Addr)) (fp : List Addr), PE (X.blk s H scope (compEnvC scope cl C X.env) fp) vx tv) (hs : ∀ x, foldedSetIterable iter X.env x = pure x)
    (h : tKc wi g tt tk tv (own.map (·.2)) σ H Q)
    (hRR : ∀ D C s' m H', Inv X pins σ H' s' → Q (.ref D) H' → s'.heap.Ns C m → FpOk X pins H' C → compPost (model X.prog X.w) X.A X.xe use Qf (.ref D) C (.ok .next) s') :
    wpAny (model X.prog X.w) X.A (comprehension (.DictComp kx vx [⟨tg, iter, ifs, 0⟩] scope pos) scope X.env pos' newDict false (eval iter X.env) use) Qf X.xe s := by
  have hfree : ∀ y ∈ scope.names, y.2 = .free → ∃ c, X.env.cells.lookup y.1 = some c := fun y hy e => (ok.free y hy e).elim (fun k => I.ok.has _ (.inl k)) fun k => I.ok.has _ (.inr k)
  refine wpAny_comprehension_free (use := use) rfl hs (closure_ok hfree) ok.kind (fun y hy e => by rw [ok.uniq y hy, e]) (thn (hi.run pins s σ H _ I h) fun xv s1 hx => thn hx fun itv s2 ⟨it, fp, tn, J, H2, e, I2, T, st2, f2, q⟩ => ?_)
  subst e
  refine wpAny_newObj_type (newEnv_comp ?_)
  generalize hD : s2.heap.objs.size = D
  have hDn : H2 D = none := I2.hok.fresh (Nat.le_of_eq hD)
  obtain ⟨W, ⟨m0, w0⟩, turn⟩ := q D hDn
  generalize hs3 : ({ s2 with heap := s2.heap.push { cls := .type "dict", data := .dict #[] } } : Shared) = s3
  have hmod : (s2.heap.objs.size == sysModules) = false := beq_eq_false_iff_ne.mpr (Ne.symm (Nat.ne_of_lt I2.big))
  have I3 : Inv X pins σ (upd H2 D (.ext (KdP D []))) s3 := by
    subst hs3 hD
    exact I2.laid (t' := s2.toks) (fun b o e => Heap.get?_push_of_some _ e) (Nat.le_refl _) (kd_ok (kd_new s2.heap hmod))
  have h3 : s3.heap = s2.heap.push { cls := .type "dict", data := .dict #[] } := by rw [← hs3]
  have f3 : ∀ b ∈ fp, FpOk X pins (upd H2 D (.ext (KdP D []))) b ∧ b < s3.heap.objs.size := fun b hb => by
    obtain ⟨o, e, _⟩ := T.obj _ _ st2 b hb
    have hlt := Heap.lt_size e
    exact ⟨⟨by rw [upd_ne (by rw [← hD]; exact Nat.ne_of_lt hlt)]; exact (f2 b hb).1, (f2 b hb).2⟩, by rw [h3, Heap.size_push]; exact Nat.lt_succ_of_lt hlt⟩
  have st3 : tn 0 s3.heap := T.keep _ _ _ st2 fun b _ o e => by rw [h3]; exact Heap.get?_push_of_some _ e
  have I4 := block_start I3 ok hN f3
  generalize hcl : cellsFrom (s3.heap.objs.size + 1) scope.names (cloFrom X.env.cells scope.names []) = cl at I4
  have pg := hg s3 (upd H2 D (.ext (KdP D []))) s3.heap.objs.size cl fp
  have pt := ht s3 (upd H2 D (.ext (KdP D []))) s3.heap.objs.size cl fp
  have pk := hk s3 (upd H2 D (.ext (KdP D []))) s3.heap.objs.size cl fp
  have pe := he s3 (upd H2 D (.ext (KdP D []))) s3.heap.objs.size cl fp
  subst hcl
  have nfp : ∀ b ∈ fp, (upd H2 D (.ext (KdP D []))) b = none := fun b hb => (f3 b hb).1.1
  show codeAny _ _ (.compStart (.DictComp kx vx [⟨tg, iter, ifs, 0⟩] scope pos) 0 (.ref it) (.ref D) (compEnvC scope (cellsFrom (s3.heap.objs.size + 1) scope.names (cloFrom X.env.cells scope.names [])) s3.heap.objs.size X.env)) (compPost (model X.prog X.w) X.A X.xe use Qf (.ref D) s3.heap.objs.size) { s3 with heap := pushCells (s3.heap.push { cls := .type "dict", data := .dict #[] }) scope.names }
  generalize hce : compEnvC scope (cellsFrom (s3.heap.objs.size + 1) scope.names (cloFrom X.env.cells scope.names [])) s3.heap.objs.size X.env = ce at I4 pg pt pk pe ⊢
  have cL : ce.locals = s3.heap.objs.size := by subst hce; rfl
  generalize hH3 : upd H2 D (.ext (KdP D [])) = H3 at I3 I4 pg pt pk pe w0 nfp f3
  generalize hs4 : ({ s3 with heap := pushCells (s3.heap.push { cls := .type "dict", data := .dict #[] }) scope.names } : Shared) = s4 at I4 ⊢
  have st4 : tn 0 s4.heap := T.keep _ _ _ st3 fun b _ o e => by rw [← hs4]; exact pushCells_keeps _ _ _ _ (Heap.get?_push_of_some _ e)
  have stat : ∀ {σ' : St} {H' : Hp} {s' : Shared}, Inv (X.blk s3 H3 scope ce fp) [] σ' H' s' → (∀ b ∈ fp, H' b = none) → ∀ b ∈ fp, FpOk (X.blk s3 H3 scope ce fp) [] H' b := fun {σ' H' s'} I' hn b hb =>
    ⟨hn b hb, (I'.ok.exf b hb).1, I'.ok.exfs b hb, .inl hb, fun x c e => (I'.ok.exf b hb).2 x c e, fun p hp => absurd (show p ∈ ([] : List (Addr × Obj)) ++ [] from hp) (by simp)⟩
  refine (fun loop => codeAny_compStart_dict loop (T.self X.A 0 _ _ _ st4 loop)) ?_
  refine compLoop_anyD (fun n s' => ∃ i H', Inv (X.blk s3 H3 scope ce fp) [] (wipe σ (own.map (·.2))) H' s' ∧ tn i s'.heap ∧ (∀ b ∈ fp, H' b = none) ∧ W i n H') ?_ m0 ⟨0, H3, I4, st4, nfp, w0⟩
  rintro n s5 ⟨i, H5, I5, st5, n5, w5⟩
  rcases turn i n H5 w5 with ⟨stop, qq⟩ | ⟨go, Nx, hNx, step⟩
  · refine thnF (T.done (X.blk s3 H3 scope ce fp) rfl rfl rfl hc i [] s5 _ H5 (fun _ _ => False) I5 (stat I5 n5) st5 stop) fun r s6 ⟨hr, I6⟩ => ?_
    subst hr
    have I7 : Inv X pins σ H5 s6 := I3.call' (ch := fp) I6.os I6.base I6.hok I6.bare fun b hb => ⟨(f3 b hb).1.2.2.2.1, (f3 b hb).1.2.1, (f3 b hb).1.2.2.2.2.1, (f3 b hb).1.2.2.2.2.2⟩
    have nC : H5 s3.heap.objs.size = none := cL ▸ (show H5 ce.locals = none from I6.free)
    obtain ⟨m, hn, _⟩ := I6.loc
    have hn : s6.heap.Ns ce.locals m := hn
    rw [cL] at hn
    exact hRR D s3.heap.objs.size s6 m H5 I7 qq hn (I3.fpOk (Nat.le_refl _) nC)
  · refine thnF (T.item (X.blk s3 H3 scope ce fp) rfl rfl rfl hc i [] s5 _ H5 (fun _ _ => False) I5 (stat I5 n5) st5 go) fun r s6 ⟨u, hr, h6⟩ => ?_
    subst hr
    refine thnF h6 fun _ s7 ⟨x, H7, I7, r7, y7, st7, n7⟩ => ?_
    refine thnF (pg.run _ s7 _ H7 x u _ (I7.pinned (stat I7 n7) (T.obj _ _ st7)) r7 (step x H7 y7)) fun _ s8 ⟨σ8, H8, I8, hw8, q8⟩ => ?_
    refine thnF (pt.run _ s8 σ8 H8 _ I8 q8) fun b s9 ⟨H9, I9, q9⟩ => ?_
    have fin : ∀ {s' : Shared} {H' : Hp}, Inv (X.blk s3 H3 scope ce fp) ([] ++ pinsAt fp s7.heap) σ8 H' s' → Nx H' → ∃ m, m < n ∧ ∃ i H', Inv (X.blk s3 H3 scope ce fp) [] (wipe σ (own.map (·.2))) H' s' ∧ tn i s'.heap ∧ (∀ b ∈ fp, H' b = none) ∧ W i m H' := fun {s' H'} I' nx => by
      obtain ⟨m', hm, w'⟩ := hNx H' nx
      have pin' : ∀ b ∈ fp, ∀ o, s7.heap.get? b = some o → s'.heap.get? b = some o ∧ H' b = none := fun b hb o e => ⟨(I'.pin (b, o) (List.mem_append_right _ (List.mem_append_right _ (mem_pinsAt hb e)))).1, (I'.pin (b, o) (List.mem_append_right _ (List.mem_append_right _ (mem_pinsAt hb e)))).2.1⟩
      refine ⟨m', hm, i + 1, H', (I'.unpinned (pins := [])).weak (by rw [← hw8, wipe_length]) (fun j v e => ?_), T.keep _ _ _ st7 fun b hb o e => (pin' b hb o e).1, fun b hb => ?_, w'⟩
      · rw [← hw8] at e
        exact (wipe_some e).1
      · obtain ⟨o, e, _⟩ := T.obj _ _ st7 b hb
        exact (pin' b hb o e).2
    cases b with
    | false =>
      rw [if_neg Bool.false_ne_true] at q9
      exact fin I9 q9
    | true =>
      rw [if_pos rfl] at q9
      refine thnF (pk.run _ s9 σ8 H9 _ I9 q9) fun z s10 ⟨yk, H10, I10, r10, q10⟩ => ?_
      refine thnF (pe.run _ s10 σ8 H10 _ I10 q10) fun z2 s11 ⟨yv, H11, I11, r11, ks, o, ek, hD11, hz11, nx⟩ => ?_
      subst ek
      exact kd_dictSet (X := X.blk s3 H3 scope ce fp) I11 hD11 hz11 r10 fun s12 I12 => fin I12 nx
theorem pe_kc {kx vx tg iter : Expr} {ifs : List Expr} {scope : Scope} {own : List (Str × Nat)} {pos : Pos} {wi : TI} {g : TG} {tt : TT} {tk tv : TE} (hc : X.calm = true) (hN : X.N.Nodup) (hi : PI X tg iter wi) (ok : BlkOk X.N X.env.scope scope own)
    (hg : ∀ (s : Shared) (H : Hp) (C : Addr) (cl : List (Str × Addr)) (fp : List Addr), PG (X.blk s H scope (compEnvC scope cl C X.env) fp) tg g) (ht : ∀ (s : Shared) (H : Hp) (C : Addr) (cl : List (Str × Addr)) (fp : List Addr), PTs (X.blk s H scope (compEnvC scope cl C X.env) fp) ifs tt)
    (hk : ∀ (s : Shared) (H : Hp) (C : Addr) (cl : List (Str × Addr)) (fp : List Addr), PE (X.blk s H scope (compEnvC scope cl C X.env) fp) kx tk)
    (he : ∀ (s : Shared) (H : Hp) (C : Addr) (cl : List (Str × Addr)) (fp : List Addr), PE (X.blk s H scope (compEnvC scope cl C X.env) fp) vx tv) (hs : ∀ x, foldedSetIterable iter X.env x = pure x := by intro _; rfl) :
    PE X (.DictComp kx vx [⟨tg, iter, ifs, 0⟩] scope pos) (tKc wi g tt tk tv (own.map (·.2))) := by
  refine ⟨fun pins s σ H Q I h => ?_⟩
  rw [arm_eval_DictComp]
  refine kc_core hc hN I hi ok hg ht hk he hs h fun D C s' m H' I' q hn f => ⟨m, hn, fun h'' sb => ?_⟩
  obtain ⟨f0, f1, f2, f3, f4, f5⟩ := f
  exact ⟨.ref D, H', I'.turned (t' := s'.toks) (fun b o hb e => (sb.2 b hb).trans e) f0 f1 f3 f4 f5, rfl, q⟩
end
end L2
namespace L2
open PySem PySem.Spec PyProof.Rows
def Kd3 (kvs : List (Leaf × Value)) (ks : List (Option Int)) : Prop := (∀ kv ∈ kvs, ∃ o, kv.1 = lfO o) ∧ kvs.length ≤ ks.length ∧ ∀ o, (valueAt kvs (lfO o)).isSome = decide (o ∈ ks)
theorem Kd3.put {kvs : List (Leaf × Value)} {ks : List (Option Int)} (h : Kd3 kvs ks) (o : Option Int) (v : Value) : Kd3 (stored kvs (lfO o) v) (ks ++ [o]) := by
  obtain ⟨nt, hl, hs⟩ := h
  refine ⟨fun kv hkv => ?_, ?_, fun q => ?_⟩
  · unfold stored at hkv
    split at hkv
    · obtain ⟨x, hx, e⟩ := List.mem_map.mp hkv
      obtain ⟨q, hq⟩ := nt x hx
      split at e
      · exact ⟨q, by rw [← e]; exact hq⟩
      · exact ⟨q, by rw [← e]; exact hq⟩
    · rcases List.mem_append.mp hkv with m | m
      · exact nt kv m
      · have : kv = (lfO o, v) := by simpa using m
        exact ⟨o, by rw [this]⟩
  · rw [length_stored, List.length_append]
    show _ ≤ ks.length + 1
    split <;> omega
  · by_cases e : q = o
    · subst e
      rw [valueAt_stored_same]
      simp
    · rw [valueAt_stored_other kvs _ v (fun z => e (lfO_inj z)), hs q]
      simp [e]
section
variable {X : Cx}
def rInKd (neg : Bool) : R2 := fun x y H Q => ∃ o a ks, x = kvO o ∧ y = .ref a ∧ H a = some (.ext (KdP a ks)) ∧ Q (.bl (neg ^^ decide (o ∈ ks))) H
theorem op_notinKd : OpR X (compareOp .NotIn) (rInKd true) := by
  intro pins s σ H x y v u Q I rx ry h
  obtain ⟨o, a, ks, rfl, rfl, ha, q⟩ := h
  cases ry
  obtain ⟨hm, hp⟩ := (I.hok a _ ha).1
  obtain ⟨kvs, dd, nt, hl, hs⟩ := hp X.prog X.w
  refine wpAny_notIn_of (kd_key rx) hm dd.mapOf ?_
  rw [hs o]
  rw [Bool.true_xor] at q
  exact ⟨.bl _, H, I.tok _, rfl, q⟩
end
end L2
namespace L2
open PySem PySem.Spec PyProof.Rows
mutual
inductive NkH (K : PySem.W.Frag) (H : Hp) : NestedKey → V → Prop
  | non : NkH K H .none .non
  | bl (b : Bool) : NkH K H (.num (if b = true then 1 else 0)) (.bl b)
  | int (i : Int) : NkH K H (.num i) (.int i)
  | str (x : Str) : NkH K H (.text x) (.str x)
  | tup {a : Addr} {vs : List V} {ks : List NestedKey} : SqT K H a vs → NkHL K H ks vs → NkH K H (.tup ks) (.ref a)
inductive NkHL (K : PySem.W.Frag) (H : Hp) : List NestedKey → List V → Prop
  | nil : NkHL K H [] []
  | cons {k : NestedKey} {ks : List NestedKey} {v : V} {vs : List V} : NkH K H k v → NkHL K H ks vs → NkHL K H (k :: ks) (v :: vs)
end
section
variable {X : Cx} {pins : List (Addr × Obj)} {σ : St} {H : Hp} {s : Shared}
mutual
theorem nk_is (I : Inv X pins σ H s) : ∀ {k : NestedKey} {v : V} {u : Value}, NkH X.K H k v → RelV v u → NestedIs s.heap k u
  | _, _, _, .non, r => by cases (show _ = Value.none from r); exact .none
  | _, _, _, .bl b, r => by cases (show _ = Value.bool b from r); exact .bool rfl
  | _, _, _, .int i, r => by obtain ⟨t, rfl⟩ := (show ∃ t, _ = Value.int i t from r); exact .int i t
  | _, _, _, .str x, r => by obtain ⟨t, rfl⟩ := (show ∃ t, _ = Value.str x t from r); exact .text x t
  | _, _, _, .tup hs hl, r => by
    cases (show _ = Value.ref _ from r)
    obtain ⟨its, rv, ⟨o, ho, hc, n, hd⟩, _⟩ := I.tuple hs
    exact .tup ho hc hd (nk_all I hl rv)
theorem nk_all (I : Inv X pins σ H s) : ∀ {ks : List NestedKey} {vs : List V} {us : List Value}, NkHL X.K H ks vs → Vals vs us → NestedAll s.heap ks us
  | _, _, _, .nil, .nil => .nil
  | _, _, _, .cons h t, .cons r rr => .cons (nk_is I h r) (nk_all I t rr)
end
end
abbrev TbE := NestedKey × Addr × Option Int
def zipH (xs : List TbE) (us : List Value) : List (NestedKey × Addr × Value) := (xs.zip us).map fun p => (p.1.1, p.1.2.1, p.2)
def TbP (w : World) (d : Addr) (xs : List TbE) : Heap → Prop := fun h => (d == sysModules) = false ∧ ∃ (o : Obj) (es : Array DictEntry) (ep : Nat) (us : List Value), h.get? d = some o ∧ o.ExactDict ∧ o.data = .dict es ep ∧ Vals (xs.map fun x => kvO x.2.2) us ∧
  es.toList = (zipH xs us).map (fun x => (⟨x.1.hash w, .ref x.2.1, x.2.2⟩ : DictEntry)) ∧ (xs.map (·.1)).Nodup
theorem zipH_keys : ∀ (xs : List TbE) (us : List Value), us.length = xs.length → (zipH xs us).map (·.1) = xs.map (·.1)
  | [], us, _ => rfl
  | x :: xs, [], h => by cases h
  | x :: xs, u :: us, h => by
    show x.1 :: (zipH xs us).map (·.1) = _
    rw [zipH_keys xs us (by simpa using h)]
    rfl
theorem zipH_mem : ∀ {xs : List TbE} {us : List Value} {y : NestedKey × Addr × Value}, y ∈ zipH xs us → ∃ x ∈ xs, x.1 = y.1 ∧ x.2.1 = y.2.1
  | [], us, y, h => by cases h
  | x :: xs, [], y, h => by cases h
  | x :: xs, u :: us, y, h => by
    rcases List.mem_cons.mp (show y ∈ (x.1, x.2.1, u) :: zipH xs us from h) with rfl | h
    · exact ⟨x, List.mem_cons_self .., rfl, rfl⟩
    · obtain ⟨z, m, e⟩ := zipH_mem h
      exact ⟨z, List.mem_cons_of_mem _ m, e⟩
theorem zipH_app : ∀ (xs : List TbE) (us : List Value) (x : TbE) (u : Value), us.length = xs.length → zipH (xs ++ [x]) (us ++ [u]) = zipH xs us ++ [(x.1, x.2.1, u)]
  | [], [], _, _, _ => rfl
  | [], _ :: _, _, _, h => by cases h
  | _ :: _, [], _, _, h => by cases h
  | y :: xs, v :: us, x, u, h => by
    show (y.1, y.2.1, v) :: zipH (xs ++ [x]) (us ++ [u]) = (y.1, y.2.1, v) :: (zipH xs us ++ [(x.1, x.2.1, u)])
    rw [zipH_app xs us x u (by simpa using h)]
theorem zipH_len : ∀ (xs : List TbE) (us : List Value), us.length = xs.length → (zipH xs us).length = xs.length
  | [], us, _ => rfl
  | _ :: _, [], h => by cases h
  | x :: xs, u :: us, h => by
    show (zipH xs us).length + 1 = _
    rw [zipH_len xs us (by simpa using h)]
    rfl
section
variable {P : Program} {w : World} {H : Hp} {h : Heap} {a : Addr} {xs : List TbE}
theorem tb_ok (hp : TbP w a xs h) : ObjOk P w H h a (.ext (TbP w a xs)) := by
  obtain ⟨z, o, es, ep, us, ho, r⟩ := id hp
  exact ⟨hp, ⟨o, ho⟩, fun h1 h2 ⟨z, o, es, ep, us, ho, r⟩ k => ⟨z, o, es, ep, us, k _ ho, r⟩⟩
theorem tb_new (h : Heap) (hb : (h.objs.size == sysModules) = false) : TbP w h.objs.size [] (h.push { cls := .type "dict", data := .dict #[] }) :=
  ⟨hb, _, #[], 0, [], Heap.get?_push_size _ rfl, ⟨rfl, rfl, rfl⟩, rfl, .nil, rfl, List.nodup_nil⟩
theorem tb_of {X : Cx} {pins : List (Addr × Obj)} {σ : St} {s : Shared} (I : Inv X pins σ H s) (hp : TbP X.w a xs s.heap) (hk : ∀ x ∈ xs, NkH X.K H x.1 (.ref x.2.1) ∧ x.1.depth ≤ 8) :
    ∃ us, Vals (xs.map fun x => kvO x.2.2) us ∧ s.heap.DictOfH (nestedKind X.prog X.w) a (zipH xs us) := by
  obtain ⟨z, o, es, ep, us, ho, hc, hd, hv, he, hn⟩ := hp
  have hl : us.length = xs.length := by rw [← hv.length, List.length_map]
  refine ⟨us, hv, o, es, ep, ho, hc, hd, he, fun y hy => ?_, by rw [zipH_keys xs us hl]; exact hn⟩
  obtain ⟨x, hx, e1, e2⟩ := zipH_mem hy
  have := hk x hx
  rw [e1, e2] at this
  exact ⟨nk_is I this.1 rfl, this.2⟩
theorem tb_set {X : Cx} {pins : List (Addr × Obj)} {σ : St} {H : Hp} {s : Shared} {E : Value → Shared → Prop} {D b : Addr} {xs : List TbE} {k : NestedKey} {o : Option Int} {u r : Value} {Q : Unit → Shared → Prop} (hu : X.A.units + 64 < cLine) (I : Inv X pins σ H s) (hD : H D = some (.ext (TbP X.w D xs))) (hz : xs.length < sizeLine)
    (hk : ∀ x ∈ xs, NkH X.K H x.1 (.ref x.2.1) ∧ x.1.depth ≤ 8) (hb : NkH X.K H k (.ref b)) (hd : k.depth ≤ 8) (new : k ∉ xs.map (·.1)) (ry : RelV (.ref b) u) (rv : RelV (kvO o) r)
    (h : ∀ s', Inv X pins σ (upd H D (.ext (TbP X.w D (xs ++ [(k, b, o)])))) s' → Q () s') : wpAny (model X.prog X.w) X.A (dictSet D u r) Q E s := by
  have hp : TbP X.w D xs s.heap := (I.hok D _ hD).1
  obtain ⟨us, hv, dd⟩ := tb_of I hp hk
  have hl : us.length = xs.length := by rw [← hv.length, List.length_map]
  cases (show u = Value.ref b from ry)
  have none_ : atKey (zipH xs us) k = none := atKey_none_of_get fun j p e => new (by
    rw [← zipH_keys xs us hl]
    exact List.mem_map.mpr ⟨(k, p), List.mem_of_getElem? e, rfl⟩)
  refine wpAny_dictSet_heap (knd := nestedKind X.prog X.w) (k := k) (hsz := by rw [zipH_len xs us hl]; omega) (show X.A.units + 8 < cLine by omega) ⟨nk_is I hb rfl, hd⟩ dd fun h' dd' sb => h _ ?_
  rw [storedH_new none_] at dd'
  have he : ∃ q, h'.get? D = some q := let ⟨q, _, _, hq, _⟩ := dd'; ⟨q, hq⟩
  refine d_write I (by rw [hD]; exact True.intro) sb he (tb_ok ?_)
  obtain ⟨ob, es, ep, ho, hc, hdt, hes, his, hn⟩ := dd'
  refine ⟨hp.1, ob, es, ep, us ++ [r], ho, hc, hdt, ?_, ?_, ?_⟩
  · rw [List.map_append]
    exact hv.append (.cons rv .nil)
  · rw [zipH_app xs us (k, b, o) r hl]
    exact hes
  · rw [List.map_append, ← zipH_keys xs us hl]
    have := hn
    rw [List.map_append] at this
    exact this
end
end L2
namespace L2
open PySem PySem.Spec PyProof.Rows
section
variable {X : Cx}
def TbG (K : PySem.W.Frag) (H : Hp) (xs : List TbE) : Prop := ∀ x ∈ xs, NkH K H x.1 (.ref x.2.1) ∧ x.1.depth ≤ 8
end
end L2
namespace L2
open PySem PySem.Spec PyProof.Rows
section
variable {X : Cx}
def tTb (X : Cx) (wi : TI) (g : TG) (tt : TT) (tk tv : TE) (vs : List Nat) : TE := fun σ H Q => wi σ H fun J H1 => ∀ D, H1 D = none → ∃ W : Nat → Nat → Hp → Prop, (∃ m, W 0 m (upd H1 D (.ext (TbP X.w D [])))) ∧ ∀ i m H, W i m H →
  (J.stop i H ∧ Q (.ref D) H) ∨ (J.go i H ∧ ∃ Nx : Hp → Prop, (∀ H', Nx H' → ∃ m', m' < m ∧ W (i + 1) m' H') ∧ ∀ x H', J.yld i H x H' → g x (wipe σ vs) H' fun σ2 H2 => wipe σ2 vs = wipe σ vs ∧ tt σ2 H2 fun b H3 =>
    if b = true then tk σ2 H3 fun y H4 => tv σ2 H4 fun z H5 => ∃ xs k b o, y = .ref b ∧ z = kvO o ∧ H5 D = some (.ext (TbP X.w D xs)) ∧ xs.length < sizeLine ∧ TbG X.K H5 xs ∧ NkH X.K H5 k (.ref b) ∧ k.depth ≤ 8 ∧ k ∉ xs.map (·.1) ∧ Nx (upd H5 D (.ext (TbP X.w D (xs ++ [(k, b, o)])))) else Nx H3)
theorem tb_core {pins : List (Addr × Obj)} {s : Shared} {σ : St} {H : Hp} {Q : VK} {kx vx tg iter : Expr} {ifs : List Expr} {scope : Scope} {own : List (Str × Nat)} {pos pos' : Pos} {wi : TI} {g : TG} {tt : TT} {tk tv : TE} {use : Option (Value → Sem Unit)} {Qf : Value → Shared → Prop}
    (hc : X.calm = true) (hu : X.A.units + 64 < cLine) (hN : X.N.Nodup) (I : Inv X pins σ H s) (hi : PI X tg iter wi) (ok : BlkOk X.N X.env.scope scope own)
    (hg : ∀ (s : Shared) (H : Hp) (C : Addr) (cl : List (Str × Addr)) (fp : List Addr), PG (X.blk s H scope (compEnvC scope cl C X.env) fp) tg g) (ht : ∀ (s : Shared) (H : Hp) (C : Addr) (cl : List (Str × Addr)) (fp : List Addr), PTs (X.blk s H scope (compEnvC scope cl C X.env) fp) ifs tt)
    (hk : ∀ (s : Shared) (H : Hp) (C : Addr) (cl : List (Str × Addr)) (fp : List Addr), PE (X.blk s H scope (compEnvC scope cl C X.env) fp) kx tk)
    (he : ∀ (s : Shared) (H : Hp) (C : Addr) (cl : List (Str × Addr)) (fp : List Addr), PE (X.blk s H scope (compEnvC scope cl C X.env) fp) vx tv) (hs : ∀ x, foldedSetIterable iter X.env x = pure x)
    (h : tTb X wi g tt tk tv (own.map (·.2)) σ H Q)
    (hRR : ∀ D C s' m H', Inv X pins σ H' s' → Q (.ref D) H' → s'.heap.Ns C m → FpOk X pins H' C → compPost (model X.prog X.w) X.A X.xe use Qf (.ref D) C (.ok .next) s') :
    wpAny (model X.prog X.w) X.A (comprehension (.DictComp kx vx [⟨tg, iter, ifs, 0⟩] scope pos) scope X.env pos' newDict false (eval iter X.env) use) Qf X.xe s := by
  have hfree : ∀ y ∈ scope.names, y.2 = .free → ∃ c, X.env.cells.lookup y.1 = some c := fun y hy e => (ok.free y hy e).elim (fun k => I.ok.has _ (.inl k)) fun k => I.ok.has _ (.inr k)
  refine wpAny_comprehension_free (use := use) rfl hs (closure_ok hfree) ok.kind (fun y hy e => by rw [ok.uniq y hy, e]) (thn (hi.run pins s σ H _ I h) fun xv s1 hx => thn hx fun itv s2 ⟨it, fp, tn, J, H2, e, I2, T, st2, f2, q⟩ => ?_)
  subst e
  refine wpAny_newObj_type (newEnv_comp ?_)
  generalize hD : s2.heap.objs.size = D
  have hDn : H2 D = none := I2.hok.fresh (Nat.le_of_eq hD)
  obtain ⟨W, ⟨m0, w0⟩, turn⟩ := q D hDn
  generalize hs3 : ({ s2 with heap := s2.heap.push { cls := .type "dict", data := .dict #[] } } : Shared) = s3
  have hmod : (s2.heap.objs.size == sysModules) = false := beq_eq_false_iff_ne.mpr (Ne.symm (Nat.ne_of_lt I2.big))
  have I3 : Inv X pins σ (upd H2 D (.ext (TbP X.w D []))) s3 := by
    subst hs3 hD
    exact I2.laid (t' := s2.toks) (fun b o e => Heap.get?_push_of_some _ e) (Nat.le_refl _) (tb_ok (tb_new s2.heap hmod))
  have h3 : s3.heap = s2.heap.push { cls := .type "dict", data := .dict #[] } := by rw [← hs3]
  have f3 : ∀ b ∈ fp, FpOk X pins (upd H2 D (.ext (TbP X.w D []))) b ∧ b < s3.heap.objs.size := fun b hb => by
    obtain ⟨o, e, _⟩ := T.obj _ _ st2 b hb
    have hlt := Heap.lt_size e
    exact ⟨⟨by rw [upd_ne (by rw [← hD]; exact Nat.ne_of_lt hlt)]; exact (f2 b hb).1, (f2 b hb).2⟩, by rw [h3, Heap.size_push]; exact Nat.lt_succ_of_lt hlt⟩
  have st3 : tn 0 s3.heap := T.keep _ _ _ st2 fun b _ o e => by rw [h3]; exact Heap.get?_push_of_some _ e
  have I4 := block_start I3 ok hN f3
  generalize hcl : cellsFrom (s3.heap.objs.size + 1) scope.names (cloFrom X.env.cells scope.names []) = cl at I4
  have pg := hg s3 (upd H2 D (.ext (TbP X.w D []))) s3.heap.objs.size cl fp
  have pt := ht s3 (upd H2 D (.ext (TbP X.w D []))) s3.heap.objs.size cl fp
  have pk := hk s3 (upd H2 D (.ext (TbP X.w D []))) s3.heap.objs.size cl fp
  have pe := he s3 (upd H2 D (.ext (TbP X.w D []))) s3.heap.objs.size cl fp
  subst hcl
  have nfp : ∀ b ∈ fp, (upd H2 D (.ext (TbP X.w D []))) b = none := fun b hb => (f3 b hb).1.1
  show codeAny _ _ (.compStart (.DictComp kx vx [⟨tg, iter, ifs, 0⟩] scope pos) 0 (.ref it) (.ref D) (compEnvC scope (cellsFrom (s3.heap.objs.size + 1) scope.names (cloFrom X.env.cells scope.names [])) s3.heap.objs.size X.env)) (compPost (model X.prog X.w) X.A X.xe use Qf (.ref D) s3.heap.objs.size) { s3 with heap := pushCells (s3.heap.push { cls := .type "dict", data := .dict #[] }) scope.names }
  generalize hce : compEnvC scope (cellsFrom (s3.heap.objs.size + 1) scope.names (cloFrom X.env.cells scope.names [])) s3.heap.objs.size X.env = ce at I4 pg pt pk pe ⊢
  have cL : ce.locals = s3.heap.objs.size := by subst hce; rfl
  generalize hH3 : upd H2 D (.ext (TbP X.w D [])) = H3 at I3 I4 pg pt pk pe w0 nfp f3
  generalize hs4 : ({ s3 with heap := pushCells (s3.heap.push { cls := .type "dict", data := .dict #[] }) scope.names } : Shared) = s4 at I4 ⊢
  have st4 : tn 0 s4.heap := T.keep _ _ _ st3 fun b _ o e => by rw [← hs4]; exact pushCells_keeps _ _ _ _ (Heap.get?_push_of_some _ e)
  have stat : ∀ {σ' : St} {H' : Hp} {s' : Shared}, Inv (X.blk s3 H3 scope ce fp) [] σ' H' s' → (∀ b ∈ fp, H' b = none) → ∀ b ∈ fp, FpOk (X.blk s3 H3 scope ce fp) [] H' b := fun {σ' H' s'} I' hn b hb =>
    ⟨hn b hb, (I'.ok.exf b hb).1, I'.ok.exfs b hb, .inl hb, fun x c e => (I'.ok.exf b hb).2 x c e, fun p hp => absurd (show p ∈ ([] : List (Addr × Obj)) ++ [] from hp) (by simp)⟩
  refine (fun loop => codeAny_compStart_dict loop (T.self X.A 0 _ _ _ st4 loop)) ?_
  refine compLoop_anyD (fun n s' => ∃ i H', Inv (X.blk s3 H3 scope ce fp) [] (wipe σ (own.map (·.2))) H' s' ∧ tn i s'.heap ∧ (∀ b ∈ fp, H' b = none) ∧ W i n H') ?_ m0 ⟨0, H3, I4, st4, nfp, w0⟩
  rintro n s5 ⟨i, H5, I5, st5, n5, w5⟩
  rcases turn i n H5 w5 with ⟨stop, qq⟩ | ⟨go, Nx, hNx, step⟩
  · refine thnF (T.done (X.blk s3 H3 scope ce fp) rfl rfl rfl hc i [] s5 _ H5 (fun _ _ => False) I5 (stat I5 n5) st5 stop) fun r s6 ⟨hr, I6⟩ => ?_
    subst hr
    have I7 : Inv X pins σ H5 s6 := I3.call' (ch := fp) I6.os I6.base I6.hok I6.bare fun b hb => ⟨(f3 b hb).1.2.2.2.1, (f3 b hb).1.2.1, (f3 b hb).1.2.2.2.2.1, (f3 b hb).1.2.2.2.2.2⟩
    have nC : H5 s3.heap.objs.size = none := cL ▸ (show H5 ce.locals = none from I6.free)
    obtain ⟨m, hn, _⟩ := I6.loc
    have hn : s6.heap.Ns ce.locals m := hn
    rw [cL] at hn
    exact hRR D s3.heap.objs.size s6 m H5 I7 qq hn (I3.fpOk (Nat.le_refl _) nC)
  · refine thnF (T.item (X.blk s3 H3 scope ce fp) rfl rfl rfl hc i [] s5 _ H5 (fun _ _ => False) I5 (stat I5 n5) st5 go) fun r s6 ⟨u, hr, h6⟩ => ?_
    subst hr
    refine thnF h6 fun _ s7 ⟨x, H7, I7, r7, y7, st7, n7⟩ => ?_
    refine thnF (pg.run _ s7 _ H7 x u _ (I7.pinned (stat I7 n7) (T.obj _ _ st7)) r7 (step x H7 y7)) fun _ s8 ⟨σ8, H8, I8, hw8, q8⟩ => ?_
    refine thnF (pt.run _ s8 σ8 H8 _ I8 q8) fun b s9 ⟨H9, I9, q9⟩ => ?_
    have fin : ∀ {s' : Shared} {H' : Hp}, Inv (X.blk s3 H3 scope ce fp) ([] ++ pinsAt fp s7.heap) σ8 H' s' → Nx H' → ∃ m, m < n ∧ ∃ i H', Inv (X.blk s3 H3 scope ce fp) [] (wipe σ (own.map (·.2))) H' s' ∧ tn i s'.heap ∧ (∀ b ∈ fp, H' b = none) ∧ W i m H' := fun {s' H'} I' nx => by
      obtain ⟨m', hm, w'⟩ := hNx H' nx
      have pin' : ∀ b ∈ fp, ∀ o, s7.heap.get? b = some o → s'.heap.get? b = some o ∧ H' b = none := fun b hb o e => ⟨(I'.pin (b, o) (List.mem_append_right _ (List.mem_append_right _ (mem_pinsAt hb e)))).1, (I'.pin (b, o) (List.mem_append_right _ (List.mem_append_right _ (mem_pinsAt hb e)))).2.1⟩
      refine ⟨m', hm, i + 1, H', (I'.unpinned (pins := [])).weak (by rw [← hw8, wipe_length]) (fun j v e => ?_), T.keep _ _ _ st7 fun b hb o e => (pin' b hb o e).1, fun b hb => ?_, w'⟩
      · rw [← hw8] at e
        exact (wipe_some e).1
      · obtain ⟨o, e, _⟩ := T.obj _ _ st7 b hb
        exact (pin' b hb o e).2
    cases b with
    | false =>
      rw [if_neg Bool.false_ne_true] at q9
      exact fin I9 q9
    | true =>
      rw [if_pos rfl] at q9
      refine thnF (pk.run _ s9 σ8 H9 _ I9 q9) fun z s10 ⟨yk, H10, I10, r10, q10⟩ => ?_
      refine thnF (pe.run _ s10 σ8 H10 _ I10 q10) fun z2 s11 ⟨yv, H11, I11, r11, xs, k, b, o, ek, ez, hD11, hz11, hg, hb, hd, new, nx⟩ => ?_
      subst ek
      subst ez
      exact tb_set (X := X.blk s3 H3 scope ce fp) (by exact hu) I11 hD11 hz11 hg hb hd new r10 r11 fun s12 I12 => fin I12 nx
theorem pe_tb {kx vx tg iter : Expr} {ifs : List Expr} {scope : Scope} {own : List (Str × Nat)} {pos : Pos} {wi : TI} {g : TG} {tt : TT} {tk tv : TE} (hc : X.calm = true) (hu : X.A.units + 64 < cLine) (hN : X.N.Nodup) (hi : PI X tg iter wi) (ok : BlkOk X.N X.env.scope scope own)
    (hg : ∀ (s : Shared) (H : Hp) (C : Addr) (cl : List (Str × Addr)) (fp : List Addr), PG (X.blk s H scope (compEnvC scope cl C X.env) fp) tg g) (ht : ∀ (s : Shared) (H : Hp) (C : Addr) (cl : List (Str × Addr)) (fp : List Addr), PTs (X.blk s H scope (compEnvC scope cl C X.env) fp) ifs tt)
    (hk : ∀ (s : Shared) (H : Hp) (C : Addr) (cl : List (Str × Addr)) (fp : List Addr), PE (X.blk s H scope (compEnvC scope cl C X.env) fp) kx tk)
    (he : ∀ (s : Shared) (H : Hp) (C : Addr) (cl : List (Str × Addr)) (fp : List Addr), PE (X.blk s H scope (compEnvC scope cl C X.env) fp) vx tv) (hs : ∀ x, foldedSetIterable iter X.env x = pure x := by intro _; rfl) :
    PE X (.DictComp kx vx [⟨tg, iter, ifs, 0⟩] scope pos) (tTb X wi g tt tk tv (own.map (·.2))) := by
  refine ⟨fun pins s σ H Q I h => ?_⟩
  rw [arm_eval_DictComp]
  refine tb_core hc hu hN I hi ok hg ht hk he hs h fun D C s' m H' I' q hn f => ⟨m, hn, fun h'' sb => ?_⟩
  obtain ⟨f0, f1, f2, f3, f4, f5⟩ := f
  exact ⟨.ref D, H', I'.turned (t' := s'.toks) (fun b o hb e => (sb.2 b hb).trans e) f0 f1 f3 f4 f5, rfl, q⟩
end
end L2
namespace TL
open PySem PySem.Spec PyProof.Rows L2
inductive D where
  | non | bl (b : Bool) | int (i : Int) | str (x : Str)
  | tup (xs : List D) | lst (xs : List D) | dct (kvs : List (Key × D))
  | obj (C : Addr) (fs : List (Str × D)) | ref (a : Addr) | ty (n : String)
  | scr (ns : List Int)
instance : Inhabited D := ⟨.non⟩
mutual
inductive Rp (K : PySem.W.Frag) (G : Hp) : V → D → Prop
  | non : Rp K G .non .non
  | bl (b : Bool) : Rp K G (.bl b) (.bl b)
  | int (i : Int) : Rp K G (.int i) (.int i)
  | str (x : Str) : Rp K G (.str x) (.str x)
  | tup {a : Addr} {vs : List V} {ds : List D} : SqT K G a vs → RpL K G vs ds → Rp K G (.ref a) (.tup ds)
  | lst {a : Addr} {vs : List V} {ds : List D} : G a = some (.lst vs) → RpL K G vs ds → Rp K G (.ref a) (.lst ds)
  | dct {a : Addr} {kvs : List (Key × V)} {ds : List (Key × D)} : G a = some (.dK kvs) → RpK K G kvs ds → Rp K G (.ref a) (.dct ds)
  | obj {a C dx : Addr} {fs : List (Str × V)} {ds : List (Str × D)} : G a = some (.ins C dx fs) → G dx = some (.own a) → RpF K G fs ds → Rp K G (.ref a) (.obj C ds)
  | ref (a : Addr) : Rp K G (.ref a) (.ref a)
  | ty (n : String) : Rp K G (.ty n) (.ty n)
  | scr {a : Addr} {ns : List Int} : SqL K G a (ns.map V.int) → Rp K G (.ref a) (.scr ns)
inductive RpL (K : PySem.W.Frag) (G : Hp) : List V → List D → Prop
  | nil : RpL K G [] []
  | cons {v : V} {vs : List V} {d : D} {ds : List D} : Rp K G v d → RpL K G vs ds → RpL K G (v :: vs) (d :: ds)
inductive RpK (K : PySem.W.Frag) (G : Hp) : List (Key × V) → List (Key × D) → Prop
  | nil : RpK K G [] []
  | cons {k : Key} {v : V} {kvs : List (Key × V)} {d : D} {ds : List (Key × D)} : Rp K G v d → RpK K G kvs ds → RpK K G ((k, v) :: kvs) ((k, d) :: ds)
inductive RpF (K : PySem.W.Frag) (G : Hp) : List (Str × V) → List (Str × D) → Prop
  | nil : RpF K G [] []
  | cons {f : Str} {v : V} {fs : List (Str × V)} {d : D} {ds : List (Str × D)} : Rp K G v d → RpF K G fs ds → RpF K G ((f, v) :: fs) ((f, d) :: ds)
end
theorem seqT {K : PySem.W.Frag} {H H' : Hp} {a : Addr} {xs : List V} (e : Same H H') (h : SqT K H a xs) : SqT K H' a xs := by
  rcases h with (h | ⟨o, h⟩) | h
  · exact .inl (.inl (e _ _ h))
  · exact .inl (.inr ⟨o, e _ _ h⟩)
  · exact .inr h
section
variable {K : PySem.W.Frag} {G G' : Hp}
mutual
theorem Rp.mono (s : Same G G') : ∀ {v : V} {d : D}, Rp K G v d → Rp K G' v d
  | _, _, .non => .non
  | _, _, .bl b => .bl b
  | _, _, .int i => .int i
  | _, _, .str x => .str x
  | _, _, .tup h r => .tup (seqT s h) (RpL.mono s r)
  | _, _, .lst h r => .lst (s _ _ h) (RpL.mono s r)
  | _, _, .dct h r => .dct (s _ _ h) (RpK.mono s r)
  | _, _, .obj h h' r => .obj (s _ _ h) (s _ _ h') (RpF.mono s r)
  | _, _, .ref a => .ref a
  | _, _, .ty n => .ty n
  | _, _, .scr h => .scr (s.seq h)
theorem RpL.mono (s : Same G G') : ∀ {vs : List V} {ds : List D}, RpL K G vs ds → RpL K G' vs ds
  | _, _, .nil => .nil
  | _, _, .cons h r => .cons (Rp.mono s h) (RpL.mono s r)
theorem RpK.mono (s : Same G G') : ∀ {vs : List (Key × V)} {ds : List (Key × D)}, RpK K G vs ds → RpK K G' vs ds
  | _, _, .nil => .nil
  | _, _, .cons h r => .cons (Rp.mono s h) (RpK.mono s r)
theorem RpF.mono (s : Same G G') : ∀ {vs : List (Str × V)} {ds : List (Str × D)}, RpF K G vs ds → RpF K G' vs ds
  | _, _, .nil => .nil
  | _, _, .cons h r => .cons (Rp.mono s h) (RpF.mono s r)
end
theorem RpL.length : ∀ {vs : List V} {ds : List D}, RpL K G vs ds → vs.length = ds.length
  | _, _, .nil => rfl
  | _, _, .cons _ r => congrArg (· + 1) r.length
theorem RpL.append : ∀ {vs ws : List V} {ds es : List D}, RpL K G vs ds → RpL K G ws es → RpL K G (vs ++ ws) (ds ++ es)
  | _, _, _, _, .nil, s => s
  | _, _, _, _, .cons h r, s => .cons h (r.append s)
theorem RpL.get : ∀ {vs : List V} {ds : List D} {i : Nat} {d : D}, RpL K G vs ds → ds[i]? = some d → ∃ v, vs[i]? = some v ∧ Rp K G v d
  | _, _, _, _, .nil, h => by simp at h
  | _, _, 0, _, .cons h _, e => by simp at e; subst e; exact ⟨_, rfl, h⟩
  | _, _, i + 1, _, .cons _ r, e => by
    obtain ⟨v, h1, h2⟩ := RpL.get (i := i) r (by simpa using e)
    exact ⟨v, by simpa using h1, h2⟩
theorem RpL.take : ∀ {vs : List V} {ds : List D} (n : Nat), RpL K G vs ds → RpL K G (vs.take n) (ds.take n)
  | _, _, 0, _ => .nil
  | _, _, _ + 1, .nil => .nil
  | _, _, n + 1, .cons h r => .cons h (r.take n)
theorem RpL.drop : ∀ {vs : List V} {ds : List D} (n : Nat), RpL K G vs ds → RpL K G (vs.drop n) (ds.drop n)
  | _, _, 0, r => r
  | _, _, _ + 1, .nil => .nil
  | _, _, n + 1, .cons _ r => r.drop n
theorem RpL.set {v : V} {d : D} (h : Rp K G v d) : ∀ {vs : List V} {ds : List D} (i : Nat), RpL K G vs ds → RpL K G (vs.set i v) (ds.set i d)
  | _, _, _, .nil => .nil
  | _, _, 0, .cons _ r => .cons h r
  | _, _, i + 1, .cons h' r => .cons h' (RpL.set h i r)
theorem RpL.reverse {vs : List V} {ds : List D} (h : RpL K G vs ds) : RpL K G vs.reverse ds.reverse := by
  induction vs generalizing ds with
  | nil => cases h; exact .nil
  | cons v vs ih =>
    cases h with
    | cons h r => rw [List.reverse_cons, List.reverse_cons]; exact (ih r).append (.cons h .nil)
theorem RpL.rep {vs : List V} {ds : List D} (h : RpL K G vs ds) : ∀ k : Nat, RpL K G (List.replicate k vs).flatten (List.replicate k ds).flatten
  | 0 => .nil
  | k + 1 => by rw [List.replicate_succ, List.replicate_succ, List.flatten_cons, List.flatten_cons]; exact h.append (h.rep k)
theorem RpL.ints : ∀ ns : List Int, RpL K G (ns.map V.int) (ns.map D.int)
  | [] => .nil
  | n :: ns => .cons (.int n) (RpL.ints ns)
theorem RpL.strs : ∀ ns : List Str, RpL K G (ns.map V.str) (ns.map D.str)
  | [] => .nil
  | n :: ns => .cons (.str n) (RpL.strs ns)
end
mutual
def nkD : D → NestedKey
  | .int i => .num i
  | .bl b => .num (if b = true then 1 else 0)
  | .str x => .text x
  | .tup ds => .tup (nkDs ds)
  | _ => .none
def nkDs : List D → List NestedKey
  | [] => []
  | d :: ds => nkD d :: nkDs ds
end
mutual
def kyD : D → Bool
  | .non => true
  | .int _ => true
  | .bl _ => true
  | .str _ => true
  | .tup ds => kyDs ds
  | _ => false
def kyDs : List D → Bool
  | [] => true
  | d :: ds => kyD d && kyDs ds
end
mutual
theorem nk_rp {K : PySem.W.Frag} {G H : Hp} (s : Same G H) : ∀ {v : V} {d : D}, Rp K G v d → kyD d = true → NkH K H (nkD d) v
  | _, _, .non, _ => .non
  | _, _, .bl b, _ => .bl b
  | _, _, .int i, _ => .int i
  | _, _, .str x, _ => .str x
  | _, _, .tup h r, k => .tup (seqT s h) (nk_rps s r k)
  | _, _, .lst _ _, k => by cases k
  | _, _, .dct _ _, k => by cases k
  | _, _, .obj _ _ _, k => by cases k
  | _, _, .ref _, k => by cases k
  | _, _, .ty _, k => by cases k
  | _, _, .scr _, k => by cases k
theorem nk_rps {K : PySem.W.Frag} {G H : Hp} (s : Same G H) : ∀ {vs : List V} {ds : List D}, RpL K G vs ds → kyDs ds = true → NkHL K H (nkDs ds) vs
  | _, _, .nil, _ => .nil
  | _, _, .cons h r, k => .cons (nk_rp s h (Bool.and_eq_true_iff.mp k).1) (nk_rps s r (Bool.and_eq_true_iff.mp k).2)
end
structure KyOk (d : D) : Prop where
  tup : ∃ ds, d = .tup ds
  ky : kyD d = true
  dp : (nkD d).depth ≤ 8
inductive TbR (K : PySem.W.Frag) (G : Hp) : List TbE → List (D × Option Int) → Prop
  | nil : TbR K G [] []
  | cons {a : Addr} {d : D} {o : Option Int} {xs : List TbE} {ys : List (D × Option Int)} : Rp K G (.ref a) d → KyOk d → TbR K G xs ys → TbR K G ((nkD d, a, o) :: xs) ((d, o) :: ys)
theorem TbR.mono {K : PySem.W.Frag} {G G' : Hp} (s : Same G G') : ∀ {xs : List TbE} {ys : List (D × Option Int)}, TbR K G xs ys → TbR K G' xs ys
  | _, _, .nil => .nil
  | _, _, .cons r k t => .cons (r.mono s) k (TbR.mono s t)
theorem TbR.app {K : PySem.W.Frag} {G : Hp} : ∀ {xs xs2 : List TbE} {ys ys2 : List (D × Option Int)}, TbR K G xs ys → TbR K G xs2 ys2 → TbR K G (xs ++ xs2) (ys ++ ys2)
  | _, _, _, _, .nil, t => t
  | _, _, _, _, .cons r k t, u => .cons r k (t.app u)
theorem TbR.keys {K : PySem.W.Frag} {G : Hp} : ∀ {xs : List TbE} {ys : List (D × Option Int)}, TbR K G xs ys → xs.map (·.1) = ys.map fun y => nkD y.1
  | _, _, .nil => rfl
  | _, _, .cons _ _ t => by rw [List.map_cons, List.map_cons, t.keys]
theorem TbR.vals {K : PySem.W.Frag} {G : Hp} : ∀ {xs : List TbE} {ys : List (D × Option Int)}, TbR K G xs ys → xs.map (·.2.2) = ys.map (·.2)
  | _, _, .nil => rfl
  | _, _, .cons _ _ t => by rw [List.map_cons, List.map_cons, t.vals]
theorem TbR.len {K : PySem.W.Frag} {G : Hp} {xs : List TbE} {ys : List (D × Option Int)} (h : TbR K G xs ys) : xs.length = ys.length := by
  have := congrArg List.length h.vals
  rwa [List.length_map, List.length_map] at this
theorem TbR.good {K : PySem.W.Frag} {G H : Hp} (s : Same G H) : ∀ {xs : List TbE} {ys : List (D × Option Int)}, TbR K G xs ys → ∀ x ∈ xs, NkH K H x.1 (.ref x.2.1) ∧ x.1.depth ≤ 8
  | _, _, .cons r k t, x, hx => by
    rcases List.mem_cons.mp hx with rfl | hx
    · exact ⟨nk_rp s r k.ky, k.dp⟩
    · exact TbR.good s t x hx
abbrev Stt := L2.St
inductive Res where
  | st (b : Nat)
  | stx (L C : List Int) (r t : Int) (b : Nat)
  | ob (C : Addr) (fs : List (Str × D))
  | sg (b : Nat)
  | sgx (L C : List Int) (r t : Int) (b : Nat)
  | kd (ks : List (Option Int))
  | tb (w : World) (kvs : List (D × Option Int))
  | ex (C : Addr) (fs : List (Str × D))
inductive Sl where
  | un | fr (d : D) | ls (xs : List D) | dc (kvs : List (Key × D)) | rs (r : Res)
def Sl.own : Sl → Bool
  | .ls _ => true
  | .dc _ => true
  | .rs _ => true
  | _ => false
abbrev Env := List Sl
def StX (G H : Hp) (F : Addr → Prop) (v : V) (large cells : List Int) (rest turn : Int) (b : Nat) : Prop :=
  ∃ (S L C : Addr), v = .ref S ∧ F S ∧ F L ∧
    H S = some (.dK [(Sum.inr "large", .ref L), (Sum.inr "cells", .ref C), (Sum.inr "rest", .int rest), (Sum.inr "turn", .int turn)]) ∧
    H L = some (.lst (large.map V.int)) ∧ G C = some (.lst (cells.map V.int)) ∧ large.length ≤ 63 ∧ cells.length ≤ 63 ∧ 0 ≤ turn ∧ turn + b ≤ 1000000000000
def SgX (G H : Hp) (F : Addr → Prop) (v : V) (great cells : List Int) (rest turn : Int) (b : Nat) : Prop :=
  ∃ (S L C : Addr), v = .ref S ∧ F S ∧ F L ∧
    H S = some (.dK [(Sum.inr "great", .ref L), (Sum.inr "cells", .ref C), (Sum.inr "rest", .int rest), (Sum.inr "turn", .int turn)]) ∧
    H L = some (.lst (great.map V.int)) ∧ G C = some (.lst (cells.map V.int)) ∧ great.length ≤ 63 ∧ cells.length ≤ 63 ∧ 0 ≤ turn ∧ turn + b ≤ 1000000000000
def exv (a : Addr) (cls : Value) (d : Option Addr) : HO := .ext fun h => ∃ (oe : Obj) (vs : Array Value), h.get? a = some oe ∧ Zc cls d oe ∧ oe.data = .fields vs
def RpX (K : PySem.W.Frag) (G : Hp) (d : Option Addr) (fs : List (Str × D)) : Prop := (d = none ∧ fs = []) ∨ ∃ (dd : Addr) (vs : List (Str × V)), d = some dd ∧ G dd = some (.xd vs) ∧ RpF K G vs fs
def Res.ok (K : PySem.W.Frag) (G H : Hp) (F : Addr → Prop) (v : V) : Res → Prop
  | .st b => ∃ large cells rest turn, StX G H F v large cells rest turn b
  | .stx L C r t b => StX G H F v L C r t b
  | .ob C fs => ∃ (a dx : Addr) (vs : List (Str × V)), v = .ref a ∧ F a ∧ F dx ∧ H a = some (.ins C dx vs) ∧ H dx = some (.own a) ∧ RpF K G vs fs
  | .sg b => ∃ great cells rest turn, SgX G H F v great cells rest turn b
  | .sgx L C r t b => SgX G H F v L C r t b
  | .kd ks => ∃ a, v = .ref a ∧ F a ∧ H a = some (.ext (KdP a ks))
  | .tb w kvs => ∃ a xs, v = .ref a ∧ F a ∧ H a = some (.ext (TbP w a xs)) ∧ TbR K G xs kvs
  | .ex C fs => ∃ (a : Addr) (d : Option Addr), v = .ref a ∧ G a = some (exv a (.ref C) d) ∧ RpX K G d fs
def SlOk (K : PySem.W.Frag) (G H : Hp) (F : Addr → Prop) (ov : Option (Option V)) : Sl → Prop
  | .un => True
  | .fr d => ∃ v, ov = some (some v) ∧ Rp K G v d
  | .ls ds => ∃ a vs, ov = some (some (.ref a)) ∧ F a ∧ H a = some (.lst vs) ∧ RpL K G vs ds
  | .dc ds => ∃ a vs, ov = some (some (.ref a)) ∧ F a ∧ H a = some (.dK vs) ∧ RpK K G vs ds
  | .rs r => ∃ v, ov = some (some v) ∧ r.ok K G H F v
theorem StX.mono {G G' H H' : Hp} {F F' : Addr → Prop} {v : V} {lg cs : List Int} {rest turn : Int} {b : Nat} (s : Same G G') (hF : ∀ a, F a → F' a ∧ H' a = H a) (h : StX G H F v lg cs rest turn b) : StX G' H' F' v lg cs rest turn b := by
  obtain ⟨S, L, C, e, f1, f2, h1, h2, h3, h4⟩ := h
  exact ⟨S, L, C, e, (hF _ f1).1, (hF _ f2).1, (hF _ f1).2.trans h1, (hF _ f2).2.trans h2, s _ _ h3, h4⟩
theorem SgX.mono {G G' H H' : Hp} {F F' : Addr → Prop} {v : V} {lg cs : List Int} {rest turn : Int} {b : Nat} (s : Same G G') (hF : ∀ a, F a → F' a ∧ H' a = H a) (h : SgX G H F v lg cs rest turn b) : SgX G' H' F' v lg cs rest turn b := by
  obtain ⟨S, L, C, e, f1, f2, h1, h2, h3, h4⟩ := h
  exact ⟨S, L, C, e, (hF _ f1).1, (hF _ f2).1, (hF _ f1).2.trans h1, (hF _ f2).2.trans h2, s _ _ h3, h4⟩
theorem RpX.mono {K : PySem.W.Frag} {G G' : Hp} {d : Option Addr} {fs : List (Str × D)} (s : Same G G') (h : RpX K G d fs) : RpX K G' d fs := by
  rcases h with h | ⟨dd, vs, e, g, r⟩
  · exact .inl h
  · exact .inr ⟨dd, vs, e, s _ _ g, RpF.mono s r⟩
theorem Res.ok.mono {K : PySem.W.Frag} {G G' H H' : Hp} {F F' : Addr → Prop} {v : V} {r : Res} (s : Same G G') (hF : ∀ a, F a → F' a ∧ H' a = H a) (h : r.ok K G H F v) : r.ok K G' H' F' v := by
  cases r with
  | st b =>
    obtain ⟨lg, cs, rest, turn, h⟩ := h
    exact ⟨lg, cs, rest, turn, h.mono s hF⟩
  | stx L C r t b => exact StX.mono s hF h
  | sg b =>
    obtain ⟨lg, cs, rest, turn, h⟩ := h
    exact ⟨lg, cs, rest, turn, h.mono s hF⟩
  | sgx L C r t b => exact SgX.mono s hF h
  | tb w kvs =>
    obtain ⟨a, xs, e, f1, h1, r⟩ := h
    exact ⟨a, xs, e, (hF _ f1).1, (hF _ f1).2.trans h1, r.mono s⟩
  | ex C fs =>
    obtain ⟨a, d, e, g, r⟩ := h
    exact ⟨a, d, e, s _ _ g, r.mono s⟩
  | kd ks =>
    obtain ⟨a, e, f1, h1⟩ := h
    exact ⟨a, e, (hF _ f1).1, (hF _ f1).2.trans h1⟩
  | ob C fs =>
    obtain ⟨a, dx, vs, e, f1, f2, h1, h2, r⟩ := h
    exact ⟨a, dx, vs, e, (hF _ f1).1, (hF _ f2).1, (hF _ f1).2.trans h1, (hF _ f2).2.trans h2, RpF.mono s r⟩
theorem SlOk.mono {K : PySem.W.Frag} {G G' H H' : Hp} {F F' : Addr → Prop} {ov : Option (Option V)} {s : Sl} (g : Same G G') (hF : ∀ a, F a → F' a ∧ H' a = H a) (h : SlOk K G H F ov s) : SlOk K G' H' F' ov s := by
  cases s with
  | un => trivial
  | fr d => obtain ⟨v, e, r⟩ := h; exact ⟨v, e, r.mono g⟩
  | ls ds => obtain ⟨a, vs, e, f, h1, r⟩ := h; exact ⟨a, vs, e, (hF _ f).1, (hF _ f).2.trans h1, r.mono g⟩
  | dc ds => obtain ⟨a, vs, e, f, h1, r⟩ := h; exact ⟨a, vs, e, (hF _ f).1, (hF _ f).2.trans h1, r.mono g⟩
  | rs r => obtain ⟨v, e, q⟩ := h; exact ⟨v, e, q.mono g hF⟩
structure Bs where
  G0 : Hp
  H0 : Hp
  A0 : Addr → Prop
  P : Stt
  T : List (Addr × Str)
abbrev Own := Addr → Option Nat
def Bs.tab (B : Bs) (a : Addr) : Prop := ∃ q, (a, q) ∈ B.T
def TabG (G H : Hp) (P : Addr) (q : Str) : Prop := ∃ ps : Array Value, H P = some (.tbl ps) ∧ TriplesOk ps.toList ∧ ∀ (pos : Pos) (cv : Value), codeAmong pos ps.toList = some cv → ∃ c, cv = .ref c ∧ G c = some (LamX.CodeO c q)
theorem TabG.mono {G G' H H' : Hp} {P : Addr} {q : Str} (g : Same G G') (h : H' P = H P) (t : TabG G H P q) : TabG G' H' P q := by
  obtain ⟨ps, h1, h2, h3⟩ := t
  refine ⟨ps, h.trans h1, h2, fun pos cv hc => ?_⟩
  obtain ⟨c, e1, e2⟩ := h3 pos cv hc
  exact ⟨c, e1, g _ _ e2⟩
structure Kp (B : Bs) (G H : Hp) : Prop where
  old : ∀ a o, B.H0 a = some o → ¬ B.A0 a → ¬ B.tab a → H a = some o
  tin : ∀ a, B.tab a → B.G0 a = none ∧ ¬ B.A0 a ∧ ∃ ps, B.H0 a = some (.tbl ps)
  tabs : ∀ p ∈ B.T, TabG G H p.1 p.2
section
variable {B : Bs} {G G' H H' : Hp}
theorem Kp.isT (k : Kp B G H) {a : Addr} (h : B.tab a) : ∃ ps, H a = some (.tbl ps) := by
  obtain ⟨q, hq⟩ := h
  obtain ⟨ps, h1, _⟩ := k.tabs _ hq
  exact ⟨ps, h1⟩
theorem Kp.mono (k : Kp B G H) (g : Same G G') (h : Same H H') : Kp B G' H' where
  old := fun a o q n t => h _ _ (k.old a o q n t)
  tin := k.tin
  tabs := fun p hp => by
    obtain ⟨ps, h1, h2⟩ := k.tabs p hp
    exact (k.tabs p hp).mono g ((h _ _ h1).trans h1.symm)
theorem Kp.g (k : Kp B G H) (g : Same G G') : Kp B G' H := k.mono g (.refl _)
theorem Kp.gone (k : Kp B G H) {a : Addr} (h : H a = none) : B.A0 a ∨ B.H0 a = none := by
  cases q : B.H0 a with
  | none => exact .inr rfl
  | some o =>
    refine .inl (Classical.byContradiction fun n => ?_)
    by_cases t : B.tab a
    · obtain ⟨ps, e⟩ := k.isT t
      rw [h] at e; cases e
    · rw [k.old a o q n t] at h; cases h
theorem Kp.upd (k : Kp B G H) {p : Addr} {o : HO} (hp : B.A0 p ∨ B.H0 p = none) : Kp B G (L2.upd H p o) where
  old := fun a u q n t => by
    rw [upd_ne (fun z => by
      subst z
      rcases hp with y | y
      · exact n y
      · rw [y] at q; cases q)]
    exact k.old a u q n t
  tin := k.tin
  tabs := fun r hr => by
    refine (k.tabs r hr).mono (.refl _) (upd_ne fun z => ?_)
    obtain ⟨_, h2, ps, h3⟩ := k.tin r.1 ⟨r.2, hr⟩
    rw [z] at h2 h3
    rcases hp with y | y
    · exact h2 y
    · rw [y] at h3; cases h3
end
structure EnvW (K : PySem.W.Frag) (B : Bs) (G : Hp) (ω : Own) (ρ : Env) (σ : Stt) (H : Hp) : Prop where
  gle : Same G H
  g0 : ∀ a o, G a = some o → B.G0 a = some o ∨ B.H0 a = none ∨ B.A0 a
  keep : Kp B G H
  own : ∀ (a : Addr) (i : Nat), ω a = some i → G a = none ∧ H a ≠ none ∧ (B.A0 a ∨ B.H0 a = none)
  len : ρ.length = σ.length
  slot : ∀ (i : Nat) (s : Sl), ρ[i]? = some s → SlOk K G H (fun a => ω a = some i) σ[i]? s
  pin : ∀ (i : Nat) (s : Sl) (v : V), ρ[i]? = some s → s.own = true → B.P[i]? = some (some v) → σ[i]? = some (some v)
inductive Rs where
  | dat (d : D) | sl (i : Nat) | nw (s : Sl)
def RsOk (K : PySem.W.Frag) (G H : Hp) (ω : Own) (σ : Stt) (v : V) : Rs → Prop
  | .dat d => Rp K G v d
  | .sl i => σ[i]? = some (some v)
  | .nw s => s.own = true ∧ SlOk K G H (fun a => ω a = some σ.length) (some (some v)) s
def stl : Rs → Rs
  | .nw (.ls xs) => .dat (.lst xs)
  | .nw (.dc xs) => .dat (.dct xs)
  | r => r
def val (ρ : Env) : Rs → Option D
  | .dat d => some d
  | .sl i => match ρ[i]? with
    | some (.ls xs) => some (.lst xs)
    | some (.dc xs) => some (.dct xs)
    | _ => none
  | .nw (.ls xs) => some (.lst xs)
  | .nw (.dc xs) => some (.dct xs)
  | .nw _ => none
def RdV (K : PySem.W.Frag) (G H : Hp) (v : V) (d : D) : Prop :=
  Rp K G v d ∨ (∃ a vs ds, v = .ref a ∧ d = .lst ds ∧ H a = some (.lst vs) ∧ RpL K G vs ds) ∨ ∃ a vs ds, v = .ref a ∧ d = .dct ds ∧ H a = some (.dK vs) ∧ RpK K G vs ds
def Fin (K : PySem.W.Frag) (B : Bs) (G : Hp) (ρ : Env) (σ : Stt) (H : Hp) (v : V) (r : Rs) : Prop := ∃ ω, EnvW K B G ω ρ σ H ∧ RsOk K G H ω σ v r
def EnvOk (K : PySem.W.Frag) (B : Bs) (G : Hp) (ρ : Env) (σ : Stt) (H : Hp) : Prop := ∃ ω, EnvW K B G ω ρ σ H
section
variable {K : PySem.W.Frag} {B : Bs} {G G' : Hp} {ω : Own} {ρ : Env} {σ : Stt} {H H' : Hp} {v : V} {r : Rs} {d : D}
theorem Fin.env (f : Fin K B G ρ σ H v r) : EnvOk K B G ρ σ H := let ⟨ω, e, _⟩ := f; ⟨ω, e⟩
theorem EnvW.dat (e : EnvW K B G ω ρ σ H) (h : Rp K G v d) : Fin K B G ρ σ H v (.dat d) := ⟨ω, e, h⟩
theorem EnvOk.dat (e : EnvOk K B G ρ σ H) (h : Rp K G v d) : Fin K B G ρ σ H v (.dat d) := let ⟨ω, e⟩ := e; ⟨ω, e, h⟩
theorem RdV.tup {xs : List D} (r : RdV K G H v (.tup xs)) : ∃ a vs, v = .ref a ∧ SqT K G a vs ∧ RpL K G vs xs := by
  rcases r with r | ⟨_, _, _, _, e, _⟩ | ⟨_, _, _, _, e, _⟩
  · cases r with | tup h r => exact ⟨_, _, rfl, h, r⟩
  · cases e
  · cases e
theorem RdV.lst {xs : List D} (s : Same G H) (r : RdV K G H v (.lst xs)) : ∃ a vs, v = .ref a ∧ H a = some (.lst vs) ∧ RpL K G vs xs := by
  rcases r with r | ⟨a, vs, ds, e1, e, h, r⟩ | ⟨_, _, _, _, e, _⟩
  · cases r with | lst h r => exact ⟨_, _, rfl, s _ _ h, r⟩
  · cases e; exact ⟨a, vs, e1, h, r⟩
  · cases e
theorem RdV.dct {xs : List (Key × D)} (s : Same G H) (r : RdV K G H v (.dct xs)) : ∃ a vs, v = .ref a ∧ H a = some (.dK vs) ∧ RpK K G vs xs := by
  rcases r with r | ⟨a, vs, ds, e1, e, _⟩ | ⟨a, vs, ds, e1, e, h, r⟩
  · cases r with | dct h r => exact ⟨_, _, rfl, s _ _ h, r⟩
  · cases e
  · cases e; exact ⟨a, vs, e1, h, r⟩
theorem RdV.int {i : Int} (r : RdV K G H v (.int i)) : v = .int i := by
  rcases r with r | ⟨_, _, _, _, e, _⟩ | ⟨_, _, _, _, e, _⟩
  · cases r; rfl
  · cases e
  · cases e
theorem RdV.str {i : Str} (r : RdV K G H v (.str i)) : v = .str i := by
  rcases r with r | ⟨_, _, _, _, e, _⟩ | ⟨_, _, _, _, e, _⟩
  · cases r; rfl
  · cases e
  · cases e
theorem RdV.bl {i : Bool} (r : RdV K G H v (.bl i)) : v = .bl i := by
  rcases r with r | ⟨_, _, _, _, e, _⟩ | ⟨_, _, _, _, e, _⟩
  · cases r; rfl
  · cases e
  · cases e
theorem RdV.non (r : RdV K G H v .non) : v = .non := by
  rcases r with r | ⟨_, _, _, _, e, _⟩ | ⟨_, _, _, _, e, _⟩
  · cases r; rfl
  · cases e
  · cases e
theorem RdV.scr {ns : List Int} (r : RdV K G H v (.scr ns)) : ∃ a, v = .ref a ∧ SqL K G a (ns.map V.int) := by
  rcases r with r | ⟨_, _, _, _, e, _⟩ | ⟨_, _, _, _, e, _⟩
  · cases r with | scr h => exact ⟨_, rfl, h⟩
  · cases e
  · cases e
theorem EnvW.gone (e : EnvW K B G ω ρ σ H) {a : Addr} (h : H a = none) : B.A0 a ∨ B.H0 a = none := e.keep.gone h
theorem EnvW.tab (e : EnvW K B G ω ρ σ H) {a : Addr} (h : B.tab a) : G a = none ∧ ω a = none ∧ ∃ ps, H a = some (.tbl ps) := by
  obtain ⟨h1, h2, ps, h3⟩ := e.keep.tin a h
  refine ⟨?_, ?_, e.keep.isT h⟩
  · cases q : G a with
    | none => rfl
    | some o =>
      rcases e.g0 a o q with z | z | z
      · rw [h1] at z; cases z
      · rw [h3] at z; cases z
      · exact absurd z h2
  · cases q : ω a with
    | none => rfl
    | some i =>
      rcases (e.own a i q).2.2 with z | z
      · exact absurd z h2
      · rw [h3] at z; cases z
theorem EnvW.grow (e : EnvW K B G ω ρ σ H) (g : Same G G') (h : Same H H') (gl : Same G' H') (hn : ∀ a o, G' a = some o → G a = some o ∨ H a = none) : EnvW K B G' ω ρ σ H' where
  gle := gl
  g0 := fun a o q => by
    rcases hn a o q with q | q
    · exact e.g0 a o q
    · rcases e.gone q with z | z
      · exact .inr (.inr z)
      · exact .inr (.inl z)
  keep := e.keep.mono g h
  own := fun a i q => by
    obtain ⟨h1, h2, h3⟩ := e.own a i q
    refine ⟨?_, ?_, h3⟩
    · cases z : G' a with
      | none => rfl
      | some o =>
        rcases hn a o z with z | z
        · rw [h1] at z; cases z
        · exact absurd z h2
    · intro z
      cases w : H a with
      | none => exact h2 w
      | some o => rw [h a o w] at z; cases z
  len := e.len
  slot := fun i s q => (e.slot i s q).mono g fun a z => ⟨z, by
    obtain ⟨_, h2, _⟩ := e.own a i z
    cases w : H a with
    | none => exact absurd w h2
    | some o => exact h a o w⟩
  pin := e.pin
theorem same_upd {p : Addr} {o : HO} (h : H p = none) : Same H (upd H p o) := fun b x e => by
  rw [upd_ne (ne_of_none e h)]; exact e
theorem same_upd2 {p : Addr} {o : HO} (s : Same G H) : Same (upd G p o) (upd H p o) := fun b x e => by
  by_cases hb : b = p
  · subst hb; rw [upd_same] at e ⊢; exact e
  · rw [upd_ne hb] at e ⊢; exact s _ _ e
theorem Same.none {a : Addr} (s : Same G H) (h : H a = none) : G a = none := by
  cases q : G a with
  | none => rfl
  | some o => rw [s a o q] at h; cases h
theorem EnvW.newG (e : EnvW K B G ω ρ σ H) {p : Addr} {o : HO} (h : H p = none) : Same G (upd G p o) ∧ EnvW K B (upd G p o) ω ρ σ (upd H p o) := by
  have hg := Same.none e.gle h
  refine ⟨same_upd hg, e.grow (same_upd hg) (same_upd h) (same_upd2 e.gle) fun a u q => ?_⟩
  by_cases hb : a = p
  · subst hb; exact .inr h
  · rw [upd_ne hb] at q; exact .inl q
def tagd (ω : Own) (p : Addr) (i : Nat) : Own := fun a => if a = p then some i else if ω a = some i then none else ω a
def untag (ω : Own) (i : Nat) : Own := fun a => if ω a = some i then none else ω a
def retag (ω : Own) (i j : Nat) : Own := fun a => if ω a = some i then some j else if ω a = some j then none else ω a
theorem untag_some {i j : Nat} {a : Addr} (h : untag ω i a = some j) : ω a = some j ∧ j ≠ i := by
  unfold untag at h
  split at h
  · cases h
  · rename_i n; exact ⟨h, fun z => n (z ▸ h)⟩
theorem untag_ne {i j : Nat} {a : Addr} (hj : j ≠ i) (h : ω a = some j) : untag ω i a = some j := by
  unfold untag
  rw [if_neg (fun z => by rw [h] at z; exact hj (Option.some.inj z))]; exact h
theorem EnvW.dropTag (e : EnvW K B G ω ρ σ H) {i : Nat} (hi : σ.length ≤ i) : EnvW K B G (untag ω i) ρ σ H where
  gle := e.gle
  g0 := e.g0
  keep := e.keep
  own := fun a j q => e.own a j (untag_some q).1
  len := e.len
  slot := fun j s q => (e.slot j s q).mono (.refl _) fun a z => by
    refine ⟨untag_ne ?_ z, rfl⟩
    have : j < ρ.length := (List.getElem?_eq_some_iff.mp q).1
    have := e.len
    omega
  pin := e.pin
theorem EnvW.newW (e : EnvW K B G ω ρ σ H) {p : Addr} {o : HO} (h : H p = none) : EnvW K B G (tagd ω p σ.length) ρ σ (upd H p o) where
  gle := fun a u q => same_upd h _ _ (e.gle a u q)
  g0 := e.g0
  keep := e.keep.mono (.refl _) (same_upd h)
  own := fun a i q => by
    unfold tagd at q
    by_cases ha : a = p
    · subst ha
      refine ⟨Same.none e.gle h, by rw [upd_same]; simp, e.gone h⟩
    · rw [if_neg ha] at q
      split at q
      · cases q
      · obtain ⟨h1, h2, h3⟩ := e.own a i q
        exact ⟨h1, by rw [upd_ne ha]; exact h2, h3⟩
  len := e.len
  slot := fun j s q => (e.slot j s q).mono (.refl _) fun a z => by
    obtain ⟨_, h2, _⟩ := e.own a j z
    have ha : a ≠ p := fun w => h2 (w ▸ h)
    refine ⟨?_, upd_ne ha⟩
    unfold tagd
    have : j < ρ.length := (List.getElem?_eq_some_iff.mp q).1
    have := e.len
    rw [if_neg ha, if_neg (fun w => by rw [z] at w; have := Option.some.inj w; omega)]
    exact z
  pin := e.pin
theorem tagd_same {p : Addr} {i : Nat} : tagd ω p i p = some i := by unfold tagd; rw [if_pos rfl]
theorem EnvW.newL (e : EnvW K B G ω ρ σ H) {p : Addr} {vs : List V} {ds : List D} (h : H p = none) (r : RpL K G vs ds) : Fin K B G ρ σ (upd H p (.lst vs)) (.ref p) (.nw (.ls ds)) :=
  ⟨_, e.newW h, rfl, p, vs, rfl, tagd_same, upd_same, r⟩
theorem EnvW.newD (e : EnvW K B G ω ρ σ H) {p : Addr} {vs : List (Key × V)} {ds : List (Key × D)} (h : H p = none) (r : RpK K G vs ds) : Fin K B G ρ σ (upd H p (.dK vs)) (.ref p) (.nw (.dc ds)) :=
  ⟨_, e.newW h, rfl, p, vs, rfl, tagd_same, upd_same, r⟩
theorem EnvW.newT (e : EnvW K B G ω ρ σ H) {p : Addr} {vs : List V} {ds : List D} (h : H p = none) (r : RpL K G vs ds) :
    Same G (upd G p (.tup vs)) ∧ Fin K B (upd G p (.tup vs)) ρ σ (upd H p (.tup vs)) (.ref p) (.dat (.tup ds)) := by
  obtain ⟨s, e'⟩ := e.newG (o := .tup vs) h
  exact ⟨s, ω, e', .tup (.inl (.inl upd_same)) (r.mono s)⟩
theorem EnvW.freeze (e : EnvW K B G ω ρ σ H) {p : Addr} {i : Nat} {o : HO} (hp : ω p = some i) (ho : H p = some o) (hi : ∀ s, ρ[i]? = some s → s.own = true → False) :
    Same G (upd G p o) ∧ EnvW K B (upd G p o) (untag ω i) ρ σ H := by
  obtain ⟨g1, g2, g3⟩ := e.own p i hp
  have sg : Same G (upd G p o) := same_upd g1
  refine ⟨sg, ⟨fun a u q => ?_, fun a u q => ?_, e.keep.g sg, fun a j q => ?_, e.len, fun j s q => ?_, e.pin⟩⟩
  · by_cases ha : a = p
    · subst ha; rw [upd_same] at q; rw [ho]; exact q
    · rw [upd_ne ha] at q; exact e.gle _ _ q
  · by_cases ha : a = p
    · subst ha
      rcases g3 with z | z
      · exact .inr (.inr z)
      · exact .inr (.inl z)
    · rw [upd_ne ha] at q; exact e.g0 _ _ q
  · obtain ⟨q1, q2⟩ := untag_some q
    obtain ⟨h1, h2, h3⟩ := e.own a j q1
    refine ⟨?_, h2, h3⟩
    have ha : a ≠ p := fun z => by subst z; rw [hp] at q1; exact q2 (Option.some.inj q1).symm
    rw [upd_ne ha]; exact h1
  · by_cases hj : j = i
    · subst hj
      have q' := e.slot j s q
      cases s with
      | un => trivial
      | fr d => obtain ⟨v, e1, r⟩ := q'; exact ⟨v, e1, r.mono sg⟩
      | ls _ => exact (hi _ q rfl).elim
      | dc _ => exact (hi _ q rfl).elim
      | rs _ => exact (hi _ q rfl).elim
    · exact (e.slot j s q).mono sg fun a z => ⟨untag_ne hj z, rfl⟩
theorem EnvW.setUn (e : EnvW K B G ω ρ σ H) {i : Nat} {s' : Sl} (hs : SlOk K G H (fun _ => False) σ[i]? s') (ho : s'.own = false) : EnvW K B G (untag ω i) (ρ.set i s') σ H where
  gle := e.gle
  g0 := e.g0
  keep := e.keep
  own := fun a j q => e.own a j (untag_some q).1
  len := by rw [List.length_set]; exact e.len
  slot := fun j s q => by
    by_cases hj : j = i
    · subst hj
      have hl : j < ρ.length := by have := (List.getElem?_eq_some_iff.mp q).1; rwa [List.length_set] at this
      rw [List.getElem?_set_self hl] at q
      cases q
      exact hs.mono (.refl _) fun a z => z.elim
    · rw [List.getElem?_set_ne (Ne.symm hj)] at q
      exact (e.slot j s q).mono (.refl _) fun a z => ⟨untag_ne hj z, rfl⟩
  pin := fun j s v q o p => by
    by_cases hj : j = i
    · subst hj
      have hl : j < ρ.length := by have := (List.getElem?_eq_some_iff.mp q).1; rwa [List.length_set] at this
      rw [List.getElem?_set_self hl] at q
      cases q
      rw [ho] at o; cases o
    · rw [List.getElem?_set_ne (Ne.symm hj)] at q
      exact e.pin j s v q o p
theorem Fin.stl (f : Fin K B G ρ σ H v r) : ∃ G', Same G G' ∧ Fin K B G' ρ σ H v (stl r) := by
  obtain ⟨ω, e, h⟩ := f
  have hi : ∀ s, ρ[σ.length]? = some s → s.own = true → False := fun s q _ => by
    have := (List.getElem?_eq_some_iff.mp q).1
    have := e.len
    omega
  cases r with
  | dat d => exact ⟨G, .refl _, ω, e, h⟩
  | sl i => exact ⟨G, .refl _, ω, e, h⟩
  | nw s =>
    cases s with
    | ls xs =>
      obtain ⟨_, a, vs, ev, hf, hh, rr⟩ := h
      cases ev
      obtain ⟨sg, e'⟩ := e.freeze hf hh hi
      exact ⟨_, sg, _, e', .lst upd_same (rr.mono sg)⟩
    | dc xs =>
      obtain ⟨_, a, vs, ev, hf, hh, rr⟩ := h
      cases ev
      obtain ⟨sg, e'⟩ := e.freeze hf hh hi
      exact ⟨_, sg, _, e', .dct upd_same (rr.mono sg)⟩
    | un => exact ⟨G, .refl _, ω, e, h⟩
    | fr d => exact ⟨G, .refl _, ω, e, h⟩
    | rs r => exact ⟨G, .refl _, ω, e, h⟩
theorem RsOk.mono {ω' : Own} {H' : Hp} (s : Same G G') (hr : stl r = r) (hnw : ∀ s, r ≠ .nw s) (h : RsOk K G H ω σ v r) : RsOk K G' H' ω' σ v r := by
  cases r with
  | dat d => exact Rp.mono s h
  | sl i => exact h
  | nw s => exact absurd rfl (hnw s)
theorem EnvW.rd (e : EnvW K B G ω ρ σ H) (h : RsOk K G H ω σ v r) (hv : val ρ r = some d) : RdV K G H v d := by
  cases r with
  | dat d' => cases hv; exact .inl h
  | sl i =>
    have hv' : (match ρ[i]? with | some (.ls xs) => some (D.lst xs) | some (.dc xs) => some (.dct xs) | _ => none) = some d := hv
    cases q : ρ[i]? with
    | none => rw [q] at hv'; cases hv'
    | some s =>
      rw [q] at hv'
      have sl := e.slot i s q
      cases s with
      | ls xs =>
        cases hv'
        obtain ⟨a, vs, e1, _, e3, e4⟩ := sl
        have e5 : σ[i]? = some (some v) := h
        rw [e1] at e5; cases e5
        exact .inr (.inl ⟨a, vs, xs, rfl, rfl, e3, e4⟩)
      | dc xs =>
        cases hv'
        obtain ⟨a, vs, e1, _, e3, e4⟩ := sl
        have e5 : σ[i]? = some (some v) := h
        rw [e1] at e5; cases e5
        exact .inr (.inr ⟨a, vs, xs, rfl, rfl, e3, e4⟩)
      | un => cases hv'
      | fr _ => cases hv'
      | rs _ => cases hv'
  | nw s =>
    cases s with
    | ls xs =>
      cases hv
      obtain ⟨_, a, vs, ev, _, h2, h3⟩ := h
      cases ev
      exact .inr (.inl ⟨a, vs, xs, rfl, rfl, h2, h3⟩)
    | dc xs =>
      cases hv
      obtain ⟨_, a, vs, ev, _, h2, h3⟩ := h
      cases ev
      exact .inr (.inr ⟨a, vs, xs, rfl, rfl, h2, h3⟩)
    | un => cases hv
    | fr _ => cases hv
    | rs _ => cases hv
end
def reB (B : Bs) (G : Hp) (ω : Own) (n : Nat) (H : Hp) : Bs := ⟨G, H, fun a => ∃ i, i < n ∧ ω a = some i, B.P, B.T⟩
theorem EnvW.back {K K' : PySem.W.Frag} {B : Bs} {G G' : Hp} {ω ω' : Own} {ρ ρ' : Env} {σ σ' : Stt} {H H' : Hp} {n : Nat} (e : EnvW K B G ω ρ σ H) (f : EnvW K' (reB B G ω n H) G' ω' ρ' σ' H') : EnvW K' B G' ω' ρ' σ' H' where
  gle := f.gle
  g0 := fun a o q => by
    rcases f.g0 a o q with z | z | ⟨i, _, z⟩
    · exact e.g0 a o z
    · rcases e.gone z with y | y
      · exact .inr (.inr y)
      · exact .inr (.inl y)
    · rcases (e.own a i z).2.2 with y | y
      · exact .inr (.inr y)
      · exact .inr (.inl y)
  keep := {
    old := fun a o q n t => f.keep.old a o (e.keep.old a o q n t) (fun ⟨i, _, z⟩ => by
      rcases (e.own a i z).2.2 with y | y
      · exact n y
      · rw [y] at q; cases q) t
    tin := e.keep.tin
    tabs := f.keep.tabs }
  own := fun a i q => by
    obtain ⟨h1, h2, h3⟩ := f.own a i q
    refine ⟨h1, h2, ?_⟩
    rcases h3 with ⟨j, _, z⟩ | z
    · exact (e.own a j z).2.2
    · exact e.gone z
  len := f.len
  slot := f.slot
  pin := f.pin
structure Np where
  n : Nat
  T : List (Addr × Str)
  C : Bs → Prop
def Np.of (T : List (Addr × Str)) (n : Nat) : Np := ⟨n, T, fun _ => True⟩
def Back (B B0 : Bs) : Prop := ∀ (K : PySem.W.Frag) (G : Hp) (ω : Own) (ρ : Env) (σ : Stt) (H : Hp), EnvW K B G ω ρ σ H → EnvW K B0 G ω ρ σ H
structure Np.ok (np : Np) (B : Bs) : Prop where
  n : B.P.length = np.n
  T : B.T = np.T
  c : ∃ B0, np.C B0 ∧ Back B B0
theorem Np.ok.mk' {np : Np} {B : Bs} (h1 : B.P.length = np.n) (h2 : B.T = np.T) (h3 : np.C B) : np.ok B := ⟨h1, h2, B, h3, fun _ _ _ _ _ _ e => e⟩
theorem Np.ok.re {np : Np} {K : PySem.W.Frag} {B : Bs} {G : Hp} {ω : Own} {ρ : Env} {σ : Stt} {H : Hp} {m : Nat} (h : np.ok B) (e : EnvW K B G ω ρ σ H) : np.ok (reB B G ω m H) :=
  ⟨h.n, h.T, let ⟨B0, c, k⟩ := h.c; ⟨B0, c, fun K G ω ρ σ H f => k K G ω ρ σ H (e.back f)⟩⟩
end TL
namespace TL
open PySem PySem.Spec PyProof.Rows L2
abbrev DTE := Env → (Rs → Env → Prop) → Prop
abbrev DTT := Env → (Bool → Env → Prop) → Prop
abbrev DTA := Env → (List Rs → Env → Prop) → Prop
structure DEnds where
  nx : Env → Prop
  rt : Rs → Env → Prop
  bk : Env → Prop := fun _ => False
  ct : Env → Prop := fun _ => False
abbrev DTS := DEnds → Env → Prop
def lift (K : PySem.W.Frag) (np : Np) (t : DTE) : TE := fun σ H Q => ∃ B G ρ Qd, np.ok B ∧ EnvOk K B G ρ σ H ∧ t ρ Qd ∧
  ∀ G' v r ρ' H', Same G G' → Fin K B G' ρ' σ H' v r → Qd r ρ' → Q v H'
def liftT (K : PySem.W.Frag) (np : Np) (t : DTT) : TT := fun σ H Q => ∃ B G ρ Qd, np.ok B ∧ EnvOk K B G ρ σ H ∧ t ρ Qd ∧
  ∀ G' b ρ' H', Same G G' → EnvOk K B G' ρ' σ H' → Qd b ρ' → Q b H'
inductive ArgOk (K : PySem.W.Frag) (G : Hp) (σ : Stt) : V → Rs → Prop
  | dat {v : V} {d : D} : Rp K G v d → ArgOk K G σ v (.dat d)
  | sl {v : V} {i : Nat} : σ[i]? = some (some v) → ArgOk K G σ v (.sl i)
abbrev ArgsOk (K : PySem.W.Frag) (G : Hp) (σ : Stt) : List V → List Rs → Prop := Paired (ArgOk K G σ)
def liftA (K : PySem.W.Frag) (np : Np) (t : DTA) : TA := fun σ H Q => ∃ B G ρ Qd, np.ok B ∧ EnvOk K B G ρ σ H ∧ t ρ Qd ∧
  ∀ G' vs rs ρ' H', Same G G' → EnvOk K B G' ρ' σ H' → ArgsOk K G' σ vs rs → Qd rs ρ' → Q vs H'
def liftS (K : PySem.W.Frag) (np : Np) (t : DTS) : TS := fun D σ H => ∃ B G ρ Dd, np.ok B ∧ EnvOk K B G ρ σ H ∧ t Dd ρ ∧
  (∀ G' ρ' σ' H', Same G G' → EnvOk K B G' ρ' σ' H' → Dd.nx ρ' → D.nx σ' H') ∧
  (∀ G' v r ρ' σ' H', Same G G' → Fin K B G' ρ' σ' H' v r → Dd.rt r ρ' → D.rt v H') ∧
  (∀ G' ρ' σ' H', Same G G' → EnvOk K B G' ρ' σ' H' → Dd.bk ρ' → D.bk σ' H') ∧
  (∀ G' ρ' σ' H', Same G G' → EnvOk K B G' ρ' σ' H' → Dd.ct ρ' → D.ct σ' H')
section
variable {X : Cx} {e : Expr} {es : List Expr} {st : Stmt} {sts : List Stmt}
theorem _root_.L2.PE.mo {t t' : TE} (h : PE X e t) (m : ∀ σ H Q, t' σ H Q → t σ H Q) : PE X e t' := ⟨fun pins s σ H Q I q => h.run pins s σ H Q I (m _ _ _ q)⟩
theorem _root_.L2.PT.mo {t t' : TT} (h : PT X e t) (m : ∀ σ H Q, t' σ H Q → t σ H Q) : PT X e t' := ⟨fun pins s σ H Q I q => h.run pins s σ H Q I (m _ _ _ q)⟩
theorem _root_.L2.PW.mo {t t' : TT} (h : PW X e t) (m : ∀ σ H Q, t' σ H Q → t σ H Q) : PW X e t' := ⟨fun wh pins s σ H Q I q => h.run wh pins s σ H Q I (m _ _ _ q)⟩
theorem _root_.L2.PA.mo {t t' : TA} (h : PA X es t) (m : ∀ σ H Q, t' σ H Q → t σ H Q) : PA X es t' := ⟨fun pos pins s σ H Q I q => h.run pos pins s σ H Q I (m _ _ _ q)⟩
theorem _root_.L2.PS.mo {t t' : TS} (h : PS X st t) (m : ∀ D σ H, t' D σ H → t D σ H) : PS X st t' := ⟨fun pins s σ H D I q => h.run pins s σ H D I (m _ _ _ q)⟩
theorem _root_.L2.PSs.mo {t t' : TS} (h : PSs X sts t) (m : ∀ D σ H, t' D σ H → t D σ H) : PSs X sts t' := ⟨fun pins s σ H D I q => h.run pins s σ H D I (m _ _ _ q)⟩
end
def W1 (o : Option D) (P : D → Prop) : Prop := match o with | some x => P x | none => False
def W2 (o p : Option D) (P : D → D → Prop) : Prop := match o, p with | some x, some y => P x y | _, _ => False
def WB (o : Option D) (P : Bool → Prop) : Prop := match o with | some (.bl b) => P b | _ => False
def vals (ρ : Env) : List Rs → Option (List D)
  | [] => some []
  | r :: rs => match val ρ r, vals ρ rs with | some d, some ds => some (d :: ds) | _, _ => none
def WL (o : Option (List D)) (P : List D → Prop) : Prop := match o with | some x => P x | none => False
def datL : List Rs → Option (List D)
  | [] => some []
  | .dat d :: rs => match datL rs with | some ds => some (d :: ds) | none => none
  | _ :: _ => none
def dVar (i : Nat) : DTE := fun ρ Q => match ρ[i]? with
  | some (.fr d) => Q (.dat d) ρ
  | some .un => False
  | none => False
  | some _ => Q (.sl i) ρ
def dC (d : D) : DTE := fun ρ Q => Q (.dat d) ρ
def dFrz (t : DTE) : DTE := fun ρ Q => t ρ fun r ρ1 => match stl r with
  | .dat d => Q (.dat d) ρ1
  | .sl i => (match ρ1[i]? with
    | some (.ls xs) => Q (.dat (.lst xs)) (ρ1.set i (.fr (.lst xs)))
    | some (.dc xs) => Q (.dat (.dct xs)) (ρ1.set i (.fr (.dct xs)))
    | _ => False)
  | _ => False
abbrev DOp1 := D → (Rs → Prop) → Prop
abbrev DOp2 := D → D → (Rs → Prop) → Prop
abbrev DOpL := List D → (Rs → Prop) → Prop
def dUn (g : DOp1) (ta : DTE) : DTE := fun ρ Q => ta ρ fun ra ρ1 => W1 (val ρ1 ra) fun x => g x fun r => Q r ρ1
def dBin (g : DOp2) (ta tb : DTE) : DTE := fun ρ Q => ta ρ fun ra ρ1 => tb ρ1 fun rb ρ2 => W2 (val ρ2 (stl ra)) (val ρ2 rb) fun x y => g x y fun r => Q r ρ2
def dNil : DTA := fun ρ Q => Q [] ρ
def dCons (t : DTE) (ts : DTA) : DTA := fun ρ Q => t ρ fun r ρ1 => match stl r with
  | .nw _ => False
  | r' => ts ρ1 fun rs ρ2 => Q (r' :: rs) ρ2
def dTup (t : DTA) : DTE := fun ρ Q => t ρ fun rs ρ1 => WL (datL rs) fun ds => ds.length ≤ sizeLine ∧ Q (.dat (.tup ds)) ρ1
def dLst (t : DTA) : DTE := fun ρ Q => t ρ fun rs ρ1 => WL (datL rs) fun ds => ds.length ≤ sizeLine ∧ Q (.nw (.ls ds)) ρ1
def dCB (g : DOpL) (t : DTA) : DTE := fun ρ Q => t ρ fun rs ρ1 => WL (vals ρ1 rs) fun ds => g ds fun r => Q r ρ1
def dTst (t : DTE) : DTT := fun ρ Q => t ρ fun r ρ1 => WB (val ρ1 r) fun b => Q b ρ1
def dAndT (t u : DTT) : DTT := fun ρ Q => t ρ fun c ρ1 => if c = true then u ρ1 Q else Q false ρ1
def dOrT (t u : DTT) : DTT := fun ρ Q => t ρ fun c ρ1 => if c = true then Q true ρ1 else u ρ1 Q
def dNotT (t : DTT) : DTT := fun ρ Q => t ρ fun c ρ1 => Q (!c) ρ1
def dAndV (t u : DTE) : DTE := fun ρ Q => t ρ fun r ρ1 => WB (val ρ1 r) fun c => if c = true then u ρ1 Q else Q (.dat (.bl false)) ρ1
def dOrV (t u : DTE) : DTE := fun ρ Q => t ρ fun r ρ1 => WB (val ρ1 r) fun c => if c = true then Q (.dat (.bl true)) ρ1 else u ρ1 Q
def dIfE (c : DTT) (t u : DTE) : DTE := fun ρ Q => c ρ fun b ρ1 => if b = true then t ρ1 Q else u ρ1 Q
theorem W1.of {o : Option D} {P : D → Prop} (h : W1 o P) : ∃ x, o = some x ∧ P x := by
  cases o with
  | none => exact h.elim
  | some x => exact ⟨x, rfl, h⟩
theorem W2.of {o p : Option D} {P : D → D → Prop} (h : W2 o p P) : ∃ x y, o = some x ∧ p = some y ∧ P x y := by
  cases o with
  | none => exact (show False from h).elim
  | some x =>
    cases p with
    | none => exact (show False from h).elim
    | some y => exact ⟨x, y, rfl, rfl, h⟩
theorem WB.of {o : Option D} {P : Bool → Prop} (h : WB o P) : ∃ b, o = some (.bl b) ∧ P b := by
  cases o with
  | none => exact (show False from h).elim
  | some x =>
    cases x with
    | bl b => exact ⟨b, rfl, h⟩
    | _ => exact (show False from h).elim
theorem WL.of {o : Option (List D)} {P : List D → Prop} (h : WL o P) : ∃ x, o = some x ∧ P x := by
  cases o with
  | none => exact h.elim
  | some x => exact ⟨x, rfl, h⟩
inductive RdL (K : PySem.W.Frag) (G H : Hp) : List V → List D → Prop
  | nil : RdL K G H [] []
  | cons {v : V} {vs : List V} {d : D} {ds : List D} : RdV K G H v d → RdL K G H vs ds → RdL K G H (v :: vs) (d :: ds)
def C1 (np : Np) (K : PySem.W.Frag) (r : V → Hp → VK → Prop) (g : DOp1) : Prop :=
  ∀ {B : Bs} {G : Hp} {ω : Own} {ρ : Env} {σ : Stt} {H : Hp} {v : V} {x : D} {P : Rs → Prop} {Q : VK}, np.ok B → EnvW K B G ω ρ σ H → RdV K G H v x → g x P →
    (∀ G' v' r' H', Same G G' → Fin K B G' ρ σ H' v' r' → P r' → Q v' H') → r v H Q
def C2 (np : Np) (K : PySem.W.Frag) (r : R2) (g : DOp2) : Prop :=
  ∀ {B : Bs} {G : Hp} {ω : Own} {ρ : Env} {σ : Stt} {H : Hp} {v w : V} {x y : D} {P : Rs → Prop} {Q : VK}, np.ok B → EnvW K B G ω ρ σ H → RdV K G H v x → RdV K G H w y → g x y P →
    (∀ G' v' r' H', Same G G' → Fin K B G' ρ σ H' v' r' → P r' → Q v' H') → r v w H Q
def CL (np : Np) (K : PySem.W.Frag) (r : List V → Hp → VK → Prop) (g : DOpL) : Prop :=
  ∀ {B : Bs} {G : Hp} {ω : Own} {ρ : Env} {σ : Stt} {H : Hp} {vs : List V} {xs : List D} {P : Rs → Prop} {Q : VK}, np.ok B → EnvW K B G ω ρ σ H → RdL K G H vs xs → g xs P →
    (∀ G' v' r' H', Same G G' → Fin K B G' ρ σ H' v' r' → P r' → Q v' H') → r vs H Q
section
variable {K : PySem.W.Frag} {B : Bs} {G G' : Hp} {ω : Own} {ρ : Env} {σ : Stt} {H H' : Hp}
theorem ArgOk.mono {v : V} {r : Rs} (s : Same G G') (h : ArgOk K G σ v r) : ArgOk K G' σ v r := by
  cases h with
  | dat h => exact .dat (h.mono s)
  | sl h => exact .sl h
theorem ArgOk.rs {v : V} {r : Rs} (h : ArgOk K G σ v r) : RsOk K G H ω σ v r := by
  cases h with
  | dat h => exact h
  | sl h => exact h
theorem ArgsOk.rd (e : EnvW K B G ω ρ σ H) : ∀ {vs : List V} {rs : List Rs} {ds : List D}, ArgsOk K G σ vs rs → vals ρ rs = some ds → RdL K G H vs ds
  | _, _, _, .nil, h => by cases h; exact .nil
  | v :: vs, r :: rs, ds, .cons a t, h => by
    unfold vals at h
    cases h1 : val ρ r with
    | none => rw [h1] at h; cases h
    | some d =>
      cases h2 : vals ρ rs with
      | none => rw [h1, h2] at h; cases h
      | some ds' =>
        rw [h1, h2] at h
        cases h
        exact .cons (e.rd (a.rs (ω := ω)) h1) (ArgsOk.rd e t h2)
theorem ArgsOk.dat : ∀ {vs : List V} {rs : List Rs} {ds : List D}, ArgsOk K G σ vs rs → datL rs = some ds → RpL K G vs ds
  | _, _, _, .nil, h => by cases h; exact .nil
  | v :: vs, r :: rs, ds, .cons a t, h => by
    cases r with
    | dat d =>
      unfold datL at h
      cases h2 : datL rs with
      | none => rw [h2] at h; cases h
      | some ds' =>
        rw [h2] at h
        cases h
        cases a with
        | dat a => exact .cons a (ArgsOk.dat t h2)
    | sl i => cases h
    | nw s => cases h
theorem RdL.one {vs : List V} {d : D} (h : RdL K G H vs [d]) : ∃ v, vs = [v] ∧ RdV K G H v d := by
  cases h with
  | cons a t => cases t; exact ⟨_, rfl, a⟩
theorem RdL.two {vs : List V} {d e : D} (h : RdL K G H vs [d, e]) : ∃ v w, vs = [v, w] ∧ RdV K G H v d ∧ RdV K G H w e := by
  cases h with
  | cons a t =>
    cases t with
    | cons b t => cases t; exact ⟨_, _, rfl, a, b⟩
end
section
variable {X : Cx} {a b c e : Expr} {es : List Expr} {ta tb : DTE} {tc td : DTT} {ts : DTA} {pos : Pos} {np : Np}
theorem d_var (i : Nat) {x : Str} (hN : X.N[i]? = some x := by rfl) (hv : Vis X.env.scope x := by first | exact Or.inl rfl | exact Or.inr (Or.inl rfl) | exact Or.inr (Or.inr rfl)) (hd : (x == ("__debug__" : Str)) = false := by decide)
    (hcd : (x == ("__classdict__" : Str)) = false := by decide) : PE X (.Name x pos) (lift X.K np (dVar i)) := by
  refine (pe_var (i := i) hN hv hd hcd).mo fun σ H Q h => ?_
  obtain ⟨B, G, ρ, Qd, _, ⟨ω, ew⟩, h, k⟩ := h
  unfold dVar at h
  cases q : ρ[i]? with
  | none => rw [q] at h; exact h.elim
  | some s =>
    rw [q] at h
    have sl := ew.slot i s q
    cases s with
    | un => exact h.elim
    | fr d =>
      obtain ⟨v, e1, r⟩ := sl
      exact ⟨v, e1, k _ _ _ _ _ (.refl _) (ew.dat r) h⟩
    | ls xs =>
      obtain ⟨p, vs, e1, r⟩ := sl
      exact ⟨.ref p, e1, k _ _ (.sl i) _ _ (.refl _) ⟨ω, ew, e1⟩ h⟩
    | dc xs =>
      obtain ⟨p, vs, e1, r⟩ := sl
      exact ⟨.ref p, e1, k _ _ (.sl i) _ _ (.refl _) ⟨ω, ew, e1⟩ h⟩
    | rs xs =>
      obtain ⟨v, e1, r⟩ := sl
      exact ⟨v, e1, k _ _ (.sl i) _ _ (.refl _) ⟨ω, ew, e1⟩ h⟩
theorem d_const {t : TE} {v : V} {d : D} (h : PE X e t) (ht : ∀ σ H Q, Q v H → t σ H Q) (r : ∀ G, Rp X.K G v d) : PE X e (lift X.K np (dC d)) :=
  h.mo fun σ H Q ⟨B, G, ρ, Qd, _, eo, h, k⟩ => ht σ H Q (k _ _ _ _ _ (.refl _) (eo.dat (r G)) h)
theorem d_int {i j pos} : PE X (.Constant (.int i) j pos) (lift X.K np (dC (.int i))) := d_const pe_int (fun _ _ _ q => q) fun _ => .int i
theorem d_bl {i j pos} : PE X (.Constant (.bool i) j pos) (lift X.K np (dC (.bl i))) := d_const pe_bl (fun _ _ _ q => q) fun _ => .bl i
theorem d_non {j pos} : PE X (.Constant .none j pos) (lift X.K np (dC .non)) := d_const pe_non (fun _ _ _ q => q) fun _ => .non
theorem d_str {i j pos} : PE X (.Constant (.str i) j pos) (lift X.K np (dC (.str i))) := d_const pe_str (fun _ _ _ q => q) fun _ => .str i
theorem d_glob {x : Str} {v : V} {u : Value} {d : D} (hg : Gl X x) (hm : X.mg x = some u) (r : RelV v u) (rd : ∀ G, Rp X.K G v d) (hd : (x == ("__debug__" : Str)) = false := by decide) : PE X (.Name x pos) (lift X.K np (dC d)) :=
  d_const (pe_glob hg hm r hd) (fun _ _ _ q => q) rd
theorem d_frz (h : PE X e (lift X.K np ta)) : PE X e (lift X.K np (dFrz ta)) := by
  refine h.mo fun σ H Q h => ?_
  obtain ⟨B, G, ρ, Qd, hn, eo, h, k⟩ := h
  refine ⟨B, G, ρ, _, hn, eo, h, fun G1 v r ρ1 H1 s1 f1 q1 => ?_⟩
  obtain ⟨G2, s2, f2⟩ := f1.stl
  cases hr : stl r with
  | dat d =>
    rw [hr] at q1 f2
    exact k _ _ _ _ _ (s1.trans s2) f2 q1
  | nw s => rw [hr] at q1; exact q1.elim
  | sl i =>
    rw [hr] at q1 f2
    dsimp only at q1
    obtain ⟨ω2, e2, r2⟩ := f2
    have r2' : σ[i]? = some (some v) := r2
    cases q : ρ1[i]? with
    | none => rw [q] at q1; exact q1.elim
    | some s =>
      rw [q] at q1
      have sl := e2.slot i s q
      have hl : i < ρ1.length := (List.getElem?_eq_some_iff.mp q).1
      cases s with
      | un => exact q1.elim
      | fr _ => exact q1.elim
      | rs _ => exact q1.elim
      | ls xs =>
        obtain ⟨p, vs, e1, f, hp, rr⟩ := sl
        rw [r2'] at e1
        cases e1
        have e3 := e2.setUn (i := i) (s' := .un) trivial rfl
        have eb : EnvW X.K B G2 ω2 (ρ1.set i .un) σ H1 := ⟨e2.gle, e2.g0, e2.keep, e2.own, by rw [List.length_set]; exact e2.len, fun j s qj => by
          by_cases hj : j = i
          · subst hj; rw [List.getElem?_set_self hl] at qj; cases qj; trivial
          · rw [List.getElem?_set_ne (Ne.symm hj)] at qj; exact e2.slot j s qj, fun j s w qj o p' => by
          by_cases hj : j = i
          · subst hj; rw [List.getElem?_set_self hl] at qj; cases qj; cases o
          · rw [List.getElem?_set_ne (Ne.symm hj)] at qj; exact e2.pin j s w qj o p'⟩
        obtain ⟨sg, e4⟩ := eb.freeze f hp fun s qs o => by rw [List.getElem?_set_self hl] at qs; cases qs; cases o
        have rp : Rp X.K (upd G2 p (.lst vs)) (.ref p) (.lst xs) := .lst upd_same (rr.mono sg)
        have e5 := e4.setUn (i := i) (s' := .fr (.lst xs)) ⟨.ref p, r2', rp⟩ rfl
        rw [List.set_set] at e5
        exact k _ _ (.dat _) _ _ ((s1.trans s2).trans sg) ⟨_, e5, rp⟩ q1
      | dc xs =>
        obtain ⟨p, vs, e1, f, hp, rr⟩ := sl
        rw [r2'] at e1
        cases e1
        have eb : EnvW X.K B G2 ω2 (ρ1.set i .un) σ H1 := ⟨e2.gle, e2.g0, e2.keep, e2.own, by rw [List.length_set]; exact e2.len, fun j s qj => by
          by_cases hj : j = i
          · subst hj; rw [List.getElem?_set_self hl] at qj; cases qj; trivial
          · rw [List.getElem?_set_ne (Ne.symm hj)] at qj; exact e2.slot j s qj, fun j s w qj o p' => by
          by_cases hj : j = i
          · subst hj; rw [List.getElem?_set_self hl] at qj; cases qj; cases o
          · rw [List.getElem?_set_ne (Ne.symm hj)] at qj; exact e2.pin j s w qj o p'⟩
        obtain ⟨sg, e4⟩ := eb.freeze f hp fun s qs o => by rw [List.getElem?_set_self hl] at qs; cases qs; cases o
        have rp : Rp X.K (upd G2 p (.dK vs)) (.ref p) (.dct xs) := .dct upd_same (rr.mono sg)
        have e5 := e4.setUn (i := i) (s' := .fr (.dct xs)) ⟨.ref p, r2', rp⟩ rfl
        rw [List.set_set] at e5
        exact k _ _ (.dat _) _ _ ((s1.trans s2).trans sg) ⟨_, e5, rp⟩ q1
theorem two_ok {r : R2} {g : DOp2} (hc : C2 np X.K r g) (σ : Stt) (H : Hp) (Q : VK) (h : lift X.K np (dBin g ta tb) σ H Q) : tOp r (lift X.K np ta) (lift X.K np tb) σ H Q := by
  obtain ⟨B, G, ρ, Qd, hn, eo, h, k⟩ := h
  refine ⟨B, G, ρ, _, hn, eo, h, fun G1 v ra ρ1 H1 s1 f1 q1 => ?_⟩
  obtain ⟨G2, s2, f2⟩ := f1.stl
  refine ⟨B, G2, ρ1, _, hn, f2.env, q1, fun G3 w rb ρ2 H2 s3 f3 q2 => ?_⟩
  obtain ⟨x, y, ex, ey, q2⟩ := W2.of q2
  obtain ⟨ω2, e2, r2⟩ := f2
  obtain ⟨ω3, e3, r3⟩ := f3
  have ra' : RsOk X.K G3 H2 ω3 σ v (stl ra) := by
    cases hr : stl ra with
    | dat d => rw [hr] at r2; exact Rp.mono s3 r2
    | sl i => rw [hr] at r2; exact r2
    | nw s =>
      cases ra with
      | dat d => cases hr
      | sl i => cases hr
      | nw s' =>
        cases s' with
        | ls _ => cases hr
        | dc _ => cases hr
        | un => cases ex
        | fr _ => cases ex
        | rs _ => cases ex
  exact hc hn e3 (e3.rd ra' ex) (e3.rd r3 ey) q2 fun G' v' r' H' s f p => k _ _ _ _ _ (((s1.trans s2).trans s3).trans s) f p
theorem d_bin {op : Operator} {r : R2} {g : DOp2} (ho : OpR X (binaryOp op) r) (hc : C2 np X.K r g) (ha : PE X a (lift X.K np ta)) (hb : PE X b (lift X.K np tb)) : PE X (.BinOp a op b pos) (lift X.K np (dBin g ta tb)) :=
  (pe_op ho ha hb).mo fun σ H Q h => two_ok hc σ H Q h
theorem d_cmp {op : CmpOp} {r : R2} {g : DOp2} (ho : OpR X (compareOp op) r) (hc : C2 np X.K r g) (ha : PE X a (lift X.K np ta)) (hb : PE X b (lift X.K np tb)) (hm : behindInMarks op b = false) : PE X (.Compare a [op] [b] pos) (lift X.K np (dBin g ta tb)) :=
  (pe_cmpR ho ha hb hm).mo fun σ H Q h => two_ok hc σ H Q h
theorem tst_ok {t : TE} {td : DTE} (m : ∀ σ H Q, lift X.K np td σ H Q → t σ H Q) (σ : Stt) (H : Hp) (Q : Bool → Hp → Prop) (h : liftT X.K np (dTst td) σ H Q) : tTest t σ H Q := by
  obtain ⟨B, G, ρ, Qd, hn, eo, h, k⟩ := h
  refine m σ H _ ⟨B, G, ρ, _, hn, eo, h, fun G1 v r ρ1 H1 s1 f1 q1 => ?_⟩
  obtain ⟨b, eb, q1⟩ := WB.of q1
  obtain ⟨ω, e, rr⟩ := f1
  exact ⟨b, (e.rd rr eb).bl, k _ _ _ _ s1 ⟨ω, e⟩ q1⟩
theorem d_cmpT {op : CmpOp} {r : R2} {g : DOp2} (ho : OpR X (compareOp op) r) (hc : C2 np X.K r g) (ha : PE X a (lift X.K np ta)) (hb : PE X b (lift X.K np tb)) (hm : behindInMarks op b = false) : PT X (.Compare a [op] [b] pos) (liftT X.K np (dTst (dBin g ta tb))) :=
  (pt_cmpR ho ha hb hm).mo fun σ H Q h => tst_ok (fun σ H Q h => two_ok hc σ H Q h) σ H Q h
theorem d_tst (h : PE X e (lift X.K np ta)) (he : ∀ whole, isTrue e X.env whole = (do let v ← whole; standAt e.pos; holding [v] (truthy v)) := by intro _; rfl) : PT X e (liftT X.K np (dTst ta)) :=
  (pt_val h he).mo fun σ H Q h => tst_ok (fun _ _ _ h => h) σ H Q h
theorem d_un {op : UnaryOp} {r : V → Hp → VK → Prop} {g : DOp1} (ho : UnR X (unaryOp op) r) (hc : C1 np X.K r g) (ha : PE X a (lift X.K np ta)) : PE X (.UnaryOp op a pos) (lift X.K np (dUn g ta)) := by
  refine (pe_un ho ha).mo fun σ H Q h => ?_
  obtain ⟨B, G, ρ, Qd, hn, eo, h, k⟩ := h
  refine ⟨B, G, ρ, _, hn, eo, h, fun G1 v ra ρ1 H1 s1 f1 q1 => ?_⟩
  obtain ⟨x, ex, q1⟩ := W1.of q1
  obtain ⟨ω, e, rr⟩ := f1
  exact hc hn e (e.rd rr ex) q1 fun G' v' r' H' s f p => k _ _ _ _ _ (s1.trans s) f p
theorem d_and1T (h : PT X a (liftT X.K np tc)) : PW X (.BoolOp .And [a] pos) (liftT X.K np tc) := pw_and1 h
theorem d_or1T (h : PT X a (liftT X.K np tc)) : PW X (.BoolOp .Or [a] pos) (liftT X.K np tc) := pw_or1 h
theorem d_andT (h : PT X a (liftT X.K np tc)) (h2 : PW X (.BoolOp .And (b :: es) pos) (liftT X.K np td)) : PW X (.BoolOp .And (a :: b :: es) pos) (liftT X.K np (dAndT tc td)) := by
  refine (pw_and h h2).mo fun σ H Q h => ?_
  obtain ⟨B, G, ρ, Qd, hn, eo, h, k⟩ := h
  refine ⟨B, G, ρ, _, hn, eo, h, fun G1 c ρ1 H1 s1 e1 q1 => ?_⟩
  cases c with
  | true => exact iteT ⟨B, G1, ρ1, Qd, hn, e1, q1, fun G' b ρ' H' s e q => k _ _ _ _ (s1.trans s) e q⟩
  | false => exact iteF (k _ _ _ _ s1 e1 q1)
theorem d_orT (h : PT X a (liftT X.K np tc)) (h2 : PW X (.BoolOp .Or (b :: es) pos) (liftT X.K np td)) : PW X (.BoolOp .Or (a :: b :: es) pos) (liftT X.K np (dOrT tc td)) := by
  refine (pw_or h h2).mo fun σ H Q h => ?_
  obtain ⟨B, G, ρ, Qd, hn, eo, h, k⟩ := h
  refine ⟨B, G, ρ, _, hn, eo, h, fun G1 c ρ1 H1 s1 e1 q1 => ?_⟩
  cases c with
  | false => exact iteF ⟨B, G1, ρ1, Qd, hn, e1, q1, fun G' b ρ' H' s e q => k _ _ _ _ (s1.trans s) e q⟩
  | true => exact iteT (k _ _ _ _ s1 e1 q1)
theorem d_notT (h : PT X a (liftT X.K np tc)) : PT X (.UnaryOp .Not a pos) (liftT X.K np (dNotT tc)) := by
  refine (pt_not h).mo fun σ H Q h => ?_
  obtain ⟨B, G, ρ, Qd, hn, eo, h, k⟩ := h
  exact ⟨B, G, ρ, _, hn, eo, h, fun G1 c ρ1 H1 s1 e1 q1 => k _ _ _ _ s1 e1 q1⟩
theorem d_one {op} (h : PE X a (lift X.K np ta)) : PE X (.BoolOp op [a] pos) (lift X.K np ta) := pe_one h
theorem d_and (ha : PE X a (lift X.K np ta)) (hb : PE X (.BoolOp .And (b :: es) pos) (lift X.K np tb)) : PE X (.BoolOp .And (a :: b :: es) pos) (lift X.K np (dAndV ta tb)) := by
  refine (pe_and ha hb).mo fun σ H Q h => ?_
  obtain ⟨B, G, ρ, Qd, hn, eo, h, k⟩ := h
  refine ⟨B, G, ρ, _, hn, eo, h, fun G1 v r ρ1 H1 s1 f1 q1 => ?_⟩
  obtain ⟨c, eb, q1⟩ := WB.of q1
  obtain ⟨ω, e, rr⟩ := f1
  refine ⟨c, (e.rd rr eb).bl, ?_⟩
  cases c with
  | true => exact iteT ⟨B, G1, ρ1, Qd, hn, ⟨ω, e⟩, q1, fun G' v r ρ' H' s f q => k _ _ _ _ _ (s1.trans s) f q⟩
  | false => exact iteF (k _ _ _ _ _ s1 (e.dat (.bl false)) q1)
theorem d_ife (hc : PT X c (liftT X.K np tc)) (ha : PE X a (lift X.K np ta)) (hb : PE X b (lift X.K np tb)) : PE X (.IfExp c a b pos) (lift X.K np (dIfE tc ta tb)) := by
  refine (pe_ifExp hc ha hb).mo fun σ H Q h => ?_
  obtain ⟨B, G, ρ, Qd, hn, eo, h, k⟩ := h
  refine ⟨B, G, ρ, _, hn, eo, h, fun G1 c ρ1 H1 s1 e1 q1 => ?_⟩
  cases c with
  | true => exact iteT ⟨B, G1, ρ1, Qd, hn, e1, q1, fun G' v r ρ' H' s f q => k _ _ _ _ _ (s1.trans s) f q⟩
  | false => exact iteF ⟨B, G1, ρ1, Qd, hn, e1, q1, fun G' v r ρ' H' s f q => k _ _ _ _ _ (s1.trans s) f q⟩
theorem d_nil : PA X [] (liftA X.K np dNil) := pa_nil.mo fun σ H Q ⟨B, G, ρ, Qd, hn, eo, h, k⟩ => k _ _ _ _ _ (.refl _) eo .nil h
theorem d_cons (ha : PE X e (lift X.K np ta)) (hr : PA X es (liftA X.K np ts)) (hs : starEach (e :: es) X.env = (false, eval e X.env) :: starEach es X.env := by rfl) : PA X (e :: es) (liftA X.K np (dCons ta ts)) := by
  refine (pa_cons ha hr hs).mo fun σ H Q h => ?_
  obtain ⟨B, G, ρ, Qd, hn, eo, h, k⟩ := h
  refine ⟨B, G, ρ, _, hn, eo, h, fun G1 v r ρ1 H1 s1 f1 q1 => ?_⟩
  obtain ⟨G2, s2, f2⟩ := f1.stl
  have key : ∀ r', r' = stl r → ArgOk X.K G2 σ v r' → ts ρ1 (fun rs ρ2 => Qd (r' :: rs) ρ2) → liftA X.K np ts σ H1 fun xs H2 => Q (v :: xs) H2 := fun r' er ao q =>
    ⟨B, G2, ρ1, _, hn, f2.env, q, fun G' vs rs ρ' H' s e ar qq => k _ _ _ _ _ ((s1.trans s2).trans s) e (.cons (ao.mono s) ar) qq⟩
  obtain ⟨ω, e2, r2⟩ := f2
  cases hr : stl r with
  | dat d => rw [hr] at q1 r2; exact key _ hr.symm (.dat r2) q1
  | sl i => rw [hr] at q1 r2; exact key _ hr.symm (.sl r2) q1
  | nw s => rw [hr] at q1; exact q1.elim
theorem d_tup {x1} (h : PA X es (liftA X.K np ts)) : PE X (.Tuple es x1 pos) (lift X.K np (dTup ts)) := by
  refine (pe_tup h).mo fun σ H Q h => ?_
  obtain ⟨B, G, ρ, Qd, hn, eo, h, k⟩ := h
  refine ⟨B, G, ρ, _, hn, eo, h, fun G1 vs rs ρ1 H1 s1 e1 ar q1 => ?_⟩
  obtain ⟨ds, ed, hz, q1⟩ := WL.of q1
  have rr := ar.dat ed
  refine ⟨by rw [rr.length]; exact hz, fun p hp => ?_⟩
  obtain ⟨ω, e1⟩ := e1
  obtain ⟨sg, f⟩ := e1.newT hp rr
  exact k _ _ _ _ _ (s1.trans sg) f q1
theorem d_lst (h : PA X es (liftA X.K np ts)) : PE X (.List es pos) (lift X.K np (dLst ts)) := by
  refine (pe_lst h).mo fun σ H Q h => ?_
  obtain ⟨B, G, ρ, Qd, hn, eo, h, k⟩ := h
  refine ⟨B, G, ρ, _, hn, eo, h, fun G1 vs rs ρ1 H1 s1 e1 ar q1 => ?_⟩
  obtain ⟨ds, ed, hz, q1⟩ := WL.of q1
  have rr := ar.dat ed
  refine ⟨by rw [rr.length]; exact hz, fun p hp => ?_⟩
  obtain ⟨ω, e1⟩ := e1
  exact k _ _ _ _ _ s1 (e1.newL hp rr) q1
theorem cb_ok {r : List V → Hp → VK → Prop} {g : DOpL} (hc : CL np X.K r g) (σ : Stt) (H : Hp) (Q : VK) (h : lift X.K np (dCB g ts) σ H Q) : tCB r (liftA X.K np ts) σ H Q := by
  obtain ⟨B, G, ρ, Qd, hn, eo, h, k⟩ := h
  refine ⟨B, G, ρ, _, hn, eo, h, fun G1 vs rs ρ1 H1 s1 e1 ar q1 => ?_⟩
  obtain ⟨ds, ed, q1⟩ := WL.of q1
  obtain ⟨ω, e1⟩ := e1
  exact hc hn e1 (ar.rd e1 ed) q1 fun G' v' r' H' s f p => k _ _ _ _ _ (s1.trans s) f p
theorem d_callB {x : Str} {p : Pos} {id : String} {r : List V → Hp → VK → Prop} {g : DOpL} (hcr : CallR X (.builtin id) r) (hc : CL np X.K r g) (hg : Gl X x) (hm : X.mg x = none) (hv : bootBuiltins x = some (.builtin id)) (ha : PA X (e :: es) (liftA X.K np ts))
    (hn : x ≠ "__name__" := by decide) (hdb : (x == ("__debug__" : Str)) = false := by decide) (he : starEach (e :: es) X.env = (false, eval e X.env) :: starEach es X.env := by rfl) (hpl : (backTo pos (starEach es X.env)).any (·.1) = false := by rfl) :
    PE X (.Call (.Name x p) (e :: es) [] pos) (lift X.K np (dCB g ts)) := (pe_callB hcr hg hm hv ha hn hdb he hpl).mo fun σ H Q h => cb_ok hc σ H Q h
theorem d_callT {x : Str} {p : Pos} {T : String} {r : List V → Hp → VK → Prop} {g : DOpL} (hcr : CallR X (.type T) r) (hc : CL np X.K r g) (hg : Gl X x) (hm : X.mg x = none) (hv : bootBuiltins x = some (.type T)) (ha : PA X (e :: es) (liftA X.K np ts))
    (hn : x ≠ "__name__" := by decide) (hdb : (x == ("__debug__" : Str)) = false := by decide) (he : starEach (e :: es) X.env = (false, eval e X.env) :: starEach es X.env := by rfl) (hpl : (backTo pos (starEach es X.env)).any (·.1) = false := by rfl) :
    PE X (.Call (.Name x p) (e :: es) [] pos) (lift X.K np (dCB g ts)) := (pe_callTy hcr hg hm hv ha hn hdb he hpl).mo fun σ H Q h => cb_ok hc σ H Q h
end
end TL
namespace TL
variable {np : Np}
open PySem PySem.Spec PyProof.Rows L2
def kD : Key → PyData
  | .inl i => .int i
  | .inr x => .str x
mutual
def py : D → PyData
  | .non => .none
  | .bl b => .bool b
  | .int i => .int i
  | .str x => .str x
  | .tup xs => .tuple (pyL xs)
  | .lst xs => .list (pyL xs)
  | .dct kvs => .dict (pyK kvs)
  | .obj _ _ => .none
  | .ref _ => .none
  | .ty _ => .none
  | .scr ns => .list (ns.map .int)
def pyL : List D → List PyData
  | [] => []
  | x :: xs => py x :: pyL xs
def pyK : List (Key × D) → List (PyData × PyData)
  | [] => []
  | (k, v) :: r => (kD k, py v) :: pyK r
end
mutual
def plain : D → Bool
  | .non => true
  | .bl _ => true
  | .int _ => true
  | .str _ => true
  | .tup xs => plainL xs
  | .lst xs => plainL xs
  | .dct kvs => plainK kvs
  | .obj _ _ => false
  | .ref _ => false
  | .ty _ => false
  | .scr _ => false
def plainL : List D → Bool
  | [] => true
  | x :: xs => plain x && plainL xs
def plainK : List (Key × D) → Bool
  | [] => true
  | (_, v) :: r => plain v && plainK r
end
def DictsOff (h : Heap) (as : List Addr) : Prop := ∀ b ∈ as, (∃ o, h.get? b = some o ∧ o.cls = .type "dict") → (b == sysModules) = false
theorem DictsOff.nil {h : Heap} : DictsOff h [] := fun _ z => nomatch z
theorem DictsOff.app {h : Heap} {as bs : List Addr} (a : DictsOff h as) (b : DictsOff h bs) : DictsOff h (as ++ bs) := fun c hc => (List.mem_append.mp hc).elim (a c) (b c)
theorem pairs_keys {P : Program} {w : World} {h : Heap} : ∀ {es : List DictEntry} {vs : List (Key × Value)}, Pairs (mixKind P w) es vs → ∃ as, ReadsAll h (es.map (·.key)) (vs.map fun p => kD p.1) as ∧ DictsOff h as ∧ es.map (·.val) = vs.map (·.2)
  | _, _, .nil => ⟨[], .nil, .nil, rfl⟩
  | _, _, .cons hk hv hr => by
    obtain ⟨as, r, o, e⟩ := pairs_keys (h := h) hr
    rcases keyIs_shape hk with ⟨i, t, e1, e2⟩ | ⟨x, t, e1, e2⟩
    · refine ⟨[] ++ as, ?_, o, by simp [e, hv]⟩
      simp only [List.map_cons]
      rw [e1, e2]
      exact .cons (.int i t) r
    · refine ⟨[] ++ as, ?_, o, by simp [e, hv]⟩
      simp only [List.map_cons]
      rw [e1, e2]
      exact .cons (.str x t) r
theorem kv_split : ∀ {kvs : List (Key × V)} {vs : List (Key × Value)}, KV kvs vs → Vals (kvs.map (·.2)) (vs.map (·.2)) ∧ kvs.map (·.1) = vs.map (·.1)
  | _, _, .nil => ⟨.nil, rfl⟩
  | _, _, .cons h r => ⟨.cons h.2 (kv_split r).1, by simp [h.1, (kv_split r).2]⟩
theorem pyK_keys : ∀ kvs : List (Key × D), (pyK kvs).map (·.1) = kvs.map fun p => kD p.1
  | [] => rfl
  | (k, v) :: r => by simp [pyK, pyK_keys r]
theorem pyK_vals : ∀ kvs : List (Key × D), (pyK kvs).map (·.2) = pyL (kvs.map (·.2))
  | [] => rfl
  | (k, v) :: r => by simp [pyK, pyL, pyK_vals r]
section
variable {K : PySem.W.Frag} {G : Hp}
theorem RpK.split : ∀ {kvs : List (Key × V)} {ds : List (Key × D)}, RpK K G kvs ds → RpL K G (kvs.map (·.2)) (ds.map (·.2)) ∧ kvs.map (·.1) = ds.map (·.1)
  | _, _, .nil => ⟨.nil, rfl⟩
  | _, _, .cons h r => ⟨.cons h r.split.1, by simp [r.split.2]⟩
end
section
variable {X : Cx} {pins : List (Addr × Obj)} {σ : Stt} {H G : Hp} {s : Shared}
mutual
theorem Rp.reads (I : Inv X pins σ H s) (g : Same G H) : ∀ (d : D) (v : V) (u : Value), Rp X.K G v d → RelV v u → plain d = true → ∃ as, Reads s.heap u (py d) as ∧ DictsOff s.heap as
  | .non, _, _, .non, r, _ => by cases r; exact ⟨_, .none, .nil⟩
  | .bl b, _, _, .bl _, r, _ => by cases r; exact ⟨_, .bool b, .nil⟩
  | .int i, _, _, .int _, r, _ => by obtain ⟨t, rfl⟩ := r; exact ⟨_, .int i t, .nil⟩
  | .str x, _, _, .str _, r, _ => by obtain ⟨t, rfl⟩ := r; exact ⟨_, .str x t, .nil⟩
  | .tup ds, _, _, .tup h ha, r, hp => by
    cases r
    obtain ⟨its, rv, ⟨o, ho, hc, n, hd⟩, _⟩ := I.tuple (seqT g h)
    obtain ⟨as, hr, hf⟩ := RpL.reads I g ds _ its ha rv hp
    exact ⟨_, .tuple ho hc hd hr, hf⟩
  | .lst ds, _, _, .lst h ha, r, hp => by
    cases r
    obtain ⟨its, rv, ⟨o, n, ho, hc, _, hd⟩, _⟩ := I.list (.of (g _ _ h))
    obtain ⟨as, hr, hf⟩ := RpL.reads I g ds _ its ha rv hp
    refine ⟨_, .list ho hc hd hr, fun b hb => ?_⟩
    rcases List.mem_cons.mp hb with e | hb
    · subst e
      rintro ⟨o', ho', hc'⟩
      rw [ho] at ho'
      cases ho'
      rw [hc] at hc'
      injection hc' with q
      exact absurd q (by decide)
    · exact hf b hb
  | .dct ds, _, _, .dct h ha, r, hp => by
    cases r
    obtain ⟨_, hm, vs, rel, o, es, ep, ho, hx, hd, _, hpr, _⟩ := (show ObjOk X.prog X.w H s.heap _ (.dK _) from I.hok _ _ (g _ _ h))
    obtain ⟨as, hk, hf, hv⟩ := pairs_keys (h := s.heap) hpr
    obtain ⟨rv, ek⟩ := kv_split rel
    have ek2 := ha.split.2
    obtain ⟨bs, hr, hg⟩ := RpK.reads I g ds _ _ ha rv hp
    have h1 : ReadsAll s.heap (es.toList.map (·.key)) ((pyK ds).map (·.1)) as := by
      rw [pyK_keys]
      have e : vs.map (fun p => kD p.1) = ds.map fun p => kD p.1 := by
        have := congrArg (List.map kD) (ek.symm.trans ek2)
        rw [List.map_map, List.map_map] at this
        exact this
      rw [← e]
      exact hk
    have h2 : ReadsAll s.heap (es.toList.map (·.val)) ((pyK ds).map (·.2)) bs := by rw [pyK_vals, hv]; exact hr
    refine ⟨_, .dict ho hx.1 hd h1 h2, fun b hb => ?_⟩
    rcases List.mem_append.mp hb with hb | hb
    · rcases List.mem_cons.mp hb with e | hb
      · subst e; exact fun _ => hm
      · exact hf b hb
    · exact hg b hb
  | .obj _ _, _, _, _, _, hp => by cases hp
  | .ref _, _, _, _, _, hp => by cases hp
  | .ty _, _, _, _, _, hp => by cases hp
  | .scr _, _, _, _, _, hp => by cases hp
theorem RpL.reads (I : Inv X pins σ H s) (g : Same G H) : ∀ (ds : List D) (vs : List V) (us : List Value), RpL X.K G vs ds → Vals vs us → plainL ds = true → ∃ as, ReadsAll s.heap us (pyL ds) as ∧ DictsOff s.heap as
  | [], _, _, .nil, .nil, _ => ⟨_, .nil, .nil⟩
  | d :: ds, _, _, .cons h1 h2, .cons r1 r2, hp => by
    have hp' : plain d = true ∧ plainL ds = true := by simpa [plainL] using hp
    obtain ⟨as, q1, f1⟩ := Rp.reads I g d _ _ h1 r1 hp'.1
    obtain ⟨bs, q2, f2⟩ := RpL.reads I g ds _ _ h2 r2 hp'.2
    exact ⟨_, .cons q1 q2, f1.app f2⟩
theorem RpK.reads (I : Inv X pins σ H s) (g : Same G H) : ∀ (ds : List (Key × D)) (vs : List (Key × V)) (us : List Value), RpK X.K G vs ds → Vals (vs.map (·.2)) us → plainK ds = true → ∃ as, ReadsAll s.heap us (pyL (ds.map (·.2))) as ∧ DictsOff s.heap as
  | [], _, _, .nil, .nil, _ => ⟨_, .nil, .nil⟩
  | (k, d) :: ds, _, _, .cons h1 h2, .cons r1 r2, hp => by
    have hp' : plain d = true ∧ plainK ds = true := by simpa [plainK] using hp
    obtain ⟨as, q1, f1⟩ := Rp.reads I g d _ _ h1 r1 hp'.1
    obtain ⟨bs, q2, f2⟩ := RpK.reads I g ds _ _ h2 r2 hp'.2
    exact ⟨_, .cons q1 q2, f1.app f2⟩
end
theorem RdV.rp {K : PySem.W.Frag} {v : V} {d : D} (g : Same G H) (r : RdV K G H v d) : Rp K H v d := by
  rcases r with r | ⟨a, vs, ds, rfl, rfl, h, r⟩ | ⟨a, vs, ds, rfl, rfl, h, r⟩
  · exact r.mono g
  · exact .lst h (r.mono g)
  · exact .dct h (r.mono g)
end
section
variable {prog : Program} {w : World} {h₀ : Heap}
mutual
theorem reprK : ∀ {v : Value} {d : PyData} {as : List Addr}, Reads h₀ v d as → d.showable = true → DictsOff h₀ as → d.shown.length ≤ sizeLine → ∃ bs, ReadAtMost h₀ d.depth bs ∧ ReprK prog w bs h₀ d.depth v d.shown
  | _, _, _, .none, _, _, _ => ⟨[], (fun _ h => nomatch h), by simp only [PyData.shown]; exact .of_is .none _ _ _⟩
  | _, _, _, .bool b, _, _, _ => ⟨[], (fun _ h => nomatch h), by simp only [PyData.shown]; exact .of_is (.bool b) _ _ _⟩
  | _, _, _, .int i t, hs, _, _ => ⟨[], (fun _ h => nomatch h), by simp only [PyData.shown]; exact .of_is (.int t (by simpa [PyData.showable] using hs)) _ _ _⟩
  | _, _, _, .str x t, _, _, hz => ⟨[], (fun _ h => nomatch h), by simp only [PyData.shown] at hz ⊢; exact .of_is (.str x t hz) _ _ _⟩
  | _, _, _, .list (a := a) (vs := vs) (xs := xs) h1 h2 h3 h4, hs, ho, hz => by
    have r : Reads h₀ (.ref a) (.list xs) _ := .list h1 h2 h3 h4
    simp only [PyData.shown] at hz
    obtain ⟨bs, hb, hk⟩ := reprAllK h4 (by simpa [PyData.showable] using hs) (fun b hb => ho b (List.mem_cons_of_mem _ hb)) fun t ht => Nat.le_trans (listText_mem_le ht) hz
    have hd : PyData.depthAll xs < (PyData.list xs).depth := by simp only [PyData.depth]; omega
    refine ⟨a :: bs, .cons r (Nat.le_of_lt hd) hb, ?_⟩
    simp only [PyData.depth, PyData.shown]
    obtain ⟨l⟩ := vs
    cases l with
    | nil =>
      have hx : ReadsAll h₀ [] xs _ := h4
      cases hx
      simp only [PyData.shownAll, listText_nil]
      exact .listEmpty h1 h2 h3
    | cons x l => exact .list h1 h2 h3 (not_mem_of_deeper r hd hb) (by simpa using hk.length_eq) fun i y e => hk.item i y (by simpa using e)
  | _, _, _, .tuple (a := a) (xs := xs) h1 h2 h3 h4, hs, ho, hz => by
    have r : Reads h₀ (.ref a) (.tuple xs) _ := .tuple h1 h2 h3 h4
    simp only [PyData.shown] at hz
    obtain ⟨bs, hb, hk⟩ := reprAllK h4 (by simpa [PyData.showable] using hs) ho fun t ht => Nat.le_trans (tupleText_mem_le ht) hz
    have hd : PyData.depthAll xs < (PyData.tuple xs).depth := by simp only [PyData.depth]; omega
    refine ⟨a :: bs, .cons r (Nat.le_of_lt hd) hb, ?_⟩
    simp only [PyData.depth, PyData.shown]
    exact .tuple h1 h2 h3 (not_mem_of_deeper r hd hb) hk
  | _, _, _, .dict (a := a) (es := es) (kvs := kvs) (as := a1) (bs := a2) h1 h2 h3 h4 h5, hs, ho, hz => by
    have r : Reads h₀ (.ref a) (.dict kvs) _ := .dict h1 h2 h3 h4 h5
    simp only [PyData.shown] at hz
    obtain ⟨s1, s2⟩ := PyData.showableKv_split kvs (by simpa [PyData.showable] using hs)
    obtain ⟨b1, m1, k1⟩ := reprAllK h4 s1 (fun b hb => ho b (List.mem_append_left _ (List.mem_cons_of_mem _ hb))) fun t ht => by
      obtain ⟨p, hp, hl⟩ := PyData.shownKv_key_le kvs t ht
      exact Nat.le_trans hl (Nat.le_trans (dictText_mem_le hp) hz)
    obtain ⟨b2, m2, k2⟩ := reprAllK h5 s2 (fun b hb => ho b (List.mem_append_right _ hb)) fun t ht => by
      obtain ⟨p, hp, hl⟩ := PyData.shownKv_val_le kvs t ht
      exact Nat.le_trans hl (Nat.le_trans (dictText_mem_le hp) hz)
    have hb : ReadAtMost h₀ (PyData.depthKv kvs) (b1 ++ b2) := .append (m1.mono (PyData.depthAll_keys_le kvs)) (m2.mono (PyData.depthAll_vals_le kvs))
    have hd : PyData.depthKv kvs < (PyData.dict kvs).depth := by simp only [PyData.depth]; omega
    refine ⟨a :: (b1 ++ b2), .cons r (Nat.le_of_lt hd) hb, ?_⟩
    simp only [PyData.depth, PyData.shown, PyData.shownKv_eq]
    refine .dict h1 h2 h3 (ho a (List.mem_append_left _ List.mem_cons_self) ⟨_, h1, h2⟩) (not_mem_of_deeper r hd hb) (.of_two es.toList _ _ ?_ ?_)
    · exact k1.more_le (fun b q => List.mem_append_left _ q) (PyData.depthAll_keys_le kvs)
    · exact k2.more_le (fun b q => List.mem_append_right _ q) (PyData.depthAll_vals_le kvs)
theorem reprAllK : ∀ {vs : List Value} {ds : List PyData} {as : List Addr}, ReadsAll h₀ vs ds as → PyData.showableAll ds = true → DictsOff h₀ as → (∀ t ∈ PyData.shownAll ds, t.length ≤ sizeLine) →
    ∃ bs, ReadAtMost h₀ (PyData.depthAll ds) bs ∧ ReprAllK prog w bs h₀ (PyData.depthAll ds) vs (PyData.shownAll ds)
  | _, _, _, .nil, _, _, _ => ⟨[], (fun _ h => nomatch h), by simp only [PyData.shownAll]; exact .nil⟩
  | _, _, _, .cons (d := d) (ds := ds) r rs, hs, ho, hz => by
    have hs' : d.showable = true ∧ PyData.showableAll ds = true := by simpa [PyData.showableAll] using hs
    simp only [PyData.shownAll] at hz ⊢
    obtain ⟨b1, m1, k1⟩ := reprK r hs'.1 (fun b hb => ho b (List.mem_append_left _ hb)) (hz _ List.mem_cons_self)
    obtain ⟨b2, m2, k2⟩ := reprAllK rs hs'.2 (fun b hb => ho b (List.mem_append_right _ hb)) fun t ht => hz t (List.mem_cons_of_mem _ ht)
    simp only [PyData.depthAll]
    refine ⟨b1 ++ b2, .append (m1.mono (Nat.le_max_left _ _)) (m2.mono (Nat.le_max_right _ _)), ?_⟩
    exact .cons ((k1.more fun b q => List.mem_append_left _ q).level_le (Nat.le_max_left _ _)) (k2.more_le (fun b q => List.mem_append_right _ q) (Nat.le_max_right _ _))
end
variable {A : Around} {E : Value → Shared → Prop} {s : Shared} {Q : Value → Shared → Prop}
theorem repr_of {v : Value} {d : PyData} {as : List Addr} (r : Reads s.heap v d as) (hs : d.showable = true) (ho : DictsOff s.heap as) (hz : d.shown.length ≤ sizeLine) (hg : A.guards = some []) (hu : A.units + (d.depth + 2) < cLine)
    (hQ : ∀ h' u tk, (∀ b o, s.heap.get? b = some o → h'.get? b = some o) → Q (.str d.shown u) { s with heap := h', toks := tk }) : wpAny (model prog w) A (call (.builtin "repr") [v]) Q E s := by
  cases r with
  | none => simp only [PyData.shown] at hQ; exact PySem.P.repr_of_none (hQ s.heap _ _ fun _ _ e => e)
  | bool b => simp only [PyData.shown] at hQ; exact PySem.P.repr_of_bool (hQ s.heap _ _ fun _ _ e => e)
  | int i t => simp only [PyData.shown] at hQ; exact PySem.P.repr_of_int (by simpa [PyData.showable] using hs) (hQ s.heap _ _ fun _ _ e => e)
  | str x t => simp only [PyData.shown] at hQ hz; exact PySem.P.repr_of_str (hQ s.heap _ _ fun _ _ e => e) hz
  | list h1 h2 h3 h4 =>
    rename_i a o vs n xs bs₀
    have r : Reads s.heap (.ref a) (.list xs) _ := .list h1 h2 h3 h4
    simp only [PyData.shown] at hz hQ
    simp only [PyData.depth] at hu
    obtain ⟨bs, hb, hk⟩ := reprAllK (prog := prog) (w := w) h4 (by simpa [PyData.showable] using hs) (fun b hb => ho b (List.mem_cons_of_mem _ hb)) fun t ht => Nat.le_trans (listText_mem_le ht) hz
    have hd : PyData.depthAll xs < (PyData.list xs).depth := by simp only [PyData.depth]; omega
    refine call_repr_slot (by omega) ⟨o, h1, h2⟩ F.slot_list_repr.toG ?_
    obtain ⟨l⟩ := vs
    cases l with
    | nil =>
      have hx : ReadsAll s.heap [] xs _ := h4
      cases hx
      simp only [PyData.shownAll, listText_nil] at hQ
      exact call_list_repr_empty ⟨o, h1, h2⟩ h1 h3 ⟨_, _, rfl, hQ s.heap _ _ fun _ _ e => e⟩
    | cons x l =>
      exact call_list_reprK h1 h2 h3 (not_mem_of_deeper r hd hb) (by simpa using hk.length_eq) (fun i y e => hk.item i y (by simpa using e)) hg (fun b _ => Clear.nil b)
        (by show A.units + 1 + (PyData.depthAll xs + 1) < cLine; omega) (fun _ _ e => e) (fun h' u tk k => ⟨_, _, rfl, hQ h' u tk k⟩) hz
  | tuple h1 h2 h3 h4 =>
    rename_i a o vs n xs
    have r : Reads s.heap (.ref a) (.tuple xs) _ := .tuple h1 h2 h3 h4
    simp only [PyData.shown] at hz hQ
    simp only [PyData.depth] at hu
    obtain ⟨bs, hb, hk⟩ := reprAllK (prog := prog) (w := w) h4 (by simpa [PyData.showable] using hs) ho fun t ht => Nat.le_trans (tupleText_mem_le ht) hz
    have hd : PyData.depthAll xs < (PyData.tuple xs).depth := by simp only [PyData.depth]; omega
    refine call_repr_slot (by omega) ⟨o, h1, h2⟩ F.slot_tuple_repr ?_
    exact call_tuple_reprK h1 h2 h3 (not_mem_of_deeper r hd hb) hk hg (fun b _ => Clear.nil b) (by show A.units + 1 + (PyData.depthAll xs + 1) < cLine; omega) (fun _ _ e => e) (fun h' u tk k => ⟨_, _, rfl, hQ h' u tk k⟩) hz
  | dict h1 h2 h3 h4 h5 =>
    rename_i a o es n kvs a1 a2
    have r : Reads s.heap (.ref a) (.dict kvs) _ := .dict h1 h2 h3 h4 h5
    simp only [PyData.shown, PyData.shownKv_eq] at hQ
    simp only [PyData.shown] at hz
    simp only [PyData.depth] at hu
    obtain ⟨s1, s2⟩ := PyData.showableKv_split kvs (by simpa [PyData.showable] using hs)
    obtain ⟨b1, m1, k1⟩ := reprAllK (prog := prog) (w := w) h4 s1 (fun b hb => ho b (List.mem_append_left _ (List.mem_cons_of_mem _ hb))) fun t ht => by
      obtain ⟨p, hp, hl⟩ := PyData.shownKv_key_le kvs t ht
      exact Nat.le_trans hl (Nat.le_trans (dictText_mem_le hp) hz)
    obtain ⟨b2, m2, k2⟩ := reprAllK (prog := prog) (w := w) h5 s2 (fun b hb => ho b (List.mem_append_right _ hb)) fun t ht => by
      obtain ⟨p, hp, hl⟩ := PyData.shownKv_val_le kvs t ht
      exact Nat.le_trans hl (Nat.le_trans (dictText_mem_le hp) hz)
    have hb : ReadAtMost s.heap (PyData.depthKv kvs) (b1 ++ b2) := .append (m1.mono (PyData.depthAll_keys_le kvs)) (m2.mono (PyData.depthAll_vals_le kvs))
    have hd : PyData.depthKv kvs < (PyData.dict kvs).depth := by simp only [PyData.depth]; omega
    refine call_repr_slot (by omega) ⟨o, h1, h2⟩ F.slot_dict_repr ?_
    refine call_dict_reprK h1 h2 h3 (ho a (List.mem_append_left _ List.mem_cons_self) ⟨_, h1, h2⟩) (not_mem_of_deeper r hd hb) (.of_two es.toList _ _
      (k1.more_le (fun b q => List.mem_append_left _ q) (PyData.depthAll_keys_le kvs)) (k2.more_le (fun b q => List.mem_append_right _ q) (PyData.depthAll_vals_le kvs))) hg (fun b _ => Clear.nil b)
      (by show A.units + 1 + (PyData.depthKv kvs + 1) < cLine; omega) (fun _ _ e => e) (fun h' u tk k => ⟨_, _, rfl, hQ h' u tk k⟩) (by rw [← PyData.shownKv_eq]; exact hz)
end
def ShowOk (d : D) : Prop := plain d = true ∧ (py d).showable = true ∧ (py d).shown.length ≤ sizeLine ∧ (py d).depth ≤ 50
def shown (d : D) : Str := (py d).shown
section
variable {X : Cx}
def rRepr (K : PySem.W.Frag) : List V → Hp → VK → Prop := fun vs H Q => ∃ v d, vs = [v] ∧ Rp K H v d ∧ ShowOk d ∧ Q (.str (shown d)) H
theorem call_repr (hg : X.A.guards = some []) (hu : X.A.units + 64 < cLine) : CallR X (.builtin "repr") (rRepr X.K) := by
  intro pins s σ H vs us Q I r h
  obtain ⟨v, d, rfl, rp, ⟨h1, h2, h3, h4⟩, q⟩ := h
  obtain ⟨u, rfl, ru⟩ := vals1 r
  obtain ⟨as, rd, ho⟩ := rp.reads I (.refl _) d v u ru h1
  exact repr_of rd h2 ho h3 hg (by omega) fun h' t tk k => ⟨.str (shown d), H, I.kept k, ⟨t, rfl⟩, q⟩
def gRepr : DOpL := fun xs P => ∃ d, xs = [d] ∧ ShowOk d ∧ P (.dat (.str (shown d)))
theorem c_repr (K : PySem.W.Frag) : CL np K (rRepr K) gRepr := by
  intro B G ω ρ σ H vs xs P Q hn e r g k
  obtain ⟨d, rfl, hs, p⟩ := g
  obtain ⟨v, rfl, rv⟩ := r.one
  exact ⟨v, d, rfl, rv.rp e.gle, hs, k _ _ _ _ (.refl _) (e.dat (.str _)) p⟩
end
end TL
namespace TL
variable {np : Np}
open PySem PySem.Spec PyProof.Rows L2
theorem OpR_or {X : Cx} {f : Value → Value → Sem Value} {r r' : R2} (h : OpR X f r) (h' : OpR X f r') : OpR X f (fun x y H Q => r x y H Q ∨ r' x y H Q) := by
  intro pins s σ H x y v u Q I rx ry q
  rcases q with q | q
  · exact h pins s σ H x y v u Q I rx ry q
  · exact h' pins s σ H x y v u Q I rx ry q
def fv : D → Option V
  | .non => some .non
  | .bl b => some (.bl b)
  | .int i => some (.int i)
  | .str x => some (.str x)
  | _ => none
def fvs : List D → Option (List V)
  | [] => some []
  | d :: ds => match fv d, fvs ds with | some v, some vs => some (v :: vs) | _, _ => none
section
variable {K : PySem.W.Frag} {G H : Hp} {v : V} {d : D}
theorem RdV.flat {w : V} (r : RdV K G H v d) (h : fv d = some w) : v = w ∧ flatV v = true := by
  cases d with
  | non => cases h; exact ⟨r.non, by rw [r.non]; rfl⟩
  | bl b => cases h; exact ⟨r.bl, by rw [r.bl]; rfl⟩
  | int b => cases h; exact ⟨r.int, by rw [r.int]; rfl⟩
  | str b => cases h; exact ⟨r.str, by rw [r.str]; rfl⟩
  | _ => cases h
theorem Rp.rd (r : Rp K G v d) : RdV K G H v d := .inl r
theorem RpL.flat : ∀ {vs : List V} {ds : List D} {ws : List V}, RpL K G vs ds → fvs ds = some ws → vs = ws ∧ vs.all flatV = true
  | _, _, _, .nil, h => by cases h; exact ⟨rfl, rfl⟩
  | v :: vs, d :: ds, ws, .cons r t, h => by
    unfold fvs at h
    cases h1 : fv d with
    | none => rw [h1] at h; cases h
    | some w =>
      cases h2 : fvs ds with
      | none => rw [h1, h2] at h; cases h
      | some ws' =>
        rw [h1, h2] at h
        cases h
        obtain ⟨e1, f1⟩ := (Rp.rd (H := G) r).flat h1
        obtain ⟨e2, f2⟩ := t.flat h2
        exact ⟨by rw [e1, e2], by rw [List.all_cons, f1, f2]; rfl⟩
theorem fvs_ints : ∀ ns : List Int, fvs (ns.map D.int) = some (ns.map V.int)
  | [] => rfl
  | n :: ns => by simp [fvs, fv, fvs_ints ns]
theorem fvs_strs : ∀ ns : List Str, fvs (ns.map D.str) = some (ns.map V.str)
  | [] => rfl
  | n :: ns => by simp [fvs, fv, fvs_strs ns]
theorem fvs_bls : ∀ ns : List Bool, fvs (ns.map D.bl) = some (ns.map V.bl)
  | [] => rfl
  | n :: ns => by simp [fvs, fv, fvs_bls ns]
theorem RpL.ints_eq {vs : List V} {ns : List Int} (r : RpL K G vs (ns.map D.int)) : vs = ns.map V.int := (r.flat (fvs_ints ns)).1
theorem RpL.strs_eq {vs : List V} {ns : List Str} (r : RpL K G vs (ns.map D.str)) : vs = ns.map V.str := (r.flat (fvs_strs ns)).1
theorem RpL.bls_eq {vs : List V} {ns : List Bool} (r : RpL K G vs (ns.map D.bl)) : vs = ns.map V.bl := (r.flat (fvs_bls ns)).1
end
def gAdd : DOp2 := fun x y P => match x, y with
  | .int i, .int j => P (.dat (.int (i + j)))
  | .str a, .str b => a.length + b.length ≤ sizeLine ∧ P (.dat (.str (a ++ b)))
  | .lst xs, .lst ys => xs.length + ys.length ≤ sizeLine ∧ P (.nw (.ls (xs ++ ys)))
  | .tup xs, .tup ys => xs.length + ys.length ≤ sizeLine ∧ P (.dat (.tup (xs ++ ys)))
  | _, _ => False
def rAdd4 (K : PySem.W.Frag) : R2 := fun x y H Q => (rI0 fun i j => .int (i + j)) x y H Q ∨ (∃ i j, x = .str i ∧ y = .str j ∧ i.length + j.length ≤ sizeLine ∧ Q (.str (i ++ j)) H) ∨ rCat x y H Q ∨ rCatA K x y H Q
theorem op_add4 {X : Cx} : OpR X (binaryOp .Add) (rAdd4 X.K) := OpR_or op_add (OpR_or op_add_str (OpR_or op_cat op_catA))
theorem c_add (K : PySem.W.Frag) : C2 np K (rAdd4 K) gAdd := by
  intro B G ω ρ σ H v w x y P Q hn e rx ry g k
  cases x with
  | int i =>
    cases y with
    | int j => rw [rx.int, ry.int]; exact .inl ⟨i, j, rfl, rfl, k _ _ _ _ (.refl _) (e.dat (.int _)) g⟩
    | _ => exact g.elim
  | str a =>
    cases y with
    | str b => rw [rx.str, ry.str]; exact .inr (.inl ⟨a, b, rfl, rfl, g.1, k _ _ _ _ (.refl _) (e.dat (.str _)) g.2⟩)
    | _ => exact g.elim
  | lst xs =>
    cases y with
    | lst ys =>
      obtain ⟨a, vs, rfl, h1, r1⟩ := rx.lst e.gle
      obtain ⟨b, ws, rfl, h2, r2⟩ := ry.lst e.gle
      exact .inr (.inr (.inl ⟨a, b, vs, ws, rfl, rfl, h1, h2, by rw [r1.length, r2.length]; exact g.1, fun p hp => k _ _ _ _ (.refl _) (e.newL hp (r1.append r2)) g.2⟩))
    | _ => exact g.elim
  | tup xs =>
    cases y with
    | tup ys =>
      obtain ⟨a, vs, rfl, h1, r1⟩ := rx.tup
      obtain ⟨b, ws, rfl, h2, r2⟩ := ry.tup
      refine .inr (.inr (.inr ⟨a, b, vs, ws, rfl, rfl, seqT e.gle h1, seqT e.gle h2, by rw [r1.length, r2.length]; exact g.1, fun hx => ?_, fun _ hy => ?_, fun _ _ p hp => ?_⟩))
      · subst hx
        cases r1
        exact k _ _ _ _ (.refl _) (e.dat (.tup h2 r2)) g.2
      · subst hy
        cases r2
        exact k _ _ (.dat (.tup (xs ++ []))) _ (.refl _) (e.dat (by rw [List.append_nil]; exact .tup h1 r1)) g.2
      · obtain ⟨sg, f⟩ := e.newT hp (r1.append r2)
        exact k _ _ _ _ sg f g.2
    | _ => exact g.elim
  | _ => cases y <;> exact g.elim
def gI2 (C : Int → Int → Prop) (f : Int → Int → D) : DOp2 := fun x y P => match x, y with
  | .int i, .int j => C i j ∧ P (.dat (f i j))
  | _, _ => False
theorem c_I (K : PySem.W.Frag) {C : Int → Int → Prop} {f : Int → Int → Int} : C2 np K (rI C fun i j => .int (f i j)) (gI2 C fun i j => .int (f i j)) := by
  intro B G ω ρ σ H v w x y P Q hn e rx ry g k
  cases x with
  | int i =>
    cases y with
    | int j => rw [rx.int, ry.int]; exact ⟨i, j, rfl, rfl, g.1, k _ _ _ _ (.refl _) (e.dat (.int _)) g.2⟩
    | _ => exact g.elim
  | _ => cases y <;> exact g.elim
theorem c_I0 (K : PySem.W.Frag) {f : Int → Int → Int} : C2 np K (rI0 fun i j => .int (f i j)) (gI2 (fun _ _ => True) fun i j => .int (f i j)) := by
  intro B G ω ρ σ H v w x y P Q hn e rx ry g k
  cases x with
  | int i =>
    cases y with
    | int j => rw [rx.int, ry.int]; exact ⟨i, j, rfl, rfl, k _ _ _ _ (.refl _) (e.dat (.int _)) g.2⟩
    | _ => exact g.elim
  | _ => cases y <;> exact g.elim
def gSub : DOp2 := gI2 (fun _ _ => True) fun i j => .int (i - j)
theorem c_sub (K : PySem.W.Frag) : C2 np K (rI0 fun i j => .int (i - j)) gSub := c_I0 K
def gDiv : DOp2 := gI2 CDiv fun i j => .int (i / j)
theorem c_div (K : PySem.W.Frag) : C2 np K (rI CDiv fun i j => .int (i / j)) gDiv := c_I K
def gMod : DOp2 := gI2 (fun _ j => 0 < j) fun i j => .int (i % j)
theorem c_mod (K : PySem.W.Frag) : C2 np K (rI (fun _ j => 0 < j) fun i j => .int (i % j)) gMod := c_I K
def gPow : DOp2 := gI2 CPow fun i j => .int (i ^ j.toNat)
theorem c_pow (K : PySem.W.Frag) : C2 np K (rI CPow fun i j => .int (i ^ j.toNat)) gPow := c_I K
def gMul : DOp2 := fun x y P => match x, y with
  | .int i, .int j => CMul i j ∧ P (.dat (.int (i * j)))
  | .lst xs, .int k => -(2 ^ 63) ≤ k ∧ k < 2 ^ 63 ∧ xs.length * k.toNat ≤ sizeLine ∧ P (.nw (.ls (List.replicate k.toNat xs).flatten))
  | _, _ => False
def rMul2 : R2 := fun x y H Q => (rI CMul fun i j => .int (i * j)) x y H Q ∨ rRep x y H Q
theorem op_mul2 {X : Cx} : OpR X (binaryOp .Mult) rMul2 := OpR_or op_mul op_rep
theorem c_mul (K : PySem.W.Frag) : C2 np K rMul2 gMul := by
  intro B G ω ρ σ H v w x y P Q hn e rx ry g k
  cases x with
  | int i =>
    cases y with
    | int j => rw [rx.int, ry.int]; exact .inl ⟨i, j, rfl, rfl, g.1, k _ _ _ _ (.refl _) (e.dat (.int _)) g.2⟩
    | _ => exact g.elim
  | lst xs =>
    cases y with
    | int j =>
      obtain ⟨a, vs, rfl, h1, r1⟩ := rx.lst e.gle
      rw [ry.int]
      exact .inr ⟨a, j, vs, rfl, rfl, h1, g.1, g.2.1, by rw [r1.length]; exact g.2.2.1, fun p hp => k _ _ _ _ (.refl _) (e.newL hp (r1.rep _)) g.2.2.2⟩
    | _ => exact g.elim
  | _ => cases y <;> exact g.elim
def gNeg : DOp1 := fun x P => match x with
  | .int i => P (.dat (.int (-i)))
  | _ => False
theorem c_neg (K : PySem.W.Frag) : C1 np K (rU fun i => .int (-i)) gNeg := by
  intro B G ω ρ σ H v x P Q hn e rx g k
  cases x with
  | int i => rw [rx.int]; exact ⟨i, rfl, k _ _ _ _ (.refl _) (e.dat (.int _)) g⟩
  | _ => exact g.elim
def shD (d : D) : Bool := plain d && SeqAt.shaped (py d)
def eqD (x y : D) : Bool := PyData.eqv (py x) (py y)
theorem Rp.dp {K : PySem.W.Frag} {H : Hp} : ∀ {v : V} {d : D}, Rp K H v d → shD d = true → Dp K H v (py d) := by
  have main : ∀ (n : Nat), (∀ (d : D) (v : V), sizeOf d ≤ n → Rp K H v d → plain d = true → PyData.canLay0 (py d) = true → Dp K H v (py d)) ∧
      ∀ (ds : List D) (vs : List V), sizeOf ds ≤ n → RpL K H vs ds → plainL ds = true → PyData.canLayAll0 (pyL ds) = true → DpAll K H vs (pyL ds) := by
    intro n
    induction n with
    | zero =>
      refine ⟨fun d v hz => ?_, fun ds vs hz => ?_⟩
      · cases d <;> simp at hz
      · cases ds <;> simp at hz
    | succ n ih =>
      refine ⟨fun d v hz r hp hc => ?_, fun ds vs hz r hp hc => ?_⟩
      · cases r with
        | non => exact .non
        | bl b => exact .bl b
        | int i => exact .int i
        | str x => exact .str x
        | tup h t => exact .tup h (ih.2 _ _ (by simp at hz; omega) t hp (by simpa [py, PyData.canLay0] using hc))
        | lst h t => exact .lst (.of h) (ih.2 _ _ (by simp at hz; omega) t hp (by simpa [py, PyData.canLay0] using hc))
        | dct h t => simp [py, PyData.canLay0] at hc
        | obj h h' t => cases hp
        | ref a => cases hp
        | ty n => cases hp
        | scr h => cases hp
      · cases r with
        | nil => exact .nil
        | @cons v1 vs1 d1 ds1 h t =>
          have hp' : plain d1 = true ∧ plainL ds1 = true := by simpa [plainL] using hp
          have hc' : PyData.canLay0 (py d1) = true ∧ PyData.canLayAll0 (pyL ds1) = true := by simpa [pyL, PyData.canLayAll0] using hc
          exact .cons (ih.1 _ _ (by simp at hz; omega) h hp'.1 hc'.1) (ih.2 _ _ (by simp at hz; omega) t hp'.2 hc'.2)
  intro v d r h
  unfold shD SeqAt.shaped at h
  simp only [Bool.and_eq_true] at h
  exact (main (sizeOf d)).1 d v (Nat.le_refl _) r h.1 h.2.1
def rEqE (K : PySem.W.Frag) (neg : Bool) : R2 := fun x y H Q => ∃ a b, x = .ref a ∧ y = .ref b ∧ ((∃ xs, SqT K H a xs ∧ SqT K H b [] ∧ Q (.bl (neg ^^ xs.isEmpty)) H) ∨ ∃ xs, SqL K H a xs ∧ SqL K H b [] ∧ Q (.bl (neg ^^ xs.isEmpty)) H)
theorem empty_size {xs : List V} {its : List Value} (r : Vals xs its) : (its.toArray.size == 0) = xs.isEmpty := by
  cases r with
  | nil => rfl
  | cons _ _ => simp
theorem op_eqE {X : Cx} (hu : X.A.units < cLine) : OpR X (compareOp .Eq) (rEqE X.K false) := by
  intro pins s σ H x y v u Q I rx ry h
  obtain ⟨a, b, rfl, rfl, h⟩ := h
  cases rx
  cases ry
  rcases h with ⟨xs, h1, h2, q⟩ | ⟨xs, h1, h2, q⟩
  · obtain ⟨its, r1, p1, _⟩ := I.tuple h1
    obtain ⟨its2, r2, p2, _⟩ := I.tuple h2
    cases r2
    refine SeqAt.eq_tupleAt (e := fun _ => true) p1 p2 hu (fun j _ h2 => absurd h2 (by simp)) ⟨.bl _, H, I, ?_, q⟩
    have e := empty_size r1
    show Value.bool _ = Value.bool _
    rw [Bool.false_xor, ← e]
    simp
  · obtain ⟨its, r1, p1, _⟩ := I.list h1
    obtain ⟨its2, r2, p2, _⟩ := I.list h2
    cases r2
    have e := empty_size r1
    by_cases hz : its.toArray.size = 0
    · refine SeqAt.eq_listAt (e := fun _ => true) p1.isList p2.isList (by simpa using hz) hu (fun j _ h2 => absurd h2 (by simp)) ⟨.bl _, H, I, ?_, q⟩
      show Value.bool _ = Value.bool _
      rw [Bool.false_xor, ← e, hz]
      rfl
    · refine SeqAt.eq_list_lengthsAt p1.isList p2.isList (by simpa using hz) hu ⟨.bl _, H, I, ?_, q⟩
      show Value.bool _ = Value.bool _
      rw [Bool.false_xor, ← e]
      congr 1
      exact (beq_eq_false_iff_ne.mpr hz).symm
theorem op_neE {X : Cx} (hu : X.A.units < cLine) : OpR X (compareOp .NotEq) (rEqE X.K true) := by
  intro pins s σ H x y v u Q I rx ry h
  obtain ⟨a, b, rfl, rfl, h⟩ := h
  cases rx
  cases ry
  rcases h with ⟨xs, h1, h2, q⟩ | ⟨xs, h1, h2, q⟩
  · obtain ⟨its, r1, p1, _⟩ := I.tuple h1
    obtain ⟨its2, r2, p2, _⟩ := I.tuple h2
    cases r2
    refine SeqAt.RcNeAt.tuples (e := fun _ => true) p1 p2 hu (fun j _ h2 => absurd h2 (by simp)) _ _ _ _ ⟨.bl _, H, I, ?_, q⟩
    have e := empty_size r1
    show Value.bool _ = Value.bool _
    rw [Bool.true_xor, ← e]
    simp
  · obtain ⟨its, r1, p1, _⟩ := I.list h1
    obtain ⟨its2, r2, p2, _⟩ := I.list h2
    cases r2
    have e := empty_size r1
    by_cases hz : its.toArray.size = 0
    · refine SeqAt.RcNeAt.lists (e := fun _ => true) p1.isList p2.isList (by simpa using hz) hu (fun j _ h2 => absurd h2 (by simp)) _ _ _ _ ⟨.bl _, H, I, ?_, q⟩
      show Value.bool _ = Value.bool _
      rw [Bool.true_xor, ← e, hz]
      rfl
    · refine SeqAt.RcNeAt.lists_lengths p1.isList p2.isList (by simpa using hz) hu _ _ _ _ ⟨.bl _, H, I, ?_, q⟩
      show Value.bool _ = Value.bool _
      rw [Bool.true_xor, ← e]
      congr 1
      rw [beq_eq_false_iff_ne.mpr hz]
      rfl
def rEqDT (K : PySem.W.Frag) : R2 := fun x y H Q => ∃ a b xs, x = .ref a ∧ y = .ref b ∧ ((∃ kvs, H a = some (.dK kvs)) ∨ ∃ zs, SqL K H a zs) ∧ SqT K H b xs ∧ Q (.bl false) H
theorem tuple_eq_no_dict (l b : Addr) (items : Array Value) (n : Nat) (d1 d2 : Option Addr) (s1 s2 : Array (Option Value)) (es : Array DictEntry) (ep : Nat) :
    Meets (Builtin.«tuple.__eq__» ⟨[.ref l, .ref b], []⟩) (fun _ R s => s.heap.get? l = some { cls := .type "tuple", dict := d1, data := .seq items n, slots := s1 } ∧ s.heap.get? b = some { cls := .type "dict", dict := d2, data := .dict es ep, slots := s2 } ∧ R (.ok (.ret .notImplemented)) s) :=
  .of_wp fun P0 w0 A0 R0 st0 hh => by
    obtain ⟨h1, h2, h3, h4, h5⟩ := st0
    obtain ⟨hl, hb, h⟩ := hh
    have f1 := F.sub_dict_tuple
    wp_walk using wpAny_loadPart' hl, wpAny_loadPart' hb
    exact ⟨_, rfl, h⟩
theorem op_eqDT {X : Cx} (hu : X.A.units < cLine) : OpR X (compareOp .Eq) (rEqDT X.K) := by
  intro pins s σ H x y v u Q I rx ry h
  obtain ⟨a, b, xs, rfl, rfl, h1, h2, q⟩ := h
  cases rx
  cases ry
  obtain ⟨its, r, pl, _⟩ := I.tuple h2
  rcases h1 with ⟨kvs, h1⟩ | ⟨zs, h1⟩
  case inr =>
    obtain ⟨its1, r1, p1, _⟩ := I.list h1
    exact SeqAt.RcAt.list_tuple p1.isList pl hu _ _ _ _ ⟨.bl false, H, I, rfl, q⟩
  obtain ⟨⟨cls, dd, data, sl⟩, ho, hc, n, hd⟩ := id pl
  simp only at hc hd
  subst hc hd
  obtain ⟨z, hsm, vs, rel, D⟩ := dk_rd I.hok (.inl h1)
  obtain ⟨ob, es, ep, g1, g2, g3, _⟩ := id D
  obtain ⟨ocls, odict, odata, osl⟩ := ob
  simp only [Obj.ExactDict] at g2
  obtain ⟨e1, e2, e3⟩ := g2
  simp only at e1 e2 e3 g3
  subst e1
  subst g3
  have hne : a ≠ b := fun z => by
    subst z
    rw [ho] at g1
    simp at g1
  refine SeqAt.rc_eq_decline_or (k := false) D.typeIs ⟨_, ho, rfl⟩ (by decide) F.sub_tuple_dict F.slot_dict_eq F.slot_tuple_eq_refl (fun Q0 hq => ?_)
    (fun _ hq => call_meets F.slot_tuple_eq_refl ⟨_, ho, rfl⟩ F.entry_tuple_eq (F.args_tuple_eq_2 _ _) (tuple_eq_no_dict b a _ n dd _ sl _ _ _) ⟨ho, g1, hq⟩)
    (fun _ hq => wpAny_isSame_ref_other hne g1 ho (by simp) hq) (.inr hu) ⟨.bl false, H, I, rfl, q⟩
  refine wpAny_call_entry PySem.F.slot_dict_eq D.typeIs PySem.F.entry_dict_eq ?_ (PySem.F.args_dict_eq_2 _ _)
  show wpAny _ _ (Builtin.Dict.dictSlotArgs "__eq__" ⟨[.ref a, .ref b], []⟩ >>= _) _ _ s
  refine wpAny_bind ?_
  unfold Builtin.Dict.dictSlotArgs
  refine wpAny_bind (wpAny_notOrdered_dict D.typeIs ?_)
  refine wpAny_pure ?_
  refine wpAny_bind (wpAny_isInstance (v := .ref b) (T := "tuple") (U := "dict") ⟨_, ho, rfl⟩ F.sub_tuple_dict ?_)
  simp only [Bool.not_false, if_true]
  refine wpAny_bind (wpAny_rule ?_)
  exact wpAny_pure ⟨_, rfl, hq⟩
def gEq (neg : Bool) : DOp2 := fun x y P => match fv x, fv y with
  | some a, some b => (match scal a b with
    | true => P (.dat (.bl (neg ^^ decide (a = b))))
    | false => shD x = true ∧ shD y = true ∧ P (.dat (.bl (neg ^^ eqD x y))))
  | _, _ => match x, y with
    | .tup xs, .tup [] => P (.dat (.bl (neg ^^ xs.isEmpty)))
    | .lst xs, .lst [] => P (.dat (.bl (neg ^^ xs.isEmpty)))
    | .dct _, .tup _ => neg = false ∧ P (.dat (.bl false))
    | .lst _, .tup _ => neg = false ∧ P (.dat (.bl false))
    | _, _ => shD x = true ∧ shD y = true ∧ P (.dat (.bl (neg ^^ eqD x y)))
def rEq3 (K : PySem.W.Frag) : R2 := fun x y H Q => rEq x y H Q ∨ rEqE K false x y H Q ∨ rEqDT K x y H Q ∨ rEqD K x y H Q
def rNe3 (K : PySem.W.Frag) : R2 := fun x y H Q => rNe x y H Q ∨ rEqE K true x y H Q ∨ rNeD K x y H Q
theorem op_eq3 {X : Cx} (hu : X.A.units + 64 < cLine) : OpR X (compareOp .Eq) (rEq3 X.K) := OpR_or op_eq (OpR_or (op_eqE (by omega)) (OpR_or (op_eqDT (by omega)) (op_eqD hu)))
theorem op_ne3 {X : Cx} (hu : X.A.units + 64 < cLine) : OpR X (compareOp .NotEq) (rNe3 X.K) := OpR_or op_ne (OpR_or (op_neE (by omega)) (op_neD hu))
theorem eq_cases {neg : Bool} {x y : D} {P : Rs → Prop} (g : gEq neg x y P) : (∃ a b, fv x = some a ∧ fv y = some b ∧ scal a b = true ∧ P (.dat (.bl (neg ^^ decide (a = b))))) ∨
    (∃ xs, x = .tup xs ∧ y = .tup [] ∧ P (.dat (.bl (neg ^^ xs.isEmpty)))) ∨ (∃ xs, x = .lst xs ∧ y = .lst [] ∧ P (.dat (.bl (neg ^^ xs.isEmpty)))) ∨ (∃ xs, ((∃ kvs, x = .dct kvs) ∨ ∃ zs, x = .lst zs) ∧ y = .tup xs ∧ neg = false ∧ P (.dat (.bl false))) ∨ (shD x = true ∧ shD y = true ∧ P (.dat (.bl (neg ^^ eqD x y)))) := by
  unfold gEq at g
  split at g
  · rename_i a b ea eb
    split at g
    · rename_i hs
      exact .inl ⟨a, b, ea, eb, hs, g⟩
    · exact .inr (.inr (.inr (.inr g)))
  · split at g
    · exact .inr (.inl ⟨_, rfl, rfl, g⟩)
    · exact .inr (.inr (.inl ⟨_, rfl, rfl, g⟩))
    · exact .inr (.inr (.inr (.inl ⟨_, .inl ⟨_, rfl⟩, rfl, g⟩)))
    · exact .inr (.inr (.inr (.inl ⟨_, .inr ⟨_, rfl⟩, rfl, g⟩)))
    · exact .inr (.inr (.inr (.inr g)))
theorem RpL.isE {K : PySem.W.Frag} {G : Hp} {vs : List V} {ds : List D} (r : RpL K G vs ds) : vs.isEmpty = ds.isEmpty := by cases r <;> rfl
theorem c_eq (K : PySem.W.Frag) : C2 np K (rEq3 K) (gEq false) := by
  intro B G ω ρ σ H v w x y P Q hn e rx ry g k
  rcases eq_cases g with ⟨a, b, ea, eb, hs, p⟩ | ⟨xs, rfl, rfl, p⟩ | ⟨xs, rfl, rfl, p⟩ | ⟨xs, hx, rfl, hn, p⟩ | ⟨h1, h2, p⟩
  · obtain ⟨rfl, _⟩ := rx.flat ea
    obtain ⟨rfl, _⟩ := ry.flat eb
    exact .inl ⟨hs, k _ _ _ _ (.refl _) (e.dat (.bl _)) (by rw [Bool.false_xor] at p; exact p)⟩
  · obtain ⟨a, vs, rfl, t1, r1⟩ := rx.tup
    obtain ⟨b, ws, rfl, t2, r2⟩ := ry.tup
    cases r2
    exact .inr (.inl ⟨a, b, rfl, rfl, .inl ⟨vs, seqT e.gle t1, seqT e.gle t2, k _ _ _ _ (.refl _) (e.dat (.bl _)) (by rw [r1.isE]; exact p)⟩⟩)
  · obtain ⟨a, vs, rfl, t1, r1⟩ := rx.lst e.gle
    obtain ⟨b, ws, rfl, t2, r2⟩ := ry.lst e.gle
    cases r2
    exact .inr (.inl ⟨a, b, rfl, rfl, .inr ⟨vs, .of t1, .of t2, k _ _ _ _ (.refl _) (e.dat (.bl _)) (by rw [r1.isE]; exact p)⟩⟩)
  · obtain ⟨b, ws, rfl, t2, r2⟩ := ry.tup
    rcases hx with ⟨kvs, rfl⟩ | ⟨zs, rfl⟩
    · obtain ⟨a, vs, rfl, t1, r1⟩ := rx.dct e.gle
      exact .inr (.inr (.inl ⟨a, b, ws, rfl, rfl, .inl ⟨_, t1⟩, seqT e.gle t2, k _ _ _ _ (.refl _) (e.dat (.bl _)) p⟩))
    · obtain ⟨a, vs, rfl, t1, r1⟩ := rx.lst e.gle
      exact .inr (.inr (.inl ⟨a, b, ws, rfl, rfl, .inr ⟨_, .of t1⟩, seqT e.gle t2, k _ _ _ _ (.refl _) (e.dat (.bl _)) p⟩))
  · refine .inr (.inr (.inr ⟨py x, py y, (rx.rp e.gle).dp h1, (ry.rp e.gle).dp h2, ?_, ?_, k _ _ _ _ (.refl _) (e.dat (.bl _)) (by rw [Bool.false_xor] at p; exact p)⟩))
    · unfold shD at h1; simp only [Bool.and_eq_true] at h1; exact h1.2
    · unfold shD at h2; simp only [Bool.and_eq_true] at h2; exact h2.2
theorem c_ne (K : PySem.W.Frag) : C2 np K (rNe3 K) (gEq true) := by
  intro B G ω ρ σ H v w x y P Q hn e rx ry g k
  rcases eq_cases g with ⟨a, b, ea, eb, hs, p⟩ | ⟨xs, rfl, rfl, p⟩ | ⟨xs, rfl, rfl, p⟩ | ⟨xs, hx, rfl, hn, p⟩ | ⟨h1, h2, p⟩
  · obtain ⟨rfl, _⟩ := rx.flat ea
    obtain ⟨rfl, _⟩ := ry.flat eb
    exact .inl ⟨hs, k _ _ _ _ (.refl _) (e.dat (.bl _)) (by rw [Bool.true_xor] at p; exact p)⟩
  · obtain ⟨a, vs, rfl, t1, r1⟩ := rx.tup
    obtain ⟨b, ws, rfl, t2, r2⟩ := ry.tup
    cases r2
    exact .inr (.inl ⟨a, b, rfl, rfl, .inl ⟨vs, seqT e.gle t1, seqT e.gle t2, k _ _ _ _ (.refl _) (e.dat (.bl _)) (by rw [r1.isE]; exact p)⟩⟩)
  · obtain ⟨a, vs, rfl, t1, r1⟩ := rx.lst e.gle
    obtain ⟨b, ws, rfl, t2, r2⟩ := ry.lst e.gle
    cases r2
    exact .inr (.inl ⟨a, b, rfl, rfl, .inr ⟨vs, .of t1, .of t2, k _ _ _ _ (.refl _) (e.dat (.bl _)) (by rw [r1.isE]; exact p)⟩⟩)
  · cases hn
  · refine .inr (.inr ⟨py x, py y, (rx.rp e.gle).dp h1, (ry.rp e.gle).dp h2, ?_, ?_, k _ _ _ _ (.refl _) (e.dat (.bl _)) (by rw [Bool.true_xor] at p; exact p)⟩)
    · unfold shD at h1; simp only [Bool.and_eq_true] at h1; exact h1.2
    · unfold shD at h2; simp only [Bool.and_eq_true] at h2; exact h2.2
def gOrd (f : Int → Int → Bool) (fs : Str → Str → Bool) : DOp2 := fun x y P => match x, y with
  | .int i, .int j => P (.dat (.bl (f i j)))
  | .str a, .str b => P (.dat (.bl (fs a b)))
  | _, _ => False
def rOrd (f : Int → Int → Bool) (fs : Str → Str → Bool) : R2 := fun x y H Q => (rI0 fun i j => .bl (f i j)) x y H Q ∨ ∃ i j, x = .str i ∧ y = .str j ∧ Q (.bl (fs i j)) H
theorem c_ord (K : PySem.W.Frag) {f : Int → Int → Bool} {fs : Str → Str → Bool} : C2 np K (rOrd f fs) (gOrd f fs) := by
  intro B G ω ρ σ H v w x y P Q hn e rx ry g k
  cases x with
  | int i =>
    cases y with
    | int j => rw [rx.int, ry.int]; exact .inl ⟨i, j, rfl, rfl, k _ _ _ _ (.refl _) (e.dat (.bl _)) g⟩
    | _ => exact g.elim
  | str i =>
    cases y with
    | str j => rw [rx.str, ry.str]; exact .inr ⟨i, j, rfl, rfl, k _ _ _ _ (.refl _) (e.dat (.bl _)) g⟩
    | _ => exact g.elim
  | _ => cases y <;> exact g.elim
def gLe : DOp2 := gOrd (fun i j => decide (i ≤ j)) fun i j => !decide (j.cps.toList < i.cps.toList)
def gGt : DOp2 := gOrd (fun i j => decide (j < i)) fun i j => decide (j.cps.toList < i.cps.toList)
def gGe : DOp2 := gOrd (fun i j => decide (j ≤ i)) fun i j => !decide (i.cps.toList < j.cps.toList)
theorem op_le2 {X : Cx} : OpR X (compareOp .LtE) (rOrd (fun i j => decide (i ≤ j)) fun i j => !decide (j.cps.toList < i.cps.toList)) := OpR_or op_le op_le_str
theorem op_gt2 {X : Cx} : OpR X (compareOp .Gt) (rOrd (fun i j => decide (j < i)) fun i j => decide (j.cps.toList < i.cps.toList)) := OpR_or op_gt op_gt_str
theorem op_ge2 {X : Cx} : OpR X (compareOp .GtE) (rOrd (fun i j => decide (j ≤ i)) fun i j => !decide (i.cps.toList < j.cps.toList)) := OpR_or op_ge op_ge_str
def strIn (a z : Str) : Bool := !(Builtin.Str.occurrences z a 0 z.length 1).isEmpty
theorem strIn_one (c : Nat) (z : Str) : strIn ⟨#[c]⟩ z = decide (c ∈ z.cps.toList) := PySem.StrLaws.found_one z c
def gIn (neg : Bool) : DOp2 := fun x y P => match fv x, y with
  | some (.str a), .str z => P (.dat (.bl (neg ^^ strIn a z)))
  | some a, .lst ys => (match fvs ys with | some bs => P (.dat (.bl (neg ^^ inV a bs))) | none => False)
  | some a, .tup ys => (match fvs ys with | some bs => P (.dat (.bl (neg ^^ inV a bs))) | none => False)
  | _, _ => False
def rIn2 (K : PySem.W.Frag) (neg : Bool) : R2 := fun x y H Q => (∃ i j, x = .str i ∧ y = .str j ∧ Q (.bl (neg ^^ strIn i j)) H) ∨ rIn K neg x y H Q
theorem op_in2 {X : Cx} : OpR X (compareOp .In) (rIn2 X.K false) := by
  refine OpR_or ?_ op_in_seq
  intro pins s σ H x y v u Q I rx ry h
  obtain ⟨i, j, e1, e2, q⟩ := h
  exact op_in_str pins s σ H x y v u Q I rx ry ⟨i, j, e1, e2, by rw [Bool.false_xor] at q; exact q⟩
theorem op_notin2 {X : Cx} : OpR X (compareOp .NotIn) (rIn2 X.K true) := by
  refine OpR_or ?_ op_notIn_seq
  intro pins s σ H x y v u Q I rx ry h
  obtain ⟨i, j, e1, e2, q⟩ := h
  exact L2.op_notIn_str pins s σ H x y v u Q I rx ry ⟨i, j, e1, e2, by rw [Bool.true_xor] at q; exact q⟩
theorem neg_in {neg b : Bool} : (if neg = true then !b else b) = (neg ^^ b) := by cases neg <;> cases b <;> rfl
theorem c_in (K : PySem.W.Frag) {neg : Bool} : C2 np K (rIn2 K neg) (gIn neg) := by
  intro B G ω ρ σ H v w x y P Q hn e rx ry g k
  unfold gIn at g
  split at g
  · rename_i a z ex
    obtain ⟨rfl, _⟩ := rx.flat ex
    rw [ry.str]
    exact .inl ⟨a, z, rfl, rfl, k _ _ _ _ (.refl _) (e.dat (.bl _)) g⟩
  · rename_i a ys _ ex
    split at g
    · rename_i bs eb
      obtain ⟨rfl, f⟩ := rx.flat ex
      obtain ⟨p, vs, rfl, h, r⟩ := ry.lst e.gle
      obtain ⟨rfl, f2⟩ := r.flat eb
      exact .inr ⟨p, vs, rfl, .inl (.of h), f, f2, by rw [neg_in]; exact k _ _ _ _ (.refl _) (e.dat (.bl _)) g⟩
    · exact g.elim
  · rename_i a ys _ ex
    split at g
    · rename_i bs eb
      obtain ⟨rfl, f⟩ := rx.flat ex
      obtain ⟨p, vs, rfl, h, r⟩ := ry.tup
      obtain ⟨rfl, f2⟩ := r.flat eb
      exact .inr ⟨p, vs, rfl, .inr (seqT e.gle h), f, f2, by rw [neg_in]; exact k _ _ _ _ (.refl _) (e.dat (.bl _)) g⟩
    · exact g.elim
  · exact g.elim
def isNon : D → Bool
  | .non => true
  | _ => false
def gIsN (neg : Bool) : DOp2 := fun x y P => match y with
  | .non => P (.dat (.bl (neg ^^ isNon x)))
  | _ => False
theorem Rp.isN {K : PySem.W.Frag} {G : Hp} {v : V} {d : D} (r : Rp K G v d) : decide (v = .non) = isNon d := by cases r <;> rfl
theorem RdV.isN {K : PySem.W.Frag} {G H : Hp} {v : V} {d : D} (r : RdV K G H v d) : decide (v = .non) = isNon d := by
  rcases r with r | ⟨_, _, _, rfl, rfl, _⟩ | ⟨_, _, _, rfl, rfl, _⟩
  · exact r.isN
  · rfl
  · rfl
theorem c_isN (K : PySem.W.Frag) : C2 np K (fun x y H Q => y = .non ∧ Q (.bl (decide (x = .non))) H) (gIsN false) := by
  intro B G ω ρ σ H v w x y P Q hn e rx ry g k
  cases y with
  | non => rw [ry.non]; exact ⟨rfl, by rw [rx.isN]; exact k _ _ _ _ (.refl _) (e.dat (.bl _)) (by have := g; simpa [gIsN] using this)⟩
  | _ => exact g.elim
end TL
namespace TL
variable {np : Np}
open PySem PySem.Spec PyProof.Rows L2
def dChain (g g' : DOp2) (ta tb tc : DTE) : DTE := fun ρ Q => ta ρ fun ra ρ1 => tb ρ1 fun rb ρ2 => W2 (val ρ2 (stl ra)) (val ρ2 (stl rb)) fun x y => g x y fun r => match r with
  | .dat (.bl true) => tc ρ2 fun rc ρ3 => W2 (val ρ3 (stl rb)) (val ρ3 rc) fun y z => g' y z fun r' => Q r' ρ3
  | .dat (.bl false) => Q (.dat (.bl false)) ρ2
  | _ => False
def gLen : DOpL := fun xs P => match xs with
  | [.str z] => z.length ≤ sizeLine ∧ P (.dat (.int z.length))
  | [.lst ys] => P (.dat (.int ys.length))
  | [.tup ys] => P (.dat (.int ys.length))
  | [.scr ns] => P (.dat (.int ns.length))
  | [.dct kvs] => P (.dat (.int kvs.length))
  | _ => False
def rLen2 (K : PySem.W.Frag) : List V → Hp → VK → Prop := fun xs H Q => (∃ x n, xs = [x] ∧ LenV K x H n ∧ Q (.int n) H) ∨ ∃ d kvs, xs = [.ref d] ∧ H d = some (.dK kvs) ∧ Q (.int kvs.length) H
theorem call_len2 {X : Cx} : CallR X (.builtin "len") (rLen2 X.K) := by
  refine CallR.or call_len ?_
  intro pins s σ H xs us Q I r h
  obtain ⟨d, kvs, e, hd, q⟩ := h
  exact call_lenD pins s σ H xs us Q I r ⟨d, kvs, e, hd, q⟩
theorem RpK.length {K : PySem.W.Frag} {G : Hp} : ∀ {vs : List (Key × V)} {ds : List (Key × D)}, RpK K G vs ds → vs.length = ds.length
  | _, _, .nil => rfl
  | _, _, .cons _ r => congrArg (· + 1) r.length
theorem c_len (K : PySem.W.Frag) : CL np K (rLen2 K) gLen := by
  intro B G ω ρ σ H vs xs P Q hn e r g k
  unfold gLen at g
  split at g
  · obtain ⟨v, rfl, rv⟩ := r.one
    rw [rv.str]
    exact .inl ⟨_, _, rfl, ⟨g.1, rfl⟩, k _ _ _ _ (.refl _) (e.dat (.int _)) g.2⟩
  · obtain ⟨v, rfl, rv⟩ := r.one
    obtain ⟨a, ws, rfl, h, rr⟩ := rv.lst e.gle
    exact .inl ⟨_, _, rfl, .inl ⟨ws, .of h, rfl⟩, k _ _ _ _ (.refl _) (e.dat (.int _)) (by rw [rr.length]; exact g)⟩
  · obtain ⟨v, rfl, rv⟩ := r.one
    obtain ⟨a, ws, rfl, h, rr⟩ := rv.tup
    exact .inl ⟨_, _, rfl, .inr ⟨ws, seqT e.gle h, rfl⟩, k _ _ _ _ (.refl _) (e.dat (.int _)) (by rw [rr.length]; exact g)⟩
  · obtain ⟨v, rfl, rv⟩ := r.one
    obtain ⟨a, rfl, h⟩ := rv.scr
    exact .inl ⟨_, _, rfl, .inl ⟨_, e.gle.seq h, rfl⟩, k _ _ _ _ (.refl _) (e.dat (.int _)) (by rw [List.length_map]; exact g)⟩
  · obtain ⟨v, rfl, rv⟩ := r.one
    obtain ⟨a, ws, rfl, h, rr⟩ := rv.dct e.gle
    exact .inr ⟨_, _, rfl, h, k _ _ _ _ (.refl _) (e.dat (.int _)) (by rw [rr.length]; exact g)⟩
  · exact g.elim
def tyN : D → Option String
  | .non => some "NoneType"
  | .bl _ => some "bool"
  | .int _ => some "int"
  | .str _ => some "str"
  | .tup _ => some "tuple"
  | .lst _ => some "list"
  | .dct _ => some "dict"
  | .scr _ => some "list"
  | _ => none
def subT (t n : String) : Bool := t == n || (t == "bool" && n == "int")
def isT (n : String) (d : D) : Bool := match tyN d with
  | some t => subT t n
  | none => false
def tyOk (n : String) : Bool := n == "bool" || n == "int" || n == "str" || n == "tuple" || n == "list" || n == "dict"
theorem tyN_ok {d : D} {t : String} (h : tyN d = some t) : t = "NoneType" ∨ tyOk t = true := by
  cases d <;> cases h <;> first | exact .inl rfl | exact .inr (by decide)
theorem kit_sub {t n : String} (ht : t = "NoneType" ∨ tyOk t = true) (hn : tyOk n = true) : kitB t n = some (subT t n) := by
  unfold tyOk at ht hn
  simp only [Bool.or_eq_true, beq_iff_eq] at ht hn
  rcases hn with ((((rfl | rfl) | rfl) | rfl) | rfl) | rfl <;> rcases ht with rfl | ((((rfl | rfl) | rfl) | rfl) | rfl) | rfl <;> decide +kernel
theorem kit_isT (K : PySem.W.Frag) {d : D} {t n : String} (h : tyN d = some t) (hn : tyOk n = true) : PySem.W.kitOne K (.type t) (.type n) = some (isT n d) := by
  unfold isT
  rw [h]
  exact kit_ty (kit_sub (tyN_ok h) hn)
theorem RdV.tyx {K : PySem.W.Frag} {G H : Hp} {v : V} {d : D} {t : String} (s : Same G H) (r : RdV K G H v d) (h : tyN d = some t) : TyX K H v (.type t) := by
  cases d with
  | non => cases h; rw [r.non]; exact .base .non
  | bl b => cases h; rw [r.bl]; exact .base (.bl b)
  | int b => cases h; rw [r.int]; exact .base (.int b)
  | str b => cases h; rw [r.str]; exact .base (.str b)
  | tup xs =>
    cases h
    obtain ⟨a, ws, rfl, h, _⟩ := r.tup
    rcases seqT s h with (h | ⟨o, h⟩) | ⟨o, its, n, h1, h2, _⟩
    · exact .base (.tup h)
    · exact .fTuple h
    · exact .kTuple h1 h2
  | lst xs =>
    cases h
    obtain ⟨a, ws, rfl, h, _⟩ := r.lst s
    exact .base (.lst h)
  | dct xs =>
    cases h
    obtain ⟨a, ws, rfl, h, _⟩ := r.dct s
    exact .base (.dK h)
  | scr xs =>
    cases h
    obtain ⟨a, rfl, h⟩ := r.scr
    rcases s.seq h with (h | ⟨o, h⟩) | ⟨o, its, n, h1, h2, _⟩
    · exact .base (.lst h)
    · exact .base (.frz h)
    · exact .kList h1 h2
  | _ => cases h
def gIsi : DOpL := fun xs P => match xs with
  | [x, .ty n] => (tyN x).isSome = true ∧ tyOk n = true ∧ P (.dat (.bl (isT n x)))
  | [x, .tup [.ty n, .ty m]] => (tyN x).isSome = true ∧ tyOk n = true ∧ tyOk m = true ∧ P (.dat (.bl (isT n x || isT m x)))
  | _ => False
def rIsiS (K : PySem.W.Frag) : List V → Hp → VK → Prop := fun xs H Q => ∃ (x : V) (tp : Addr) (cs : List V) (t : Value) (us : List Value) (b : Bool), xs = [x, .ref tp] ∧ SqT K H tp cs ∧ Paired ClsV cs us ∧ TyX K H x t ∧ PySem.W.kitAny K t us = some b ∧ Q (.bl b) H
theorem call_isiS {X : Cx} : CallR X (.builtin "isinstance") (rIsiS X.K) := by
  intro pins s σ H xs us Q I r h
  obtain ⟨x, tp, cs, t, ws, b, rfl, hT, k, ty, e, q⟩ := h
  obtain ⟨u1, u2, rfl, r1, r2⟩ := vals2 r
  cases (show u2 = Value.ref tp from r2)
  obtain ⟨P, Z, p, hx⟩ := kit_of I r1 ty
  obtain ⟨its, rv, ⟨o, h1, h2, n, h3⟩, _⟩ := I.tuple hT
  cases ClsV.all k rv
  obtain ⟨oc, od, dt, sl⟩ := o
  simp only at h2 h3
  subst h2 h3
  exact PySem.W.kia_tup Z I.kIn p h1 e hx fun tk => ⟨.bl b, H, I.tok tk, rfl, q⟩
def rIsi2 (K : PySem.W.Frag) : List V → Hp → VK → Prop := fun xs H Q => rIsi K xs H Q ∨ rIsiS K xs H Q
theorem call_isi2 {X : Cx} : CallR X (.builtin "isinstance") (rIsi2 X.K) := CallR.or call_isi call_isiS
theorem Rp.tyv {K : PySem.W.Frag} {G : Hp} {v : V} {n : String} (r : Rp K G v (.ty n)) : v = .ty n := by cases r; rfl
theorem RdV.tyv {K : PySem.W.Frag} {G H : Hp} {v : V} {n : String} (r : RdV K G H v (.ty n)) : v = .ty n := by
  rcases r with r | ⟨_, _, _, _, e, _⟩ | ⟨_, _, _, _, e, _⟩
  · exact r.tyv
  · cases e
  · cases e
theorem c_isi (K : PySem.W.Frag) : CL np K (rIsi2 K) gIsi := by
  intro B G ω ρ σ H vs xs P Q hn e r g k
  unfold gIsi at g
  split at g
  · rename_i x n
    obtain ⟨v, w, rfl, rv, rw'⟩ := r.two
    rw [rw'.tyv]
    obtain ⟨h1, h2, p⟩ := g
    obtain ⟨t, ht⟩ := Option.isSome_iff_exists.mp h1
    exact .inl ⟨v, .ty n, .type t, .type n, _, rfl, .ty n, rv.tyx e.gle ht, kit_isT K ht h2, k _ _ _ _ (.refl _) (e.dat (.bl _)) p⟩
  · rename_i x n m
    obtain ⟨v, w, rfl, rv, rw'⟩ := r.two
    obtain ⟨a, ws, rfl, ht, rr⟩ := rw'.tup
    cases rr with
    | cons r1 rr =>
      cases rr with
      | cons r2 rr =>
        cases rr
        rw [r1.tyv, r2.tyv] at ht
        obtain ⟨h1, h2, h3, p⟩ := g
        obtain ⟨t, hy⟩ := Option.isSome_iff_exists.mp h1
        have fin : PySem.W.kitAny K (.type t) [.type n, .type m] = some (isT n x || isT m x) := by
          refine kitAny_cons (kit_isT K hy h2) (fun hb => ?_) (fun hb => by rw [hb]; rfl)
          rw [hb]
          exact kitAny_cons (kit_isT K hy h3) (fun hb2 => by rw [hb2]; rfl) (fun hb2 => by rw [hb2]; rfl)
        exact .inr ⟨v, a, _, .type t, _, _, rfl, seqT e.gle ht, .cons (.ty n) (.cons (.ty m) .nil), rv.tyx e.gle hy, fin, k _ _ _ _ (.refl _) (e.dat (.bl _)) p⟩
  · exact g.elim
def bls : List D → Option (List Bool)
  | [] => some []
  | .bl b :: ds => (match bls ds with | some bs => some (b :: bs) | none => none)
  | _ :: _ => none
theorem bls_map : ∀ bs : List Bool, bls (bs.map D.bl) = some bs
  | [] => rfl
  | b :: bs => by simp [bls, bls_map bs]
theorem bls_eq : ∀ {ds : List D} {bs : List Bool}, bls ds = some bs → ds = bs.map D.bl
  | [], _, h => by cases h; rfl
  | d :: ds, bs, h => by
    cases d with
    | bl b =>
      unfold bls at h
      cases h2 : bls ds with
      | none => rw [h2] at h; cases h
      | some bs' => rw [h2] at h; cases h; rw [bls_eq h2]; rfl
    | _ => cases h
def gAll : DOpL := fun xs P => match xs with
  | [.lst ys] => (match bls ys with | some bs => P (.dat (.bl (bs.all id))) | none => False)
  | _ => False
theorem c_all (K : PySem.W.Frag) : CL np K (rAll K) gAll := by
  intro B G ω ρ σ H vs xs P Q hn e r g k
  unfold gAll at g
  split at g
  · rename_i ys
    split at g
    · rename_i bs eb
      obtain ⟨v, rfl, rv⟩ := r.one
      obtain ⟨a, ws, rfl, h, rr⟩ := rv.lst e.gle
      cases bls_eq eb
      cases rr.bls_eq
      exact ⟨a, bs, rfl, .of h, k _ _ _ _ (.refl _) (e.dat (.bl _)) g⟩
    · exact g.elim
  · exact g.elim
def gList : DOpL := fun xs P => match xs with
  | [.lst ys] => P (.nw (.ls ys))
  | [.tup ys] => P (.nw (.ls ys))
  | [.scr ns] => P (.nw (.ls (ns.map .int)))
  | _ => False
theorem c_list (K : PySem.W.Frag) : CL np K (fun xs H Q => ∃ p ys, xs = [.ref p] ∧ (SqL K H p ys ∨ SqT K H p ys) ∧ ∀ l, H l = none → Q (.ref l) (upd H l (.lst ys))) gList := by
  intro B G ω ρ σ H vs xs P Q hn e r g k
  unfold gList at g
  split at g
  · obtain ⟨v, rfl, rv⟩ := r.one
    obtain ⟨a, ws, rfl, h, rr⟩ := rv.lst e.gle
    exact ⟨a, ws, rfl, .inl (.of h), fun p hp => k _ _ _ _ (.refl _) (e.newL hp rr) g⟩
  · obtain ⟨v, rfl, rv⟩ := r.one
    obtain ⟨a, ws, rfl, h, rr⟩ := rv.tup
    exact ⟨a, ws, rfl, .inr (seqT e.gle h), fun p hp => k _ _ _ _ (.refl _) (e.newL hp rr) g⟩
  · obtain ⟨v, rfl, rv⟩ := r.one
    obtain ⟨a, rfl, h⟩ := rv.scr
    exact ⟨a, _, rfl, .inl (e.gle.seq h), fun p hp => k _ _ _ _ (.refl _) (e.newL hp (RpL.ints _)) g⟩
  · exact g.elim
def gTuple : DOpL := fun xs P => match xs with
  | [.lst ys] => P (.dat (.tup ys))
  | [.tup ys] => P (.dat (.tup ys))
  | _ => False
theorem c_tuple (K : PySem.W.Frag) : CL np K (fun xs H Q => ∃ p ys, xs = [.ref p] ∧ ((SqL K H p ys ∧ ∀ l, H l = none → Q (.ref l) (upd H l (.tup ys))) ∨ (SqT K H p ys ∧ Q (.ref p) H))) gTuple := by
  intro B G ω ρ σ H vs xs P Q hn e r g k
  unfold gTuple at g
  split at g
  · obtain ⟨v, rfl, rv⟩ := r.one
    obtain ⟨a, ws, rfl, h, rr⟩ := rv.lst e.gle
    refine ⟨a, ws, rfl, .inl ⟨.of h, fun p hp => ?_⟩⟩
    obtain ⟨sg, f⟩ := e.newT hp rr
    exact k _ _ _ _ sg f g
  · obtain ⟨v, rfl, rv⟩ := r.one
    obtain ⟨a, ws, rfl, h, rr⟩ := rv.tup
    exact ⟨a, ws, rfl, .inr ⟨seqT e.gle h, k _ _ _ _ (.refl _) (e.dat (.tup h rr)) g⟩⟩
  · exact g.elim
def gInt : DOpL := fun xs P => match xs with
  | [.int i] => P (.dat (.int i))
  | [.bl b] => P (.dat (.int (if b then 1 else 0)))
  | _ => False
theorem c_int (K : PySem.W.Frag) : CL np K (fun xs H Q => (∃ i, xs = [.int i] ∧ Q (.int i) H) ∨ ∃ k, xs = [.bl k] ∧ Q (.int (if k then 1 else 0)) H) gInt := by
  intro B G ω ρ σ H vs xs P Q hn e r g k
  unfold gInt at g
  split at g
  · obtain ⟨v, rfl, rv⟩ := r.one
    rw [rv.int]
    exact .inl ⟨_, rfl, k _ _ _ _ (.refl _) (e.dat (.int _)) g⟩
  · obtain ⟨v, rfl, rv⟩ := r.one
    rw [rv.bl]
    exact .inr ⟨_, rfl, k _ _ _ _ (.refl _) (e.dat (.int _)) g⟩
  · exact g.elim
def gMin2 : DOpL := fun xs P => match xs with
  | [.int i, .int j] => P (.dat (.int (if j < i then j else i)))
  | _ => False
theorem c_min2 (K : PySem.W.Frag) : CL np K (fun xs H Q => ∃ i j, xs = [.int i, .int j] ∧ Q (.int (if j < i then j else i)) H) gMin2 := by
  intro B G ω ρ σ H vs xs P Q hn e r g k
  unfold gMin2 at g
  split at g
  · obtain ⟨v, w, rfl, rv, rw'⟩ := r.two
    rw [rv.int, rw'.int]
    exact ⟨_, _, rfl, k _ _ _ _ (.refl _) (e.dat (.int _)) g⟩
  · exact g.elim
def txs : List D → Option (List Str)
  | [] => some []
  | .str b :: ds => (match txs ds with | some bs => some (b :: bs) | none => none)
  | _ :: _ => none
theorem txs_map : ∀ bs : List Str, txs (bs.map D.str) = some bs
  | [] => rfl
  | b :: bs => by simp [txs, txs_map bs]
theorem txs_eq : ∀ {ds : List D} {bs : List Str}, txs ds = some bs → ds = bs.map D.str
  | [], _, h => by cases h; rfl
  | d :: ds, bs, h => by
    cases d with
    | str b =>
      unfold txs at h
      cases h2 : txs ds with
      | none => rw [h2] at h; cases h
      | some bs' => rw [h2] at h; cases h; rw [txs_eq h2]; rfl
    | _ => cases h
def gIx : DOp2 := fun x y P => match x, y with
  | .lst xs, .int i => (match atI xs i with | some d => P (.dat d) | none => False)
  | .tup xs, .int i => (match atI xs i with | some d => P (.dat d) | none => False)
  | .str z, .int i => (match atI z.cps.toList i with | some c => z.length ≤ sizeLine ∧ P (.dat (.str ⟨#[c]⟩)) | none => False)
  | _, _ => False
theorem RpL.atI {K : PySem.W.Frag} {G : Hp} {vs : List V} {ds : List D} {i : Int} {d : D} (r : RpL K G vs ds) (h : L2.atI ds i = some d) : ∃ v, L2.atI vs i = some v ∧ Rp K G v d := by
  unfold L2.atI at h ⊢
  rw [r.length]
  cases q : ixN ds.length i with
  | none => rw [q] at h; cases h
  | some j =>
    rw [q] at h
    exact r.get h
theorem c_ix (K : PySem.W.Frag) : C2 np K (rIx K) gIx := by
  intro B G ω ρ σ H v w x y P Q hn e rx ry g k
  unfold gIx at g
  split at g
  · split at g
    · rename_i d ed
      obtain ⟨a, ws, rfl, h, rr⟩ := rx.lst e.gle
      rw [ry.int]
      obtain ⟨u, h1, h2⟩ := rr.atI ed
      exact .inl ⟨a, ws, _, u, rfl, rfl, .of h, h1, k _ _ _ _ (.refl _) (e.dat h2) g⟩
    · exact g.elim
  · split at g
    · rename_i d ed
      obtain ⟨a, ws, rfl, h, rr⟩ := rx.tup
      rw [ry.int]
      obtain ⟨u, h1, h2⟩ := rr.atI ed
      exact .inr (.inl ⟨a, ws, _, u, rfl, rfl, seqT e.gle h, h1, k _ _ _ _ (.refl _) (e.dat h2) g⟩)
    · exact g.elim
  · split at g
    · rename_i c ec
      rw [rx.str, ry.int]
      exact .inr (.inr ⟨_, _, c, rfl, rfl, g.1, ec, k _ _ _ _ (.refl _) (e.dat (.str _)) g.2⟩)
    · exact g.elim
  · exact g.elim
def cutD (xs : List D) (lo hi : Option Int) : List D := (xs.drop (HT.sIx xs.length 0 lo)).take (HT.sIx xs.length xs.length hi - HT.sIx xs.length 0 lo)
theorem RpL.cut {K : PySem.W.Frag} {G : Hp} {vs : List V} {ds : List D} (r : RpL K G vs ds) (lo hi : Option Int) : RpL K G (cutV vs lo hi) (cutD ds lo hi) := by
  unfold cutV cutD
  rw [r.length]
  exact (r.drop _).take _
abbrev DPO := Env → (Option Int → Env → Prop) → Prop
def dNoP : DPO := fun ρ Q => Q none ρ
def dPart (t : DTE) : DPO := fun ρ Q => t ρ fun r ρ1 => match val ρ1 r with | some (.int i) => Q (some i) ρ1 | _ => False
def gSlice (x : D) (lo hi : Option Int) (P : Rs → Prop) : Prop := match x with
  | .lst xs => P (.nw (.ls (cutD xs lo hi)))
  | .tup xs => P (.dat (.tup (cutD xs lo hi)))
  | .str z => z.length ≤ sizeLine ∧ P (.dat (.str (cutS z lo hi)))
  | _ => False
def dSlice (t : DTE) (lo hi : DPO) : DTE := fun ρ Q => t ρ fun r ρ1 => lo ρ1 fun l ρ2 => hi ρ2 fun h ρ3 => W1 (val ρ3 (stl r)) fun x => gSlice x l h fun r' => Q r' ρ3
def liftO (K : PySem.W.Frag) (np : Np) (t : DPO) : TO := fun σ H Q => ∃ B G ρ Qd, np.ok B ∧ EnvOk K B G ρ σ H ∧ t ρ Qd ∧
  ∀ G' o ρ' H', Same G G' → EnvOk K B G' ρ' σ H' → Qd o ρ' → Q o H'
section
variable {X : Cx} {e : Expr} {lo hi : Option Expr} {t : DTE} {tl th : DPO} {np : Np} {pos p2 : Pos}
theorem _root_.L2.PO.mo {o : Option Expr} {t t' : TO} (h : PO X o t) (m : ∀ σ H Q, t' σ H Q → t σ H Q) : PO X o t' := ⟨fun pins s σ H Q I q => h.run pins s σ H Q I (m _ _ _ q)⟩
theorem d_nop : PO X none (liftO X.K np dNoP) := po_none.mo fun σ H Q ⟨B, G, ρ, Qd, hn, eo, h, k⟩ => k _ _ _ _ (.refl _) eo h
theorem d_part (h : PE X e (lift X.K np t)) : PO X (some e) (liftO X.K np (dPart t)) := by
  refine (po_some h).mo fun σ H Q h => ?_
  obtain ⟨B, G, ρ, Qd, hn, eo, h, k⟩ := h
  refine ⟨B, G, ρ, _, hn, eo, h, fun G1 v r ρ1 H1 s1 f1 q1 => ?_⟩
  obtain ⟨ω, e1, r1⟩ := f1
  split at q1
  · rename_i i ei
    exact ⟨i, (e1.rd r1 ei).int, k _ _ _ _ s1 ⟨ω, e1⟩ q1⟩
  · exact q1.elim
theorem d_slice (he : PE X e (lift X.K np t)) (hl : PO X lo (liftO X.K np tl)) (hh : PO X hi (liftO X.K np th)) : PE X (.Subscript e (.Slice lo hi none p2) pos) (lift X.K np (dSlice t tl th)) := by
  refine (pe_slice (sl_list.or (sl_tupA.or sl_str)) he hl hh).mo fun σ H Q h => ?_
  obtain ⟨B, G, ρ, Qd, hn, eo, h, k⟩ := h
  refine ⟨B, G, ρ, _, hn, eo, h, fun G1 v ra ρ1 H1 s1 f1 q1 => ?_⟩
  obtain ⟨G2, s2, f2⟩ := f1.stl
  refine ⟨B, G2, ρ1, _, hn, f2.env, q1, fun G3 l ρ2 H2 s3 e3 q2 => ⟨B, G3, ρ2, _, hn, e3, q2, fun G4 u ρ3 H3 s4 e4 q3 => ?_⟩⟩
  obtain ⟨x, ex, g⟩ := W1.of q3
  obtain ⟨ω2, e2, r2⟩ := f2
  obtain ⟨ω4, e4⟩ := e4
  have ra' : RsOk X.K G4 H3 ω4 σ v (stl ra) := by
    cases hr : stl ra with
    | dat d => rw [hr] at r2; exact Rp.mono (s3.trans s4) r2
    | sl i => rw [hr] at r2; exact r2
    | nw s =>
      cases ra with
      | dat d => cases hr
      | sl i => cases hr
      | nw s' =>
        cases s' with
        | ls _ => cases hr
        | dc _ => cases hr
        | un => cases ex
        | fr _ => cases ex
        | rs _ => cases ex
  have rx := e4.rd ra' ex
  have ss := ((s1.trans s2).trans s3).trans s4
  cases x with
  | lst xs =>
    obtain ⟨a, ws, rfl, h, rr⟩ := rx.lst e4.gle
    exact .inl ⟨a, ws, rfl, .of h, fun p hp => k _ _ _ _ _ ss (e4.newL hp (rr.cut l u)) g⟩
  | tup xs =>
    obtain ⟨a, ws, rfl, h, rr⟩ := rx.tup
    refine .inr (.inl ⟨a, ws, rfl, seqT e4.gle h, fun hw => ?_, fun _ p hp => ?_⟩)
    · have ec : cutD xs l u = xs := by
        unfold cutD
        rw [← rr.length, hw.1, hw.2, List.drop_zero, Nat.sub_zero, rr.length, List.take_length]
      have g' : Qd (.dat (.tup (cutD xs l u))) ρ3 := g
      rw [ec] at g'
      exact k _ _ _ _ _ ss (e4.dat (.tup h rr)) g'
    · obtain ⟨sg, f⟩ := e4.newT hp (rr.cut l u)
      exact k _ _ _ _ _ (ss.trans sg) f g
  | str z =>
    rw [rx.str]
    exact .inr (.inr ⟨z, rfl, g.1, k _ _ _ _ _ ss (e4.dat (.str _)) g.2⟩)
  | _ => exact g.elim
def gRev : DOp1 := fun x P => match x with
  | .lst xs => P (.nw (.ls xs.reverse))
  | _ => False
theorem d_rev {k : Nat} {p1 p2 p3 : Pos} (he : PE X e (lift X.K np t)) : PE X (.Subscript e (.Slice none none (some (.UnaryOp .USub (.Constant (.int 1) k p1) p2)) p3) pos) (lift X.K np (dUn gRev t)) := by
  refine (pe_revL he).mo fun σ H Q h => ?_
  obtain ⟨B, G, ρ, Qd, hn, eo, h, k⟩ := h
  refine ⟨B, G, ρ, _, hn, eo, h, fun G1 v ra ρ1 H1 s1 f1 q1 => ?_⟩
  obtain ⟨x, ex, q1⟩ := W1.of q1
  obtain ⟨ω, e1, r1⟩ := f1
  have rx := e1.rd r1 ex
  cases x with
  | lst xs =>
    obtain ⟨a, ws, rfl, h, rr⟩ := rx.lst e1.gle
    exact ⟨a, ws, rfl, .of h, fun p hp => k _ _ _ _ _ s1 (e1.newL hp rr.reverse) q1⟩
  | _ => exact q1.elim
theorem d_ix {a b : Expr} {ta tb : DTE} (ha : PE X a (lift X.K np ta)) (hb : PE X b (lift X.K np tb)) (hs : PlainIx b := by exact fun _ _ => rfl) : PE X (.Subscript a b pos) (lift X.K np (dBin gIx ta tb)) :=
  (pe_ix ix_seq ha hb hs).mo fun σ H Q h => two_ok (c_ix X.K) σ H Q h
end
def dM1 (g : DOp2) (t u : DTE) : DTE := fun ρ Q => t ρ fun r ρ1 => W1 (val ρ1 (stl r)) fun x => (∃ a, x = .str a) ∧ u ρ1 fun ru ρ2 => W1 (val ρ2 ru) fun y => g x y fun r' => Q r' ρ2
section
variable {X : Cx} {o e : Expr} {to te : DTE} {np : Np} {apos pos : Pos} {id : String} {name : Str}
theorem d_m1 {r : V → List V → Hp → VK → Prop} {g : DOp2} (slot : Slot "str" name id) (ty : typeOf (.builtin id) = pure (.type "method_descriptor")) (rule : MtR X id r) (hc : C2 np X.K (fun v w H Q => r v [w] H Q) g) (ho : PE X o (lift X.K np to)) (he : PE X e (lift X.K np te))
    (hs : starEach [e] X.env = [(false, eval e X.env)] := by rfl) (hbase : attributeBase o name X.env (eval o X.env) = eval o X.env := by rfl) (hline : (apos.endLine == pos.line) = true := by rfl) :
    PE X (.Call (.Attribute o name apos) [e] [] pos) (lift X.K np (dM1 g to te)) := by
  refine (pe_m1 slot ty rule ho he hs hbase hline).mo fun σ H Q h => ?_
  obtain ⟨B, G, ρ, Qd, hn, eo, h, k⟩ := h
  refine ⟨B, G, ρ, _, hn, eo, h, fun G1 v ra ρ1 H1 s1 f1 q1 => ?_⟩
  obtain ⟨G2, s2, f2⟩ := f1.stl
  obtain ⟨x, ex, ⟨a, rfl⟩, q1⟩ := W1.of q1
  obtain ⟨ω2, e2, r2⟩ := f2
  have rx := e2.rd r2 ex
  have ev := rx.str
  subst ev
  refine ⟨⟨a, rfl⟩, B, G2, ρ1, _, hn, ⟨ω2, e2⟩, q1, fun G3 w rb ρ2 H2 s3 f3 q2 => ?_⟩
  obtain ⟨y, ey, q2⟩ := W1.of q2
  obtain ⟨ω3, e3, r3⟩ := f3
  exact hc hn e3 (Rp.str a).rd (e3.rd r3 ey) q2 fun G' v' r' H' s f p => k _ _ _ _ _ (((s1.trans s2).trans s3).trans s) f p
end
def gJoin : DOp2 := fun x y P => match x, y with
  | .str a, .lst ys => (match txs ys with | some bs => (bs.map (·.length)).sum + bs.length * a.length ≤ 16777216 ∧ P (.dat (.str (Txt.join a bs))) | none => False)
  | .str a, .tup ys => (match txs ys with | some bs => (bs.map (·.length)).sum + bs.length * a.length ≤ 16777216 ∧ P (.dat (.str (Txt.join a bs))) | none => False)
  | _, _ => False
theorem c_join (K : PySem.W.Frag) : C2 np K (fun v w H Q => ∃ a p, ∃ ys : List Str, v = .str a ∧ [w] = [.ref p] ∧ (SqL K H p (ys.map V.str) ∨ SqT K H p (ys.map V.str)) ∧ (ys.map (·.length)).sum + ys.length * a.length ≤ 16777216 ∧ Q (.str (Txt.join a ys)) H) gJoin := by
  intro B G ω ρ σ H v w x y P Q hn e rx ry g k
  unfold gJoin at g
  split at g
  · split at g
    · rename_i bs eb
      rw [rx.str]
      obtain ⟨p, ws, rfl, h, rr⟩ := ry.lst e.gle
      cases txs_eq eb
      cases rr.strs_eq
      exact ⟨_, p, bs, rfl, rfl, .inl (.of h), g.1, k _ _ _ _ (.refl _) (e.dat (.str _)) g.2⟩
    · exact g.elim
  · split at g
    · rename_i bs eb
      rw [rx.str]
      obtain ⟨p, ws, rfl, h, rr⟩ := ry.tup
      cases txs_eq eb
      cases rr.strs_eq
      exact ⟨_, p, bs, rfl, rfl, .inr (seqT e.gle h), g.1, k _ _ _ _ (.refl _) (e.dat (.str _)) g.2⟩
    · exact g.elim
  · exact g.elim
end TL
namespace TL
variable {np : Np}
open PySem PySem.Spec PyProof.Rows L2
section
variable {X : Cx} {a b c : Expr} {ta tb tc : DTE} {np : Np} {pos : Pos}
theorem chain_ok {r r' : R2} {g g' : DOp2} (hg : C2 np X.K r g) (hg' : C2 np X.K r' g') (σ : Stt) (H : Hp) (Q : VK) (h : lift X.K np (dChain g g' ta tb tc) σ H Q) : tChain r r' (lift X.K np ta) (lift X.K np tb) (lift X.K np tc) σ H Q := by
  obtain ⟨B, G, ρ, Qd, hn, eo, h, k⟩ := h
  refine ⟨B, G, ρ, _, hn, eo, h, fun G1 v ra ρ1 H1 s1 f1 q1 => ?_⟩
  obtain ⟨G2, s2, f2⟩ := f1.stl
  refine ⟨B, G2, ρ1, _, hn, f2.env, q1, fun G3 w rb ρ2 H2 s3 f3 q2 => ?_⟩
  obtain ⟨G4, s4, f4⟩ := f3.stl
  obtain ⟨x, y, ex, ey, q2⟩ := W2.of q2
  obtain ⟨ω2, e2, r2⟩ := f2
  obtain ⟨ω4, e4, r4⟩ := f4
  have keep : ∀ {G G' : Hp} {H' : Hp} {ω ω' : Own} {H0 : Hp} {v : V} {r : Rs} {ρ : Env} {x : D}, Same G G' → RsOk X.K G H0 ω σ v (stl r) → val ρ (stl r) = some x → RsOk X.K G' H' ω' σ v (stl r) := by
    intro G G' H' ω ω' H0 v r ρ x s h hv
    cases hr : stl r with
    | dat d => rw [hr] at h; exact Rp.mono s h
    | sl i => rw [hr] at h; exact h
    | nw s =>
      cases r with
      | dat d => cases hr
      | sl i => cases hr
      | nw s' =>
        cases s' with
        | ls _ => cases hr
        | dc _ => cases hr
        | un => cases hv
        | fr _ => cases hv
        | rs _ => cases hv
  refine hg hn e4 (e4.rd (keep (s3.trans s4) r2 ex) ex) (e4.rd r4 ey) q2 fun G5 v5 r5 H5 s5 f5 p5 => ?_
  obtain ⟨ω5, e5, q5⟩ := f5
  cases r5 with
  | dat d =>
    cases d with
    | bl bb =>
      have ev : v5 = .bl bb := RdV.bl (.inl q5) (H := H5)
      refine ⟨bb, ev, ?_⟩
      cases bb with
      | true =>
        refine iteT ⟨B, G5, ρ2, _, hn, ⟨ω5, e5⟩, p5, fun G6 u rc ρ3 H3 s6 f6 q6 => ?_⟩
        obtain ⟨y', z, ey', ez, q6⟩ := W2.of q6
        obtain ⟨ω6, e6, r6⟩ := f6
        exact hg' hn e6 (e6.rd (keep (s5.trans s6) r4 ey) ey') (e6.rd r6 ez) q6 fun G' v' r' H' s f p => k _ _ _ _ _ ((((((s1.trans s2).trans s3).trans s4).trans s5).trans s6).trans s) f p
      | false => exact iteF (k _ _ _ _ _ ((((s1.trans s2).trans s3).trans s4).trans s5) (e5.dat (.bl false)) p5)
    | _ => exact p5.elim
  | _ => exact p5.elim
theorem d_chainT {op op' : CmpOp} {r r' : R2} {g g' : DOp2} (ho : OpR X (compareOp op) r) (ho' : OpR X (compareOp op') r') (hg : C2 np X.K r g) (hg' : C2 np X.K r' g') (ha : PE X a (lift X.K np ta)) (hb : PE X b (lift X.K np tb)) (hc : PE X c (lift X.K np tc))
    (hm : lastMarks [op, op'] [b, c] = false := by with_unfolding_all rfl) : PT X (.Compare a [op, op'] [b, c] pos) (liftT X.K np (dTst (dChain g g' ta tb tc))) :=
  (pt_chain ho ho' ha hb hc hm).mo fun σ H Q h => tst_ok (fun σ H Q h => chain_ok hg hg' σ H Q h) σ H Q h
end
section
variable {K : PySem.W.Frag} {B : Bs} {G : Hp} {ω : Own} {ρ : Env} {σ : Stt} {H : Hp} {v : V}
theorem retag_i {i j : Nat} {a : Addr} (h : ω a = some i) : retag ω i j a = some j := by unfold retag; rw [if_pos h]
theorem retag_some {i j l : Nat} {a : Addr} (h : retag ω i j a = some l) : (l = j ∧ ω a = some i) ∨ (ω a = some l ∧ l ≠ j ∧ l ≠ i) := by
  unfold retag at h
  split at h
  · rename_i q; exact .inl ⟨(Option.some.inj h).symm, q⟩
  · rename_i n1
    split at h
    · cases h
    · rename_i n2
      exact .inr ⟨h, fun z => n2 (z ▸ h), fun z => n1 (z ▸ h)⟩
theorem retag_ne {i j l : Nat} {a : Addr} (h : ω a = some l) (hi : l ≠ i) (hj : l ≠ j) : retag ω i j a = some l := by
  unfold retag
  rw [if_neg (fun z => by rw [h] at z; exact hi (Option.some.inj z)), if_neg (fun z => by rw [h] at z; exact hj (Option.some.inj z))]
  exact h
theorem EnvW.setD (e : EnvW K B G ω ρ σ H) {i : Nat} {d : D} (r : Rp K G v d) : EnvOk K B G (ρ.set i (.fr d)) (σ.set i (some v)) H := by
  refine ⟨untag ω i, e.gle, e.g0, e.keep, fun a j q => e.own a j (untag_some q).1, by rw [List.length_set, List.length_set]; exact e.len, fun j s q => ?_, fun j s w q o p => ?_⟩
  · by_cases hj : j = i
    · subst hj
      have hl : j < ρ.length := by have := (List.getElem?_eq_some_iff.mp q).1; rwa [List.length_set] at this
      rw [List.getElem?_set_self hl] at q
      cases q
      exact ⟨v, List.getElem?_set_self (by rw [← e.len]; exact hl), r⟩
    · rw [List.getElem?_set_ne (Ne.symm hj)] at q
      rw [List.getElem?_set_ne (Ne.symm hj)]
      exact (e.slot j s q).mono (.refl _) fun a z => ⟨untag_ne hj z, rfl⟩
  · by_cases hj : j = i
    · subst hj
      have hl : j < ρ.length := by have := (List.getElem?_eq_some_iff.mp q).1; rwa [List.length_set] at this
      rw [List.getElem?_set_self hl] at q
      cases q
      cases o
    · rw [List.getElem?_set_ne (Ne.symm hj)] at q
      rw [List.getElem?_set_ne (Ne.symm hj)]
      exact e.pin j s w q o p
theorem SlOk.ov {F : Addr → Prop} {ov ov' : Option (Option V)} {s : Sl} (h : SlOk K G H F ov s) (e : ov' = ov) : SlOk K G H F ov' s := by subst e; exact h
theorem EnvW.setN (e : EnvW K B G ω ρ σ H) {i : Nat} {s : Sl} (o : s.own = true) (h : SlOk K G H (fun a => ω a = some σ.length) (some (some v)) s) (hp : B.P.length ≤ i) : EnvOk K B G (ρ.set i s) (σ.set i (some v)) H := by
  refine ⟨retag ω σ.length i, e.gle, e.g0, e.keep, fun a j q => ?_, by rw [List.length_set, List.length_set]; exact e.len, fun j s' q => ?_, fun j s' w q o' p => ?_⟩
  · rcases retag_some q with ⟨_, q⟩ | ⟨q, _⟩
    · exact e.own a _ q
    · exact e.own a _ q
  · by_cases hj : j = i
    · subst hj
      have hl : j < ρ.length := by have := (List.getElem?_eq_some_iff.mp q).1; rwa [List.length_set] at this
      rw [List.getElem?_set_self hl] at q
      cases q
      exact (h.mono (.refl _) fun a z => ⟨retag_i z, rfl⟩).ov (List.getElem?_set_self (by rw [← e.len]; exact hl))
    · have hl : j < ρ.length := by have := (List.getElem?_eq_some_iff.mp q).1; rwa [List.length_set] at this
      have := e.len
      rw [List.getElem?_set_ne (Ne.symm hj)] at q
      rw [List.getElem?_set_ne (Ne.symm hj)]
      exact (e.slot j s' q).mono (.refl _) fun a z => ⟨retag_ne z (by omega) hj, rfl⟩
  · by_cases hj : j = i
    · subst hj
      have : j < B.P.length := (List.getElem?_eq_some_iff.mp p).1
      omega
    · rw [List.getElem?_set_ne (Ne.symm hj)] at q
      rw [List.getElem?_set_ne (Ne.symm hj)]
      exact e.pin j s' w q o' p
theorem EnvW.mutL (e : EnvW K B G ω ρ σ H) {i : Nat} {xs ys : List D} {p : Addr} {ws : List V} (hs : ρ[i]? = some (.ls xs)) (hv : σ[i]? = some (some (.ref p))) (r : RpL K G ws ys) :
    G p = none ∧ (∃ vs, H p = some (.lst vs) ∧ RpL K G vs xs) ∧ EnvW K B G ω (ρ.set i (.ls ys)) σ (upd H p (.lst ws)) := by
  obtain ⟨p', vs, e1, hp, h1, r1⟩ := e.slot i _ hs
  rw [hv] at e1
  cases e1
  obtain ⟨g1, g2, g3⟩ := e.own p i hp
  refine ⟨g1, ⟨vs, h1, r1⟩, ⟨fun a o q => ?_, e.g0, e.keep.upd g3, fun a j q => ?_, by rw [List.length_set]; exact e.len, fun j s q => ?_, fun j s w q o' pp => ?_⟩⟩
  · rw [upd_ne (fun z => by subst z; rw [g1] at q; cases q)]; exact e.gle _ _ q
  · obtain ⟨h1', h2, h3⟩ := e.own a j q
    refine ⟨h1', ?_, h3⟩
    by_cases ha : a = p
    · subst ha; rw [upd_same]; simp
    · rw [upd_ne ha]; exact h2
  · by_cases hj : j = i
    · subst hj
      have hl : j < ρ.length := by have := (List.getElem?_eq_some_iff.mp q).1; rwa [List.length_set] at this
      rw [List.getElem?_set_self hl] at q
      cases q
      exact ⟨p, ws, hv, hp, upd_same, r⟩
    · rw [List.getElem?_set_ne (Ne.symm hj)] at q
      exact (e.slot j s q).mono (.refl _) fun a z => ⟨z, upd_ne fun w => by subst w; rw [hp] at z; exact hj (Option.some.inj z).symm⟩
  · by_cases hj : j = i
    · subst hj
      have hl : j < ρ.length := by have := (List.getElem?_eq_some_iff.mp q).1; rwa [List.length_set] at this
      exact e.pin j _ w hs rfl pp
    · rw [List.getElem?_set_ne (Ne.symm hj)] at q
      exact e.pin j s w q o' pp
end
def dNext : DTS := fun D ρ => D.nx ρ
def dSeq (t u : DTS) : DTS := fun D ρ => t { D with nx := u D } ρ
def dRet (t : DTE) : DTS := fun D ρ => t ρ D.rt
def dDrop (t : DTE) : DTS := fun D ρ => t ρ fun _ ρ1 => D.nx ρ1
def dIf (c : DTT) (t u : DTS) : DTS := fun D ρ => c ρ fun b ρ1 => if b = true then t D ρ1 else u D ρ1
def dNever : DTS := fun _ _ => False
def dPut (np i : Nat) (r : Rs) (ρ : Env) (k : Env → Prop) : Prop := match r with
  | .dat d => k (ρ.set i (.fr d))
  | .nw s => np ≤ i ∧ k (ρ.set i s)
  | .sl _ => False
def dSet (np i : Nat) (t : DTE) : DTS := fun D ρ => t ρ fun r ρ1 => dPut np i r ρ1 D.nx
abbrev DTG := D → Env → (Env → Prop) → Prop
abbrev DTGs := List D → Env → (Env → Prop) → Prop
def hName (i : Nat) : DTG := fun d ρ k => k (ρ.set i (.fr d))
def hNil : DTGs := fun ds ρ k => ds = [] ∧ k ρ
def hCons (t : DTG) (u : DTGs) : DTGs := fun ds ρ k => match ds with
  | d :: r => t d ρ fun ρ1 => u r ρ1 k
  | [] => False
def hTup (n : Nat) (t : DTGs) : DTG := fun d ρ k => match d with
  | .tup xs => xs.length = n ∧ t xs ρ k
  | _ => False
def dAsg (t : DTE) (g : DTG) : DTS := fun D ρ => t ρ fun r ρ1 => match stl r with
  | .dat d => g d ρ1 D.nx
  | _ => False
def Off (vs : List Nat) (σ σ' : Stt) : Prop := σ'.length = σ.length ∧ ∀ j, j ∉ vs → σ'[j]? = σ[j]?
theorem Off.refl (vs : List Nat) (σ : Stt) : Off vs σ σ := ⟨rfl, fun _ _ => rfl⟩
theorem Off.trans {vs : List Nat} {σ σ1 σ2 : Stt} (a : Off vs σ σ1) (b : Off vs σ1 σ2) : Off vs σ σ2 := ⟨b.1.trans a.1, fun j h => (b.2 j h).trans (a.2 j h)⟩
theorem Off.mono {vs ws : List Nat} {σ σ' : Stt} (a : Off vs σ σ') (h : ∀ j ∈ vs, j ∈ ws) : Off ws σ σ' := ⟨a.1, fun j q => a.2 j fun z => q (h j z)⟩
theorem wipe_get {σ : Stt} : ∀ {vs : List Nat} {j : Nat}, (wipe σ vs)[j]? = if j ∈ vs ∧ j < σ.length then some none else σ[j]?
  | [], j => by simp [wipe]
  | v :: vs, j => by
    unfold wipe
    by_cases hj : j = v
    · subst hj
      by_cases hl : j < σ.length
      · rw [List.getElem?_set_self (by rw [wipe_length]; exact hl), if_pos ⟨List.mem_cons_self, hl⟩]
      · rw [if_neg (fun z => hl z.2), List.getElem?_eq_none (by rw [List.length_set, wipe_length]; omega), List.getElem?_eq_none (by omega)]
    · rw [List.getElem?_set_ne (Ne.symm hj), wipe_get]
      simp [hj]
theorem Off.wipe {vs : List Nat} {σ σ' : Stt} (h : Off vs σ σ') : L2.wipe σ' vs = L2.wipe σ vs := by
  apply List.ext_getElem?
  intro j
  rw [wipe_get, wipe_get, h.1]
  by_cases hj : j ∈ vs
  · by_cases hl : j < σ.length
    · rw [if_pos ⟨hj, hl⟩, if_pos ⟨hj, hl⟩]
    · rw [if_neg (fun z => hl z.2), if_neg (fun z => hl z.2), List.getElem?_eq_none (by rw [h.1]; omega), List.getElem?_eq_none (by omega)]
  · rw [if_neg (fun z => hj z.1), if_neg (fun z => hj z.1), h.2 j hj]
def liftG (K : PySem.W.Frag) (np : Np) (vs : List Nat) (g : DTG) : TG := fun v σ H Q => ∃ B G ρ d kd, np.ok B ∧ EnvOk K B G ρ σ H ∧ Rp K G v d ∧ g d ρ kd ∧
  ∀ ρ' σ' , EnvOk K B G ρ' σ' H → Off vs σ σ' → kd ρ' → Q σ' H
def liftGs (K : PySem.W.Frag) (np : Np) (vs : List Nat) (g : DTGs) : TGs := fun xs σ H Q => ∃ B G ρ ds kd, np.ok B ∧ EnvOk K B G ρ σ H ∧ RpL K G xs ds ∧ g ds ρ kd ∧
  ∀ ρ' σ' , EnvOk K B G ρ' σ' H → Off vs σ σ' → kd ρ' → Q σ' H
section
variable {X : Cx} {e c o : Expr} {es : List Expr} {st : Stmt} {sts : List Stmt} {te : DTE} {tc : DTT} {t u : DTS} {np : Np} {pos pos' : Pos}
theorem _root_.L2.PG.mo {g : Expr} {t t' : TG} (h : PG X g t) (m : ∀ v σ H Q, t' v σ H Q → t v σ H Q) : PG X g t' := ⟨fun pins s σ H v u Q I r q => h.run pins s σ H v u Q I r (m _ _ _ _ q)⟩
theorem _root_.L2.PGs.mo {g : List Expr} {t t' : TGs} (h : PGs X g t) (m : ∀ v σ H Q, t' v σ H Q → t v σ H Q) : PGs X g t' := ⟨fun pins s σ H v u Q I r q => h.run pins s σ H v u Q I r (m _ _ _ _ q)⟩
theorem ds_nil : PSs X [] (liftS X.K np dNext) := pss_nil.mo fun D σ H ⟨B, G, ρ, Dd, hn, eo, h, k, _⟩ => k _ _ _ _ (.refl _) eo h
theorem ds_cons (h1 : PS X st (liftS X.K np t)) (h2 : PSs X sts (liftS X.K np u)) : PSs X (st :: sts) (liftS X.K np (dSeq t u)) := by
  refine (pss_cons h1 h2).mo fun D σ H h => ?_
  obtain ⟨B, G, ρ, Dd, hn, eo, h, k1, k2, k3, k4⟩ := h
  refine ⟨B, G, ρ, _, hn, eo, h, fun G1 ρ1 σ1 H1 s1 e1 q1 => ?_, k2, k3, k4⟩
  exact ⟨B, G1, ρ1, Dd, hn, e1, q1, fun G' ρ' σ' H' s e q => k1 _ _ _ _ (s1.trans s) e q, fun G' v r ρ' σ' H' s e q => k2 _ _ _ _ _ _ (s1.trans s) e q, fun G' ρ' σ' H' s e q => k3 _ _ _ _ (s1.trans s) e q, fun G' ρ' σ' H' s e q => k4 _ _ _ _ (s1.trans s) e q⟩
theorem ds_one (h1 : PS X st (liftS X.K np t)) : PSs X [st] (liftS X.K np t) := pss_one h1
theorem ds_ret (h : PE X e (lift X.K np te)) : PS X (.Return (some e) pos) (liftS X.K np (dRet te)) :=
  (ps_ret h).mo fun D σ H ⟨B, G, ρ, Dd, hn, eo, h, k1, k2, k3, k4⟩ => ⟨B, G, ρ, _, hn, eo, h, fun G' v r ρ' H' s f q => k2 _ _ _ _ _ _ s f q⟩
theorem ds_expr (h : PE X e (lift X.K np te)) (hs : swapsWith e none pos.line X.env = pure false := by rfl) : PS X (.Expr e pos) (liftS X.K np (dDrop te)) :=
  (ps_expr h hs).mo fun D σ H ⟨B, G, ρ, Dd, hn, eo, h, k1, k2, k3, k4⟩ => ⟨B, G, ρ, _, hn, eo, h, fun G' v r ρ' H' s f q => k1 _ _ _ _ s f.env q⟩
theorem ds_if (hc : PT X c (liftT X.K np tc)) {sa sb : List Stmt} (ha : PSs X sa (liftS X.K np t)) (hb : PSs X sb (liftS X.K np u)) : PS X (.If c sa sb pos) (liftS X.K np (dIf tc t u)) := by
  refine (ps_if hc ha hb).mo fun D σ H h => ?_
  obtain ⟨B, G, ρ, Dd, hn, eo, h, k1, k2, k3, k4⟩ := h
  refine ⟨B, G, ρ, _, hn, eo, h, fun G1 c ρ1 H1 s1 e1 q1 => ?_⟩
  cases c with
  | true => exact iteT ⟨B, G1, ρ1, Dd, hn, e1, q1, fun G' ρ' σ' H' s e q => k1 _ _ _ _ (s1.trans s) e q, fun G' v r ρ' σ' H' s e q => k2 _ _ _ _ _ _ (s1.trans s) e q, fun G' ρ' σ' H' s e q => k3 _ _ _ _ (s1.trans s) e q, fun G' ρ' σ' H' s e q => k4 _ _ _ _ (s1.trans s) e q⟩
  | false => exact iteF ⟨B, G1, ρ1, Dd, hn, e1, q1, fun G' ρ' σ' H' s e q => k1 _ _ _ _ (s1.trans s) e q, fun G' v r ρ' σ' H' s e q => k2 _ _ _ _ _ _ (s1.trans s) e q, fun G' ρ' σ' H' s e q => k3 _ _ _ _ (s1.trans s) e q, fun G' ρ' σ' H' s e q => k4 _ _ _ _ (s1.trans s) e q⟩
theorem ds_never : PS X st (liftS X.K np dNever) := ps_never.mo fun _ _ _ ⟨_, _, _, _, _, _, h, _⟩ => h
theorem put_ok {B : Bs} {G : Hp} {ρ : Env} {σ : Stt} {H : Hp} {v : V} {r : Rs} {i : Nat} {k : Env → Prop} (hn : np.ok B) (f : Fin X.K B G ρ σ H v r) (h : dPut np.n i r ρ k) : ∃ ρ', EnvOk X.K B G ρ' (σ.set i (some v)) H ∧ k ρ' := by
  obtain ⟨ω, e, q⟩ := f
  cases r with
  | dat d => exact ⟨_, e.setD q, h⟩
  | sl j => exact h.elim
  | nw s => exact ⟨_, e.setN q.1 q.2 (by rw [hn.1]; exact h.1), h.2⟩
theorem ds_set (i : Nat) {x : Str} (hN : X.N.Nodup) (h : PE X e (lift X.K np te)) (hi : X.N[i]? = some x := by rfl) (hx : Loc X.env.scope x := by first | exact Or.inl rfl | exact Or.inr rfl)
    (hs : swapsWith e (some (.Name x pos')) pos.line X.env = pure false := by rfl) (hf : X.fn x = true ∨ X.env.scope.names.lookup x = some .local := by first | exact .inl rfl | exact .inr rfl) :
    PS X (.Assign [.Name x pos'] e pos) (liftS X.K np (dSet np.n i te)) := by
  refine (ps_set (i := i) hN hi hx h hs hf).mo fun D σ H h => ?_
  obtain ⟨B, G, ρ, Dd, hn, eo, h, k1, k2, k3, k4⟩ := h
  refine ⟨B, G, ρ, _, hn, eo, h, fun G1 v r ρ1 H1 s1 f1 q1 => ?_⟩
  obtain ⟨ρ', e', q⟩ := put_ok hn f1 q1
  exact k1 _ _ _ _ s1 e' q
theorem dg_name (i : Nat) {x : Str} (hN : X.N.Nodup) (hi : X.N[i]? = some x := by rfl) (hx : Loc X.env.scope x := by first | exact Or.inl rfl | exact Or.inr rfl) (hf : X.fn x = true ∨ X.env.scope.names.lookup x = some .local := by first | exact .inl rfl | exact .inr rfl) :
    PG X (.Name x pos) (liftG X.K np [i] (hName i)) := by
  refine (pg_name (i := i) hN hi hx hf).mo fun v σ H Q h => ?_
  obtain ⟨B, G, ρ, d, kd, hn, ⟨ω, eo⟩, r, h, k⟩ := h
  exact k _ _ (eo.setD r) ⟨List.length_set .., fun j hj => List.getElem?_set_ne (fun z => hj (by simp [z]))⟩ h
theorem dg_nil : PGs X [] (liftGs X.K np [] hNil) := by
  refine pgs_nil.mo fun vs σ H Q h => ?_
  obtain ⟨B, G, ρ, ds, kd, hn, eo, r, h, k⟩ := h
  obtain ⟨rfl, h⟩ := h
  cases r
  exact ⟨rfl, k _ _ eo (.refl _ _) h⟩
theorem dg_cons {vs ws : List Nat} {g : DTG} {gs : DTGs} (h1 : PG X e (liftG X.K np vs g)) (h2 : PGs X es (liftGs X.K np ws gs)) (hs : (assignEach (e :: es) X.env).map (·.2) = assign e X.env :: (assignEach es X.env).map (·.2) := by rfl) :
    PGs X (e :: es) (liftGs X.K np (vs ++ ws) (hCons g gs)) := by
  refine (pgs_cons h1 h2 hs).mo fun xs σ H Q h => ?_
  obtain ⟨B, G, ρ, ds, kd, hn, eo, r, h, k⟩ := h
  cases r with
  | nil => exact h.elim
  | cons r rr =>
    refine ⟨_, _, rfl, B, G, ρ, _, _, hn, eo, r, h, fun ρ1 σ1 e1 o1 q1 => ?_⟩
    exact ⟨B, G, ρ1, _, _, hn, e1, rr, q1, fun ρ2 σ2 e2 o2 q2 => k _ _ e2 ((o1.mono fun j hj => List.mem_append_left _ hj).trans (o2.mono fun j hj => List.mem_append_right _ hj)) q2⟩
theorem dg_tup {vs : List Nat} {gs : DTGs} {kk n : Nat} (hc : X.calm = true) (h : PGs X es (liftGs X.K np vs gs)) (hn : (assignEach es X.env).length = n := by rfl) (hst : (assignEach es X.env).findIdx? (·.1) = none := by rfl) :
    PG X (.Tuple es kk pos) (liftG X.K np vs (hTup n gs)) := by
  refine (pg_tup hc h hn hst).mo fun v σ H Q h => ?_
  obtain ⟨B, G, ρ, d, kd, hp, ⟨ω, eo⟩, r, h, k⟩ := h
  cases d with
  | tup xs =>
    obtain ⟨a, ws, rfl, ht, rr⟩ := (Rp.rd (H := H) r).tup
    exact ⟨a, ws, rfl, seqT eo.gle ht, by rw [rr.length]; exact h.1, B, G, ρ, xs, kd, hp, ⟨ω, eo⟩, rr, h.2, k⟩
  | _ => exact h.elim
theorem ds_asg {tg : Expr} {g : DTG} {vs : List Nat} (he : PE X e (lift X.K np te)) (hg : PG X tg (liftG X.K np vs g)) (hs : swapsWithSole [tg] e pos.line X.env = pure false := by rfl) (hw : swappedStores [tg] e X.env = pure none := by rfl)
    (h1 : (assignEach [tg] X.env).map (·.2) = [assign tg X.env] := by rfl) : PS X (.Assign [tg] e pos) (liftS X.K np (dAsg te g)) := by
  refine (ps_asg he hg hs hw h1).mo fun D σ H h => ?_
  obtain ⟨B, G, ρ, Dd, hn, eo, h, k1, k2, k3, k4⟩ := h
  refine ⟨B, G, ρ, _, hn, eo, h, fun G1 v r ρ1 H1 s1 f1 q1 => ?_⟩
  obtain ⟨G2, s2, f2⟩ := f1.stl
  cases hr : stl r with
  | dat d =>
    rw [hr] at q1 f2
    obtain ⟨ω, e2, r2⟩ := f2
    exact ⟨B, G2, ρ1, d, _, hn, ⟨ω, e2⟩, r2, q1, fun ρ' σ' e' _ q => k1 _ _ _ _ (s1.trans s2) e' q⟩
  | sl i => rw [hr] at q1; exact q1.elim
  | nw s => rw [hr] at q1; exact q1.elim
end
end TL
namespace TL
open PySem PySem.Spec PyProof.Rows L2
section
variable {K : PySem.W.Frag} {B : Bs} {G G' : Hp} {ω ω' : Own} {ρ ρ' : Env} {σ σ' : Stt} {H H' : Hp}
def cutO (ω : Own) (n : Nat) : Own := fun a => match ω a with
  | some i => if i < n then some i else none
  | none => none
theorem cutO_some {n i : Nat} {a : Addr} (h : cutO ω n a = some i) : ω a = some i ∧ i < n := by
  unfold cutO at h
  split at h
  · rename_i j hj
    split at h
    · rename_i hl
      cases h
      exact ⟨hj, hl⟩
    · cases h
  · cases h
theorem cutO_lt {n i : Nat} {a : Addr} (h : ω a = some i) (hi : i < n) : cutO ω n a = some i := by
  unfold cutO
  rw [h]
  exact if_pos hi
theorem EnvW.rebase (e : EnvW K B G ω ρ σ H) : EnvW K (reB B G ω ρ.length H) G (cutO ω ρ.length) ρ σ H where
  gle := e.gle
  g0 := fun a o q => .inl q
  keep := {
    old := fun a o q _ _ => q
    tin := fun a t => by
      obtain ⟨h1, h2, ps, h3⟩ := e.tab t
      refine ⟨h1, ?_, ps, h3⟩
      rintro ⟨i, _, z⟩
      rw [h2] at z; cases z
    tabs := e.keep.tabs }
  own := fun a i q => by
    obtain ⟨q1, q2⟩ := cutO_some q
    obtain ⟨h1, h2, _⟩ := e.own a i q1
    exact ⟨h1, h2, .inl ⟨i, q2, q1⟩⟩
  len := e.len
  slot := fun i s q => (e.slot i s q).mono (.refl _) fun a z => ⟨cutO_lt z (List.getElem?_eq_some_iff.mp q).1, rfl⟩
  pin := e.pin
theorem EnvW.still {n : Nat} {D : Addr} {o : HO} (f : EnvW K (reB B G ω n H) G' ω' ρ' σ' H') (hD : H D = some o) (hw : ω D = none) (hg : G D = none) (ht : ∀ ps, o ≠ .tbl ps := by intro _ z; cases z) : H' D = some o ∧ ω' D = none ∧ G' D = none := by
  have na : ¬ (reB B G ω n H).A0 D := fun ⟨i, _, z⟩ => by rw [hw] at z; cases z
  have nt : ¬ (reB B G ω n H).tab D := fun t => by
    obtain ⟨_, _, ps, h3⟩ := f.keep.tin D t
    rw [show (reB B G ω n H).H0 D = H D from rfl, hD] at h3
    exact ht ps (Option.some.inj h3)
  refine ⟨f.keep.old D o hD na nt, ?_, ?_⟩
  · cases q : ω' D with
    | none => rfl
    | some i =>
      rcases (f.own D i q).2.2 with z | z
      · exact absurd z na
      · rw [show (reB B G ω n H).H0 D = H D from rfl, hD] at z; cases z
  · cases q : G' D with
    | none => rfl
    | some u =>
      rcases f.g0 D u q with z | z | z
      · rw [show (reB B G ω n H).G0 D = G D from rfl, hg] at z; cases z
      · rw [show (reB B G ω n H).H0 D = H D from rfl, hD] at z; cases z
      · exact absurd z na
theorem EnvW.poke (e : EnvW K B G ω ρ σ H) {D : Addr} {o : HO} (hw : ω D = none) (hg : G D = none) (h0 : B.A0 D ∨ B.H0 D = none) : EnvW K B G ω ρ σ (upd H D o) where
  gle := fun a u q => by rw [upd_ne (fun z => by subst z; rw [hg] at q; cases q)]; exact e.gle _ _ q
  g0 := e.g0
  keep := e.keep.upd h0
  own := fun a i q => by
    obtain ⟨h1, h2, h3⟩ := e.own a i q
    refine ⟨h1, ?_, h3⟩
    rw [upd_ne (fun z => by subst z; rw [hw] at q; cases q)]
    exact h2
  len := e.len
  slot := fun i s q => (e.slot i s q).mono (.refl _) fun a z => ⟨z, upd_ne fun y => by subst y; rw [hw] at z; cases z⟩
  pin := e.pin
end
abbrev DTI := Env → (List D → Env → Prop) → Prop
structure ItD (K : PySem.W.Frag) (J : It) (G : Hp) (ds : List D) : Prop where
  go : ∀ i H d, Same G H → ds[i]? = some d → J.go i H ∧ ∀ x H', J.yld i H x H' → (H' = H ∧ Rp K G x d) ∨ (∃ T vs es, H T = none ∧ x = .ref T ∧ H' = upd H T (.tup vs) ∧ d = .tup es ∧ RpL K G vs es) ∨ ∃ (T2 : Addr) (ws : List V) (fs : List D) (T : Addr) (j : Int), H T2 = none ∧ upd H T2 (.tup ws) T = none ∧ x = .ref T ∧ H' = upd (upd H T2 (.tup ws)) T (.tup [.int j, .ref T2]) ∧ d = .tup [.int j, .tup fs] ∧ RpL K G ws fs
  stop : ∀ i H, Same G H → ds.length ≤ i → J.stop i H
def liftI (K : PySem.W.Frag) (np : Np) (t : DTI) : TI := fun σ H R => ∃ B G ρ Qd, np.ok B ∧ EnvOk K B G ρ σ H ∧ t ρ Qd ∧
  ∀ G' ds ρ' H' J, Same G G' → EnvOk K B G' ρ' σ H' → ItD K J G' ds → Qd ds ρ' → R J H'
def iSeq (t : DTE) : DTI := fun ρ Q => t ρ fun r ρ1 => match stl r with
  | .dat (.lst xs) => Q xs ρ1
  | .dat (.tup xs) => Q xs ρ1
  | .dat (.scr ns) => Q (ns.map .int) ρ1
  | _ => False
def iStr (t : DTE) : DTI := fun ρ Q => t ρ fun r ρ1 => match r with
  | .dat (.str z) => Q (z.cps.toList.map fun c => .str ⟨#[c]⟩) ρ1
  | _ => False
def rangeD (lo : Int) (n : Nat) : List D := (List.range n).map fun (i : Nat) => .int (lo + (i : Int))
def iRange1 (t : DTA) : DTI := fun ρ Q => t ρ fun rs ρ1 => match datL rs with
  | some [.int j] => -(2 ^ 62) ≤ j ∧ j < 2 ^ 62 ∧ Q (rangeD 0 j.toNat) ρ1
  | _ => False
def enumD (xs : List D) : List D := xs.zipIdx.map fun p => .tup [.int p.2, p.1]
section
variable {X : Cx} {tg e : Expr} {es : List Expr} {te : DTE} {ta : DTA} {np : Np} {p pos : Pos}
theorem _root_.L2.PI.mo {i : Expr} {t t' : TI} (h : PI X tg i t) (m : ∀ σ H Q, t' σ H Q → t σ H Q) : PI X tg i t' := ⟨fun pins s σ H Q I q => h.run pins s σ H Q I (m _ _ _ q)⟩
theorem itd_list {K : PySem.W.Frag} {G : Hp} {a : Addr} {vs : List V} {ds : List D} (h : SqL K G a vs) (r : RpL K G vs ds) : ItD K (Itl K a) G ds where
  go := fun i H d s q => by
    obtain ⟨v, h1, h2⟩ := r.get q
    exact ⟨⟨vs, v, s.seq h, h1⟩, fun x H' y => .inl ⟨y.1, by
      have := y.2 vs (s.seq h)
      rw [h1] at this
      cases this
      exact h2⟩⟩
  stop := fun i H s q => ⟨vs, s.seq h, by rw [r.length]; exact q⟩
theorem itd_tup {K : PySem.W.Frag} {G : Hp} {a : Addr} {vs : List V} {ds : List D} (h : SqT K G a vs) (r : RpL K G vs ds) : ItD K (Itt K a) G ds where
  go := fun i H d s q => by
    obtain ⟨v, h1, h2⟩ := r.get q
    exact ⟨⟨vs, v, seqT s h, h1⟩, fun x H' y => .inl ⟨y.1, by
      have := y.2 vs (seqT s h)
      rw [h1] at this
      cases this
      exact h2⟩⟩
  stop := fun i H s q => ⟨vs, seqT s h, by rw [r.length]; exact q⟩
theorem pi_seq {l : Expr} {tl : TE} (hl : PE X l tl) : PI X tg l (fun σ H R => tl σ H fun x H1 => ∃ a, x = .ref a ∧ (((∃ xs, SqL X.K H1 a xs) ∧ R (Itl X.K a) H1) ∨ ((∃ xs, SqT X.K H1 a xs) ∧ R (Itt X.K a) H1))) := by
  refine ⟨fun pins s σ H R I h => ?_⟩
  refine thn (hl.run pins s σ H _ I h) fun v s1 ⟨x, H1, I1, r1, q1⟩ => ?_
  obtain ⟨a, rfl, q1⟩ := q1
  cases r1
  rcases q1 with ⟨⟨xs, hq⟩, q⟩ | ⟨⟨xs, hq⟩, q⟩
  · obtain ⟨its, rv, p, hz⟩ := I1.list hq
    refine wpAny_pyIter_list p.isList ?_
    have fr := I1.hok.fresh (Nat.le_refl s1.heap.objs.size)
    refine ⟨_, [s1.heap.objs.size], _, Itl X.K a, H1, rfl, I1.kept (t' := s1.toks) fun b o e => Heap.get?_push_of_some _ e, turn_list a _, ⟨_, Heap.get?_push_size _ rfl, rfl, rfl⟩, fun b hb => ?_, q⟩
    cases List.mem_singleton.mp hb
    exact I1.fpOk (Nat.le_refl _) fr
  · obtain ⟨its, rv, p, hz⟩ := I1.tuple hq
    refine wpAny_pyIter_tuple (show s1.heap.IsTuple a its.toArray from p) ?_
    have fr := I1.hok.fresh (Nat.le_refl s1.heap.objs.size)
    refine ⟨_, [s1.heap.objs.size], _, Itt X.K a, H1, rfl, I1.kept (t' := s1.toks) fun b o e => Heap.get?_push_of_some _ e, turn_tuple a _, ⟨_, Heap.get?_push_size _ rfl, rfl, rfl⟩, fun b hb => ?_, q⟩
    cases List.mem_singleton.mp hb
    exact I1.fpOk (Nat.le_refl _) fr
theorem di_seq (he : PE X e (lift X.K np te)) : PI X tg e (liftI X.K np (iSeq te)) := by
  refine (pi_seq he).mo fun σ H R h => ?_
  obtain ⟨B, G, ρ, Qd, hn, eo, h, k⟩ := h
  refine ⟨B, G, ρ, _, hn, eo, h, fun G1 v r ρ1 H1 s1 f1 q1 => ?_⟩
  obtain ⟨G2, s2, f2⟩ := f1.stl
  obtain ⟨ω, e2, r2⟩ := f2
  split at q1
  · rename_i xs hr
    rw [hr] at r2
    obtain ⟨a, vs, rfl, h1, rr⟩ := (Rp.rd (H := H1) r2).lst e2.gle
    have hg : G2 a = some (.lst vs) := by
      cases r2 with
      | lst g rr' =>
        have := e2.gle _ _ g
        rw [h1] at this
        cases this
        exact g
    exact ⟨a, rfl, .inl ⟨⟨vs, .of h1⟩, k _ _ _ _ _ (s1.trans s2) ⟨ω, e2⟩ (itd_list (.of hg) rr) q1⟩⟩
  · rename_i xs hr
    rw [hr] at r2
    obtain ⟨a, vs, rfl, h1, rr⟩ := (Rp.rd (H := H1) r2).tup
    exact ⟨a, rfl, .inr ⟨⟨vs, seqT e2.gle h1⟩, k _ _ _ _ _ (s1.trans s2) ⟨ω, e2⟩ (itd_tup h1 rr) q1⟩⟩
  · rename_i ns hr
    rw [hr] at r2
    obtain ⟨a, rfl, h1⟩ := (Rp.rd (H := H1) r2).scr
    exact ⟨a, rfl, .inl ⟨⟨_, e2.gle.seq h1⟩, k _ _ _ _ _ (s1.trans s2) ⟨ω, e2⟩ (itd_list h1 (RpL.ints ns)) q1⟩⟩
  · exact q1.elim
theorem di_str (he : PE X e (lift X.K np te)) : PI X tg e (liftI X.K np (iStr te)) := by
  refine (pi_str he).mo fun σ H R h => ?_
  obtain ⟨B, G, ρ, Qd, hn, eo, h, k⟩ := h
  refine ⟨B, G, ρ, _, hn, eo, h, fun G1 v r ρ1 H1 s1 f1 q1 => ?_⟩
  obtain ⟨ω, e1, r1⟩ := f1
  split at q1
  · rename_i z
    refine ⟨z, RdV.str (.inl r1) (H := H1), k _ _ _ _ _ s1 ⟨ω, e1⟩ ⟨fun i H' d s q => ?_, fun i H' s q => ?_⟩ q1⟩
    · rw [List.getElem?_map] at q
      cases hc : z.cps.toList[i]? with
      | none => rw [hc] at q; cases q
      | some c =>
        rw [hc] at q
        cases q
        rw [Array.getElem?_toList] at hc
        refine ⟨(Array.getElem?_eq_some_iff.mp hc).1, fun x H'' y => .inl ⟨y.1, ?_⟩⟩
        obtain ⟨_, c', e2, rfl⟩ := y
        rw [hc] at e2
        cases e2
        exact .str _
    · rw [List.length_map, Array.length_toList] at q
      exact q
  · exact q1.elim
theorem rangeD_get {lo : Int} {n i : Nat} {d : D} (h : (rangeD lo n)[i]? = some d) : i < n ∧ d = .int (lo + (i : Int)) := by
  unfold rangeD at h
  rw [List.getElem?_map] at h
  by_cases hi : i < n
  · rw [List.getElem?_range hi] at h
    cases h
    exact ⟨hi, rfl⟩
  · rw [List.getElem?_eq_none (by simpa using hi)] at h
    cases h
theorem itd_range (K : PySem.W.Frag) (G : Hp) (lo : Int) (n : Nat) : ItD K (Itr lo n) G (rangeD lo n) where
  go := fun i H d s q => by
    obtain ⟨hi, rfl⟩ := rangeD_get q
    exact ⟨hi, fun x H' y => .inl ⟨y.1, by rw [y.2]; exact .int _⟩⟩
  stop := fun i H s q => by
    unfold rangeD at q
    show n ≤ i
    simpa using q
theorem di_range1 {a : Expr} (hg : Gl X "range") (hm : X.mg "range" = none) (ha : PA X [a] (liftA X.K np ta)) (hs : starEach [a] X.env = [(false, eval a X.env)] := by rfl) : PI X tg (.Call (.Name "range" p) [a] [] pos) (liftI X.K np (iRange1 ta)) := by
  refine (pi_range1 hg hm ha hs).mo fun σ H R h => ?_
  obtain ⟨B, G, ρ, Qd, hn, eo, h, k⟩ := h
  refine ⟨B, G, ρ, _, hn, eo, h, fun G1 vs rs ρ1 H1 s1 e1 ar q1 => ?_⟩
  split at q1
  · rename_i j hd
    have rr := ar.dat hd
    cases rr with
    | cons r rr =>
      cases rr
      cases r
      exact ⟨j, rfl, q1.1, q1.2.1, k _ _ _ _ _ s1 e1 (itd_range _ _ _ _) q1.2.2⟩
  · exact q1.elim
end
def dForL (g : DTG) (tb : DTS) (E : DEnds) : List D → Env → Prop
  | [], ρ => E.nx ρ
  | d :: ds, ρ => g d ρ fun ρ1 => tb { nx := dForL g tb E ds, rt := E.rt, bk := E.nx, ct := dForL g tb E ds } ρ1
def dFor (ti : DTI) (g : DTG) (tb : DTS) : DTS := fun D ρ => ti ρ fun ds ρ1 => dForL g tb D ds ρ1
section
variable {X : Cx} {tg iter : Expr} {body : List Stmt} {ti : DTI} {g : DTG} {tb : DTS} {vs : List Nat} {np : Np} {pos : Pos}
theorem ds_for (hp : PassesOwn (model X.prog X.w) X.A X.env X.xe) (hc : X.calm = true) (hi : PI X tg iter (liftI X.K np ti)) (hg : PG X tg (liftG X.K np vs g)) (hb : PSs X body (liftS X.K np tb))
    (hs : ∀ x, foldedSetIterable iter X.env x = pure x := by intro _; rfl) : PS X (.For tg iter body [] pos) (liftS X.K np (dFor ti g tb)) := by
  refine (ps_for hp hc hi hg hb hs).mo fun D σ H h => ?_
  obtain ⟨B, G, ρ, Dd, hn, eo, h, k1, k2, k3, k4⟩ := h
  refine ⟨B, G, ρ, _, hn, eo, h, fun G1 ds ρ1 H1 J s1 e1 it q1 => ?_⟩
  refine ⟨fun i m σ H => ∃ G' ρ', Same G1 G' ∧ EnvOk X.K B G' ρ' σ H ∧ m = ds.length - i ∧ i ≤ ds.length ∧ dForL g tb Dd (ds.drop i) ρ', ⟨ds.length, G1, ρ1, .refl _, e1, by simp, Nat.zero_le _, by rw [List.drop_zero]; exact q1⟩, ?_⟩
  rintro i m σ H ⟨G', ρ', s', e', rfl, hi', q'⟩
  obtain ⟨ω', e'⟩ := e'
  have ss := s1.trans s'
  by_cases hlt : i < ds.length
  · rw [List.drop_eq_getElem_cons hlt] at q'
    have gd : ds[i]? = some ds[i] := List.getElem?_eq_getElem hlt
    obtain ⟨hgo, hy⟩ := it.go i H ds[i] (fun a o q => e'.gle a o (s' a o q)) gd
    refine .inr ⟨hgo, fun σ2 H2 => ∃ G2 ρ2, Same G1 G2 ∧ EnvOk X.K B G2 ρ2 σ2 H2 ∧ dForL g tb Dd (ds.drop (i + 1)) ρ2, fun σ2 H2 ⟨G2, ρ2, s2, e2, q2⟩ => ⟨ds.length - (i + 1), by omega, G2, ρ2, s2, e2, rfl, hlt, q2⟩, fun x H2 y => ?_⟩
    have go : ∀ G2, Same G' G2 → EnvOk X.K B G2 ρ' σ H2 → Rp X.K G2 x ds[i] → liftG X.K np vs g x σ H2 fun σ2 H2 => liftS X.K np tb { D with nx := fun σ2 H2 => ∃ G2 ρ2, Same G1 G2 ∧ EnvOk X.K B G2 ρ2 σ2 H2 ∧ dForL g tb Dd (ds.drop (i + 1)) ρ2, ct := fun σ2 H2 => ∃ G2 ρ2, Same G1 G2 ∧ EnvOk X.K B G2 ρ2 σ2 H2 ∧ dForL g tb Dd (ds.drop (i + 1)) ρ2, bk := D.nx } σ2 H2 := fun G2 s2 e2 r2 => by
      refine ⟨B, G2, ρ', ds[i], _, hn, e2, r2, q', fun ρ3 σ3 e3 _ q3 => ?_⟩
      exact ⟨B, G2, ρ3, _, hn, e3, q3, fun G4 ρ4 σ4 H4 s4 e4 q4 => ⟨G4, ρ4, (s'.trans s2).trans s4, e4, q4⟩, fun G4 v r ρ4 σ4 H4 s4 e4 q4 => k2 _ _ _ _ _ _ ((ss.trans s2).trans s4) e4 q4,
        fun G4 ρ4 σ4 H4 s4 e4 q4 => k1 _ _ _ _ ((ss.trans s2).trans s4) e4 q4, fun G4 ρ4 σ4 H4 s4 e4 q4 => ⟨G4, ρ4, (s'.trans s2).trans s4, e4, q4⟩⟩
    rcases hy x H2 y with ⟨rfl, r2⟩ | ⟨T, ws, es, hT, rfl, rfl, ed, rr⟩ | ⟨T2, ws, fs, T, j, hT2, hT, rfl, rfl, ed, rr⟩
    · exact go G' (.refl _) ⟨ω', e'⟩ (r2.mono s')
    · obtain ⟨sg, f⟩ := e'.newT hT (rr.mono s')
      obtain ⟨ω2, e2, r2⟩ := f
      exact go _ sg ⟨ω2, e2⟩ (by rw [ed]; exact r2)
    · obtain ⟨sg, e2⟩ := e'.newG (o := .tup ws) hT2
      obtain ⟨sg2, f⟩ := e2.newT hT (vs := [.int j, .ref T2]) (ds := [.int j, .tup fs]) (.cons (.int _) (.cons (.tup (.inl (.inl upd_same)) ((rr.mono s').mono sg)) .nil))
      obtain ⟨ω3, e3, r3⟩ := f
      exact go _ (sg.trans sg2) ⟨ω3, e3⟩ (by rw [ed]; exact r3)
  · have ei : i = ds.length := by omega
    subst ei
    rw [List.drop_length] at q'
    exact .inl ⟨it.stop _ _ (fun a o q => e'.gle a o (s' a o q)) (Nat.le_refl _), k1 _ _ _ _ ss ⟨ω', e'⟩ q'⟩
end
def frO : Option Sl → Sl
  | some (.fr d) => .fr d
  | _ => .un
def wipeE (ρ : Env) : List Nat → Env
  | [] => ρ
  | v :: vs => (wipeE ρ vs).set v .un
def resto (ρ0 ρ : Env) : List Nat → Env
  | [] => ρ
  | v :: vs => (resto ρ0 ρ vs).set v (frO ρ0[v]?)
def dLcL (g : DTG) (tt : DTT) (te : DTE) (vs : List Nat) (ρ0 : Env) : List D → List D → Env → (Rs → Env → Prop) → Prop
  | [], acc, ρ, Q => Q (.nw (.ls acc)) (resto ρ0 ρ vs)
  | d :: ds, acc, ρ, Q => g d (wipeE ρ vs) fun ρ1 => tt ρ1 fun b ρ2 => if b = true then te ρ2 fun r ρ3 => (match stl r with
      | .dat x => acc.length < sizeLine ∧ dLcL g tt te vs ρ0 ds (acc ++ [x]) ρ3 Q
      | _ => False)
    else dLcL g tt te vs ρ0 ds acc ρ2 Q
def dLc (ti : DTI) (g : DTG) (tt : DTT) (te : DTE) (vs : List Nat) : DTE := fun ρ Q => ti ρ fun ds ρ1 => dLcL g tt te vs ρ1 ds [] ρ1 Q
def dYes : DTT := fun ρ Q => Q true ρ
section
variable {K : PySem.W.Frag} {B : Bs} {G : Hp} {ω : Own} {ρ ρ0 : Env} {σ : Stt} {H : Hp}
theorem wipeE_length (ρ : Env) : ∀ vs, (wipeE ρ vs).length = ρ.length
  | [] => rfl
  | v :: vs => by unfold wipeE; rw [List.length_set, wipeE_length ρ vs]
theorem resto_length (ρ0 ρ : Env) : ∀ vs, (resto ρ0 ρ vs).length = ρ.length
  | [] => rfl
  | v :: vs => by unfold resto; rw [List.length_set, resto_length ρ0 ρ vs]
theorem wipeE_get : ∀ {vs : List Nat} {j : Nat}, (wipeE ρ vs)[j]? = if j ∈ vs ∧ j < ρ.length then some .un else ρ[j]?
  | [], j => by simp [wipeE]
  | v :: vs, j => by
    unfold wipeE
    by_cases hj : j = v
    · subst hj
      by_cases hl : j < ρ.length
      · rw [List.getElem?_set_self (by rw [wipeE_length]; exact hl), if_pos ⟨List.mem_cons_self, hl⟩]
      · rw [if_neg (fun z => hl z.2), List.getElem?_eq_none (by rw [List.length_set, wipeE_length]; omega), List.getElem?_eq_none (by omega)]
    · rw [List.getElem?_set_ne (Ne.symm hj), wipeE_get]
      simp [hj]
theorem resto_get : ∀ {vs : List Nat} {j : Nat}, (resto ρ0 ρ vs)[j]? = if j ∈ vs ∧ j < ρ.length then some (frO ρ0[j]?) else ρ[j]?
  | [], j => by simp [resto]
  | v :: vs, j => by
    unfold resto
    by_cases hj : j = v
    · subst hj
      by_cases hl : j < ρ.length
      · rw [List.getElem?_set_self (by rw [resto_length]; exact hl), if_pos ⟨List.mem_cons_self, hl⟩]
      · rw [if_neg (fun z => hl z.2), List.getElem?_eq_none (by rw [List.length_set, resto_length]; omega), List.getElem?_eq_none (by omega)]
    · rw [List.getElem?_set_ne (Ne.symm hj), resto_get]
      simp [hj]
theorem EnvW.wipe (e : EnvW K B G ω ρ σ H) {σ' : Stt} {vs : List Nat} (o : Off vs σ σ') : EnvW K B G ω (wipeE ρ vs) (L2.wipe σ vs) H where
  gle := e.gle
  g0 := e.g0
  keep := e.keep
  own := e.own
  len := by rw [wipeE_length, wipe_length]; exact e.len
  slot := fun j s q => by
    rw [wipeE_get] at q
    split at q
    · cases q; trivial
    · rename_i n
      refine (e.slot j s q).ov ?_
      have hl := (List.getElem?_eq_some_iff.mp q).1
      rw [wipe_get, if_neg (fun z => n ⟨z.1, by rw [e.len]; exact z.2⟩)]
  pin := fun j s v q o' p => by
    rw [wipeE_get] at q
    split at q
    · cases q; cases o'
    · rename_i n
      rw [wipe_get, if_neg (fun z => n ⟨z.1, by rw [e.len]; exact z.2⟩)]
      exact e.pin j s v q o' p
theorem EnvW.wipe2 {σ' : Stt} {vs : List Nat} (e : EnvW K B G ω ρ σ' H) (o : L2.wipe σ' vs = L2.wipe σ vs) : EnvW K B G ω (wipeE ρ vs) (L2.wipe σ vs) H := by
  have := e.wipe (.refl vs σ')
  rw [o] at this
  exact this
theorem frO_ok {G0 : Hp} {F : Addr → Prop} {ov : Option (Option V)} {s : Option Sl} (sg : Same G0 G) (h : ∀ t, s = some t → SlOk K G0 H F ov t) {F' : Addr → Prop} {H' : Hp} : SlOk K G H' F' ov (frO s) := by
  cases s with
  | none => trivial
  | some t =>
    cases t with
    | fr d => obtain ⟨v, e, r⟩ := h _ rfl; exact ⟨v, e, r.mono sg⟩
    | _ => trivial
theorem EnvW.resto {vs : List Nat} {G0 H0 : Hp} {ω0 : Own} (e0 : EnvW K B G0 ω0 ρ0 σ H0) (sg : Same G0 G) (e : EnvW K B G ω ρ (L2.wipe σ vs) H) : EnvW K B G (fun a => match ω a with | some i => if i ∈ vs then none else some i | none => none) (TL.resto ρ0 ρ vs) σ H := by
  have hl : ρ.length = σ.length := by rw [e.len, wipe_length]
  have osome : ∀ {a i}, (match ω a with | some i => if i ∈ vs then none else some i | none => none) = some i → ω a = some i ∧ i ∉ vs := by
    intro a i q
    cases z : ω a with
    | none => rw [z] at q; cases q
    | some j =>
      rw [z] at q
      dsimp only at q
      split at q
      · cases q
      · rename_i n; cases q; exact ⟨rfl, n⟩
  refine ⟨e.gle, e.g0, e.keep, fun a i q => e.own a i (osome q).1, by rw [resto_length]; exact hl, fun j s q => ?_, fun j s v q o p => ?_⟩
  · rw [resto_get] at q
    split at q
    · cases q
      rename_i z
      refine frO_ok (H := H0) (F := fun a => ω0 a = some j) sg fun t ht => e0.slot j t ht
    · rename_i n
      have hj : j < ρ.length := (List.getElem?_eq_some_iff.mp q).1
      have hm : j ∉ vs := fun z => n ⟨z, hj⟩
      refine ((e.slot j s q).mono (F' := fun a => _) (.refl _) fun a z => ⟨?_, rfl⟩).ov ?_
      · show (match ω a with | some i => if i ∈ vs then none else some i | none => none) = some j
        rw [z]
        exact if_neg hm
      · rw [wipe_get, if_neg (fun z => hm z.1)]
  · rw [resto_get] at q
    split at q
    · cases q
      cases z : ρ0[j]? with
      | none => rw [z] at o; cases o
      | some t => rw [z] at o; cases t <;> cases o
    · rename_i n
      have hj : j < ρ.length := (List.getElem?_eq_some_iff.mp q).1
      have := e.pin j s v q o p
      rw [wipe_get, if_neg (fun z => n ⟨z.1, hj⟩)] at this
      exact this
end
section
variable {X : Cx} {tg iter elt : Expr} {ifs : List Expr} {scope : Scope} {own : List (Str × Nat)} {ti : DTI} {g : DTG} {tt : DTT} {te : DTE} {ws : List Nat} {np : Np} {pos pos' : Pos}
theorem lc_ok (hw : ∀ j ∈ ws, j ∈ own.map (·.2)) (σ : Stt) (H : Hp) (Q : VK) (h : lift X.K np (dLc ti g tt te (own.map (·.2))) σ H Q) :
    tLc (liftI X.K np ti) (liftG X.K np ws g) (liftT X.K np tt) (lift X.K np te) (own.map (·.2)) σ H Q := by
  obtain ⟨B, G, ρ, Qd, hn, eo, h, k⟩ := h
  refine ⟨B, G, ρ, _, hn, eo, h, fun G1 ds ρ1 H1 J s1 e1 it q1 D hD => ?_⟩
  generalize hvs : own.map (·.2) = vs at *
  obtain ⟨ω1, e1⟩ := e1
  have d0 : B.A0 D ∨ B.H0 D = none := e1.gone hD
  have hg1 : G1 D = none := Same.none e1.gle hD
  have hw1 : ω1 D = none := by
    cases q : ω1 D with
    | none => rfl
    | some i => exact absurd hD (e1.own D i q).2.1
  refine ⟨fun i m H => ∃ G' ω' ρ' acc wa, Same G1 G' ∧ EnvW X.K B G' ω' (wipeE ρ' vs) (wipe σ vs) H ∧ ω' D = none ∧ G' D = none ∧ H D = some (.lst wa) ∧ RpL X.K G' wa acc ∧ m = ds.length - i ∧ i ≤ ds.length ∧ dLcL g tt te vs ρ1 (ds.drop i) acc ρ' Qd,
    ⟨ds.length, G1, ω1, ρ1, [], [], .refl _, (e1.poke (o := .lst []) hw1 hg1 d0).wipe (.refl vs σ), hw1, hg1, upd_same, .nil, by simp, Nat.zero_le _, by rw [List.drop_zero]; exact q1⟩, ?_⟩
  rintro i m H2 ⟨G', ω', ρ', acc, wa, s', e', hw', hg', hD', ra, rfl, hi', q'⟩
  have ss := s1.trans s'
  by_cases hlt : i < ds.length
  · rw [List.drop_eq_getElem_cons hlt] at q'
    have gd : ds[i]? = some ds[i] := List.getElem?_eq_getElem hlt
    obtain ⟨hgo, hy⟩ := it.go i H2 ds[i] (fun a o q => e'.gle a o (s' a o q)) gd
    refine .inr ⟨hgo, fun H3 => ∃ G' ω' ρ' acc wa, Same G1 G' ∧ EnvW X.K B G' ω' (wipeE ρ' vs) (wipe σ vs) H3 ∧ ω' D = none ∧ G' D = none ∧ H3 D = some (.lst wa) ∧ RpL X.K G' wa acc ∧ dLcL g tt te vs ρ1 (ds.drop (i + 1)) acc ρ' Qd,
      fun H3 ⟨G3, ω3, ρ3, acc3, wa3, s3, e3, z1, z2, z3, z4, q3⟩ => ⟨ds.length - (i + 1), by omega, G3, ω3, ρ3, acc3, wa3, s3, e3, z1, z2, z3, z4, rfl, hlt, q3⟩, fun x H3 y => ?_⟩
    have go : ∀ G3 ω3, Same G' G3 → EnvW X.K B G3 ω3 (wipeE ρ' vs) (wipe σ vs) H3 → Rp X.K G3 x ds[i] → ω3 D = none → G3 D = none → H3 D = some (.lst wa) → liftG X.K np ws g x (wipe σ vs) H3 fun σ2 H4 => wipe σ2 vs = wipe σ vs ∧ liftT X.K np tt σ2 H4 fun b H5 =>
        if b = true then lift X.K np te σ2 H5 fun y H6 => ∃ acc, H6 D = some (.lst acc) ∧ acc.length < sizeLine ∧ (∃ G' ω' ρ' acc' wa, Same G1 G' ∧ EnvW X.K B G' ω' (wipeE ρ' vs) (wipe σ vs) (upd H6 D (.lst (acc ++ [y]))) ∧ ω' D = none ∧ G' D = none ∧ (upd H6 D (.lst (acc ++ [y]))) D = some (.lst wa) ∧ RpL X.K G' wa acc' ∧ dLcL g tt te vs ρ1 (ds.drop (i + 1)) acc' ρ' Qd)
        else ∃ G' ω' ρ' acc wa, Same G1 G' ∧ EnvW X.K B G' ω' (wipeE ρ' vs) (wipe σ vs) H5 ∧ ω' D = none ∧ G' D = none ∧ H5 D = some (.lst wa) ∧ RpL X.K G' wa acc ∧ dLcL g tt te vs ρ1 (ds.drop (i + 1)) acc ρ' Qd := fun G3 ω3 s3 e3 r3 hw3 hg3 hD3 => by
      refine ⟨reB B G3 ω3 (wipeE ρ' vs).length H3, G3, wipeE ρ' vs, ds[i], _, hn.re e3, ⟨_, e3.rebase⟩, r3, q', fun ρ4 σ4 e4 o4 q4 => ?_⟩
      have ow : wipe σ4 vs = wipe σ vs := by
        rw [(o4.mono hw).wipe]
        apply List.ext_getElem?
        intro j
        rw [wipe_get, wipe_length, wipe_get]
        split <;> rfl
      refine ⟨ow, reB B G3 ω3 (wipeE ρ' vs).length H3, G3, ρ4, _, hn.re e3, e4, q4, fun G5 b ρ5 H5 s5 e5 q5 => ?_⟩
      cases b with
      | false =>
        obtain ⟨ω5, e5⟩ := e5
        obtain ⟨z1, z2, z3⟩ := e5.still hD3 hw3 hg3
        exact iteF ⟨G5, ω5, ρ5, acc, wa, (s'.trans s3).trans s5, (e3.back e5).wipe2 ow, z2, z3, z1, ra.mono (s3.trans s5), q5⟩
      | true =>
        refine iteT ⟨reB B G3 ω3 (wipeE ρ' vs).length H3, G5, ρ5, _, hn.re e3, e5, q5, fun G6 u r ρ6 H6 s6 f6 q6 => ?_⟩
        obtain ⟨G7, s7, f7⟩ := f6.stl
        obtain ⟨ω7, e7, r7⟩ := f7
        obtain ⟨z1, z2, z3⟩ := e7.still hD3 hw3 hg3
        split at q6
        · rename_i dd hr
          rw [hr] at r7
          have rlen : wa.length = acc.length := ra.length
          have s37 := ((s3.trans s5).trans s6).trans s7
          exact ⟨wa, z1, by rw [rlen]; exact q6.1, G7, ω7, ρ6, _, wa ++ [u], s'.trans s37, ((e3.back e7).poke z2 z3 d0).wipe2 ow, z2, z3, upd_same, (ra.mono s37).append (.cons r7 .nil), q6.2⟩
        · exact q6.elim
    have hD2 : ∀ T, H2 T = none → D ≠ T := fun T hT z => by subst z; rw [hD'] at hT; cases hT
    rcases hy x H3 y with ⟨rfl, r2⟩ | ⟨T, wt, es, hT, rfl, rfl, ed, rr⟩ | ⟨T2, wt, fs, T, j, hT2, hT, rfl, rfl, ed, rr⟩
    · exact go G' ω' (.refl _) e' (r2.mono s') hw' hg' hD'
    · obtain ⟨sg, e2⟩ := e'.newG (o := .tup wt) hT
      exact go _ ω' sg e2 (by rw [ed]; exact .tup (.inl (.inl upd_same)) ((rr.mono s').mono sg)) hw' (by rw [upd_ne (hD2 T hT)]; exact hg') (by rw [upd_ne (hD2 T hT)]; exact hD')
    · obtain ⟨sg, e2⟩ := e'.newG (o := .tup wt) hT2
      obtain ⟨sg2, e3⟩ := e2.newG (o := .tup [.int j, .ref T2]) hT
      have n2 := hD2 T2 hT2
      have n1 : D ≠ T := fun z => by rw [← z, upd_ne n2, hD'] at hT; cases hT
      have n3 : T2 ≠ T := fun z => by rw [← z, upd_same] at hT; cases hT
      exact go _ ω' (sg.trans sg2) e3 (by rw [ed]; exact .tup (.inl (.inl upd_same)) (.cons (.int _) (.cons ((Rp.tup (.inl (.inl upd_same)) ((rr.mono s').mono sg)).mono sg2) .nil))) hw' (by rw [upd_ne n1, upd_ne n2]; exact hg') (by rw [upd_ne n1, upd_ne n2]; exact hD')
  · have ei : i = ds.length := by omega
    subst ei
    rw [List.drop_length] at q'
    refine .inl ⟨it.stop _ _ (fun a o q => e'.gle a o (s' a o q)) (Nat.le_refl _), ?_⟩
    have er := EnvW.resto (vs := vs) e1 s' e'
    have er2 : TL.resto ρ1 (wipeE ρ' vs) vs = TL.resto ρ1 ρ' vs := by
      apply List.ext_getElem?
      intro j
      rw [resto_get, resto_get, wipeE_get, wipeE_length]
      split
      · rfl
      · rfl
    rw [er2] at er
    obtain ⟨ωr, er, hωr⟩ : ∃ ωr, EnvW X.K B G' ωr (TL.resto ρ1 ρ' vs) σ H2 ∧ ωr D = none := ⟨_, er, by rw [hw']⟩
    refine k _ _ (.nw (.ls acc)) _ _ ss ⟨tagd ωr D σ.length, ?_, rfl, D, wa, rfl, tagd_same, hD', ra⟩ q'
    refine ⟨er.gle, er.g0, er.keep, fun a j q => ?_, er.len, fun j s q => ?_, er.pin⟩
    · unfold tagd at q
      split at q
      · rename_i ha
        subst ha
        cases q
        exact ⟨hg', by rw [hD']; simp, d0⟩
      · split at q
        · cases q
        · exact er.own a j q
    · refine (er.slot j s q).mono (.refl _) fun a z => ⟨?_, rfl⟩
      have hj : j < (TL.resto ρ1 ρ' vs).length := (List.getElem?_eq_some_iff.mp q).1
      have := er.len
      have ha : a ≠ D := fun w => by
        subst w
        rw [hωr] at z
        cases z
      unfold tagd
      rw [if_neg ha, if_neg (fun w => by rw [z] at w; have := Option.some.inj w; omega)]
      exact z
theorem d_lc (hc : X.calm = true) (hN : X.N.Nodup) (hi : PI X tg iter (liftI X.K np ti)) (ok : BlkOk X.N X.env.scope scope own)
    (hg : ∀ (s : Shared) (H : Hp) (C : Addr) (cl : List (Str × Addr)) (fp : List Addr), PG (X.blk s H scope (compEnvC scope cl C X.env) fp) tg (liftG X.K np ws g)) (ht : ∀ (s : Shared) (H : Hp) (C : Addr) (cl : List (Str × Addr)) (fp : List Addr), PTs (X.blk s H scope (compEnvC scope cl C X.env) fp) ifs (liftT X.K np tt))
    (he : ∀ (s : Shared) (H : Hp) (C : Addr) (cl : List (Str × Addr)) (fp : List Addr), PE (X.blk s H scope (compEnvC scope cl C X.env) fp) elt (lift X.K np te)) (hw : ∀ j ∈ ws, j ∈ own.map (·.2) := by decide) (hs : ∀ x, foldedSetIterable iter X.env x = pure x := by intro _; rfl) :
    PE X (.ListComp elt [⟨tg, iter, ifs, 0⟩] scope pos) (lift X.K np (dLc ti g tt te (own.map (·.2)))) := (pe_lc hc hN hi ok hg ht he hs).mo fun σ H Q h => lc_ok hw σ H Q h
theorem ds_setLc (i : Nat) {y : Str} {py : Pos} (hc : X.calm = true) (hN : X.N.Nodup) (hi : PI X tg iter (liftI X.K np ti)) (ok : BlkOk X.N X.env.scope scope own)
    (hg : ∀ (s : Shared) (H : Hp) (C : Addr) (cl : List (Str × Addr)) (fp : List Addr), PG (X.blk s H scope (compEnvC scope cl C X.env) fp) tg (liftG X.K np ws g)) (ht : ∀ (s : Shared) (H : Hp) (C : Addr) (cl : List (Str × Addr)) (fp : List Addr), PTs (X.blk s H scope (compEnvC scope cl C X.env) fp) ifs (liftT X.K np tt))
    (he : ∀ (s : Shared) (H : Hp) (C : Addr) (cl : List (Str × Addr)) (fp : List Addr), PE (X.blk s H scope (compEnvC scope cl C X.env) fp) elt (lift X.K np te))
    (hsw : swapsWith (.ListComp elt [⟨tg, iter, ifs, 0⟩] scope pos) (some (.Name y py)) pos'.line X.env = pure true) (hy : X.N[i]? = some y := by rfl) (hyl : X.env.scope.names.lookup y = some .local := by rfl) (hw : ∀ j ∈ ws, j ∈ own.map (·.2) := by decide) (hs : ∀ x, foldedSetIterable iter X.env x = pure x := by intro _; rfl) :
    PS X (.Assign [.Name y py] (.ListComp elt [⟨tg, iter, ifs, 0⟩] scope pos) pos') (liftS X.K np (dSet np.n i (dLc ti g tt te (own.map (·.2))))) := by
  refine (ps_setLc (i := i) hc hN hy hyl hsw hi ok hg ht he hs).mo fun D σ H h => ?_
  obtain ⟨B, G, ρ, Dd, hn, eo, h, k1, k2, k3, k4⟩ := h
  refine lc_ok hw σ H _ ⟨B, G, ρ, _, hn, eo, h, fun G1 v r ρ1 H1 s1 f1 q1 => ?_⟩
  obtain ⟨ρ', e', q⟩ := put_ok hn f1 q1
  exact k1 _ _ _ _ s1 e' q
theorem dts_nil : PTs X [] (liftT X.K np dYes) := ⟨fun pins s σ H Q I ⟨B, G, ρ, Qd, hn, eo, h, k⟩ => pts_nil.run pins s σ H Q I (k _ _ _ _ (.refl _) eo h)⟩
theorem dts_one {c : Expr} (h : PT X c (liftT X.K np tt)) : PTs X [c] (liftT X.K np tt) := pts_one h
end
end TL
namespace TL
variable {np : Np}
open PySem PySem.Spec PyProof.Rows L2
abbrev DMt := List D → List D → (D → List D → Prop) → Prop
def CM (K : PySem.W.Frag) (r : V → List V → Hp → VK → Prop) (g : DMt) : Prop :=
  ∀ {G H : Hp} {p : Addr} {ws vs : List V} {xs ds : List D} {P : D → List D → Prop} {Q : VK}, Same G H → H p = some (.lst ws) → RpL K G ws xs → G p = none → RdL K G H vs ds → g xs ds P →
    (∀ G' v d ws' ys, Same G G' → Same G' H → G' p = none → (∀ a o, G' a = some o → G a = some o) → Rp K G' v d → RpL K G' ws' ys → P d ys → Q v (upd H p (.lst ws'))) → r (.ref p) vs H Q
theorem RdV.datL {K : PySem.W.Frag} {G H : Hp} {v : V} {d : D} (h : Rp K G v d) : RdV K G H v d := .inl h
def mAppend : DMt := fun xs ds P => match ds with
  | [d] => xs.length < sizeLine ∧ P .non (xs ++ [d])
  | _ => False
def dMethF (i : Nat) (g : DMt) (t : DTA) : DTE := fun ρ Q => (∃ xs, ρ[i]? = some (.ls xs)) ∧ t ρ fun rs ρ1 => match ρ1[i]?, datL rs with
  | some (.ls xs), some ds => g xs ds fun d ys => Q (.dat d) (ρ1.set i (.ls ys))
  | _, _ => False
def CMF (K : PySem.W.Frag) (r : V → List V → Hp → VK → Prop) (g : DMt) : Prop :=
  ∀ {G H : Hp} {p : Addr} {ws vs : List V} {xs ds : List D} {P : D → List D → Prop} {Q : VK}, H p = some (.lst ws) → RpL K G ws xs → RpL K G vs ds → g xs ds P →
    (∀ v d ws' ys, Rp K G v d → RpL K G ws' ys → P d ys → Q v (upd H p (.lst ws'))) → r (.ref p) vs H Q
section
variable {X : Cx} {o e : Expr} {es : List Expr} {t : DTA} {np : Np} {name x : Str} {apos cpos xp : Pos} {id : String} {r : V → List V → Hp → VK → Prop} {g : DMt}
theorem d_methF (i : Nat) (slot : Slot "list" name id) (ty : typeOf (.builtin id) = pure (.type "method_descriptor")) (rule : MtR X id r) (hc : CMF X.K r g)
    (ha : PA X (e :: es) (liftA X.K np t)) (hN : X.N[i]? = some x := by rfl) (hv : Vis X.env.scope x := by first | exact Or.inl rfl | exact Or.inr (Or.inl rfl) | exact Or.inr (Or.inr rfl)) (hd : (x == ("__debug__" : Str)) = false := by decide)
    (hcd : (x == ("__classdict__" : Str)) = false := by decide)
    (hbase : attributeBase (.Name x xp) name X.env (eval (.Name x xp) X.env) = eval (.Name x xp) X.env := by rfl)
    (hfew : ((backTo cpos (starEach (e :: es) X.env)).all (fun x => !x.1) && (backToKw cpos (keywordEach [] X.env)).all (fun x => x.1.isSome)
      && decide ((e :: es).length + ([] : List Keyword).length + (if ([] : List Keyword).isEmpty then 0 else 1) < 30)) = true := by rfl)
    (hline : (apos.endLine == cpos.line) = true := by rfl) (hs : starEach (e :: es) X.env = (false, eval e X.env) :: starEach es X.env := by rfl) (hplain : (backTo cpos (starEach es X.env)).any (·.1) = false := by rfl) :
    PE X (.Call (.Attribute (.Name x xp) name apos) (e :: es) [] cpos) (lift X.K np (dMethF i g t)) := by
  refine (pe_bm PySem.F.plainAttrs_list slot ty rule (pe_var (i := i) hN hv hd hcd) ha hbase hfew hline hs hplain).mo fun σ H Q h => ?_
  obtain ⟨B, G, ρ, Qd, hn, ⟨ω, ew⟩, ⟨⟨xs0, hx0⟩, h⟩, k⟩ := h
  obtain ⟨p, ws, e1, hp, h1, r1⟩ := ew.slot i _ hx0
  refine ⟨.ref p, e1, .inl ⟨rfl, ws, .of h1⟩, B, G, ρ, _, hn, ⟨ω, ew⟩, h, fun G1 vs rs ρ1 H1 s1 ew1 ar q1 => ?_⟩
  obtain ⟨ω1, ew1⟩ := ew1
  split at q1
  · rename_i xs ds hxs hds
    obtain ⟨p', ws', e1', hp', h1', r1'⟩ := ew1.slot i _ hxs
    rw [e1] at e1'
    cases e1'
    refine hc h1' r1' (ar.dat hds) q1 fun v d ws2 ys rv rl q => ?_
    obtain ⟨_, _, e2⟩ := ew1.mutL hxs e1 rl
    exact k _ _ _ _ _ s1 (e2.dat rv) q
  · exact q1.elim
end
section
variable (K : PySem.W.Frag)
theorem cm_append : CMF K rAppend mAppend := by
  intro G H p ws vs xs ds P Q hp rl ra g k
  unfold mAppend at g
  split at g
  · cases ra with
    | cons rv rr =>
      cases rr
      exact ⟨p, ws, _, rfl, rfl, hp, by rw [rl.length]; exact g.1, k _ _ _ _ .non (rl.append (.cons rv .nil)) g.2⟩
  · exact g.elim
end
def dPar2 (np i j : Nat) (t u : DTE) : DTS := fun D ρ => t ρ fun r ρ1 => match stl r with
  | .dat d => u ρ1 fun r2 ρ2 => dPut np j r2 (ρ2.set i (.fr d)) D.nx
  | _ => False
theorem put_two {K : PySem.W.Frag} {np : Np} {B : Bs} {G : Hp} {ρ : Env} {σ : Stt} {H : Hp} {u v : V} {d : D} {r : Rs} {i j : Nat} {k : Env → Prop} (hn : np.ok B) (f : Fin K B G ρ σ H v r) (ru : Rp K G u d) (h : dPut np.n j r (ρ.set i (.fr d)) k) :
    ∃ ρ', EnvOk K B G ρ' ((σ.set i (some u)).set j (some v)) H ∧ k ρ' := by
  obtain ⟨ω, e, q⟩ := f
  cases r with
  | dat d' =>
    obtain ⟨ω', e'⟩ := e.setD (i := i) ru
    exact ⟨_, e'.setD q, h⟩
  | sl j => exact h.elim
  | nw s =>
    have e' : EnvW K B G (untag ω i) (ρ.set i (.fr d)) (σ.set i (some u)) H := by
      have e0 := e.setUn (i := i) (s' := .un) trivial rfl
      refine ⟨e0.gle, e0.g0, e0.keep, e0.own, by rw [List.length_set, List.length_set]; exact e.len, fun j s q => ?_, fun j s w q o p => ?_⟩
      · by_cases hj : j = i
        · subst hj
          have hl : j < ρ.length := by have := (List.getElem?_eq_some_iff.mp q).1; rwa [List.length_set] at this
          rw [List.getElem?_set_self hl] at q
          cases q
          exact ⟨u, List.getElem?_set_self (by rw [← e.len]; exact hl), ru⟩
        · rw [List.getElem?_set_ne (Ne.symm hj)] at q
          rw [List.getElem?_set_ne (Ne.symm hj)]
          exact e0.slot j s (by rw [List.getElem?_set_ne (Ne.symm hj)]; exact q)
      · by_cases hj : j = i
        · subst hj
          have hl : j < ρ.length := by have := (List.getElem?_eq_some_iff.mp q).1; rwa [List.length_set] at this
          rw [List.getElem?_set_self hl] at q
          cases q
          cases o
        · rw [List.getElem?_set_ne (Ne.symm hj)] at q
          rw [List.getElem?_set_ne (Ne.symm hj)]
          exact e.pin j s w q o p
    by_cases hi : i < σ.length
    · refine ⟨_, e'.setN (s := s) q.1 ?_ (by rw [hn.1]; exact h.1), h.2⟩
      exact q.2.mono (.refl _) fun a z => ⟨by rw [List.length_set]; exact untag_ne (by omega) z, rfl⟩
    · have e2 : σ.set i (some u) = σ := List.set_eq_of_length_le (by omega)
      have e3 : ρ.set i (.fr d) = ρ := List.set_eq_of_length_le (by rw [e.len]; omega)
      rw [e2]
      rw [e3] at h
      exact ⟨_, e.setN (s := s) q.1 q.2 (by rw [hn.1]; exact h.1), h.2⟩
section
variable {X : Cx} {a b c : Expr} {ta tb tc : DTE} {np : Np} {x y z : Str} {px py pz pt pos : Pos} {kt k2 : Nat} {pt2 : Pos}
theorem ds_par2 (i j : Nat) (hc : X.calm = true) (hN : X.N.Nodup) (ha : PE X a (lift X.K np ta)) (hb : PE X b (lift X.K np tb)) (hw : swappedStores [.Tuple [.Name x px, .Name y py] kt pt] (.Tuple [a, b] k2 pt2) X.env = pure (some [x, y]))
    (hi : X.N[i]? = some x := by rfl) (hj : X.N[j]? = some y := by rfl) (hij : i ≠ j := by decide) (hx : X.env.scope.names.lookup x = some .local := by rfl) (hy : X.env.scope.names.lookup y = some .local := by rfl)
    (hs : swapsWithSole [.Tuple [.Name x px, .Name y py] kt pt] (.Tuple [a, b] k2 pt2) pos.line X.env = pure false := by rfl)
    (h1 : starEach [a, b] X.env = (false, eval a X.env) :: starEach [b] X.env := by rfl) (h2 : starEach [b] X.env = (false, eval b X.env) :: starEach [] X.env := by rfl) :
    PS X (.Assign [.Tuple [.Name x px, .Name y py] kt pt] (.Tuple [a, b] k2 pt2) pos) (liftS X.K np (dPar2 np.n i j ta tb)) := by
  refine (ps_par hc hN hi hj hij hx hy (pa_cons ha (pa_cons hb pa_nil h2) h1) hw hs).mo fun D σ H h => ?_
  obtain ⟨B, G, ρ, Dd, hn, eo, h, k1, k2, k3, k4⟩ := h
  refine ⟨B, G, ρ, _, hn, eo, h, fun G1 v r ρ1 H1 s1 f1 q1 => ?_⟩
  obtain ⟨G2, s2, f2⟩ := f1.stl
  split at q1
  · rename_i d hr
    rw [hr] at f2
    refine ⟨B, G2, ρ1, _, hn, f2.env, q1, fun G3 w r3 ρ3 H3 s3 f3 q3 => ⟨v, w, rfl, ?_⟩⟩
    obtain ⟨ω2, e2, r2⟩ := f2
    obtain ⟨ρ', e', q⟩ := put_two hn f3 (Rp.mono s3 r2) q3
    exact k1 _ _ _ _ ((s1.trans s2).trans s3) e' q
  · exact q1.elim
end
end TL
namespace TL
open PySem PySem.Spec PyProof.Rows L2
abbrev DSp := List Sl → (Rs → List Sl → Prop) → Prop
def own' (s : Sl) : Sl := if s.own = true then s else .un
def baseOf (T : List (Addr × Str)) (G H : Hp) (ω : Own) (vs : List V) : Bs := ⟨G, H, fun a => ω a ≠ none, vs.map some, T⟩
def toSp (K : PySem.W.Frag) (T : List (Addr × Str)) (n : Nat) (S : DSp) : Sp := fun vs H Q E => ∃ G ω args Qd, vs.length = n ∧ EnvW K (baseOf T G H ω vs) G ω args (vs.map some) H ∧ S args Qd ∧
  ∀ G' ω' v r args' H', Same G G' → EnvW K (baseOf T G H ω vs) G' ω' args' (vs.map some) H' → RsOk K G' H' ω' (vs.map some) v r → (∀ j, r ≠ .sl j) → Qd r args' → Q v H'
def ownsOf (n : Nat) (ρ : Env) : List Sl := (List.range n).map fun i => own' (ρ[i]?.getD .un)
def fin1 (n : Nat) (Q : Rs → List Sl → Prop) : Rs → Env → Prop := fun r ρ => match r with
  | .dat d => Q (.dat d) (ownsOf n ρ)
  | .nw s => Q (.nw s) (ownsOf n ρ)
  | .sl j => n ≤ j ∧ ∃ s, ρ[j]? = some s ∧ s.own = true ∧ Q (.nw s) (ownsOf n ρ)
def dEnd (n : Nat) (Q : Rs → List Sl → Prop) : DEnds := { nx := fin1 n Q (.dat .non), rt := fin1 n Q }
def moveT (ω : Own) (q n : Nat) : Own := fun a => if ω a = some q then some n else match ω a with
  | some i => if i < n then some i else none
  | none => none
theorem own'_own {s : Sl} (h : (own' s).own = true) : own' s = s ∧ s.own = true := by
  unfold own' at h ⊢
  by_cases e : s.own = true
  · rw [if_pos e]; exact ⟨rfl, e⟩
  · rw [if_neg e] at h; cases h
theorem ownsOf_length (n : Nat) (ρ : Env) : (ownsOf n ρ).length = n := by unfold ownsOf; rw [List.length_map, List.length_range]
theorem ownsOf_get {n : Nat} {ρ : Env} {i : Nat} {s : Sl} (h : (ownsOf n ρ)[i]? = some s) : i < n ∧ s = own' (ρ[i]?.getD .un) := by
  unfold ownsOf at h
  rw [List.getElem?_map] at h
  by_cases hi : i < n
  · rw [List.getElem?_range hi] at h
    exact ⟨hi, (Option.some.inj h).symm⟩
  · rw [List.getElem?_eq_none (by rw [List.length_range]; omega)] at h
    cases h
section
variable {K : PySem.W.Frag} {G0 H0 G : Hp} {ω0 ω : Own} {ρ : Env} {σ : Stt} {H : Hp} {vs : List V}
theorem EnvW.leave (e : EnvW K (baseOf T G0 H0 ω0 vs) G ω ρ σ H) {q : Nat} (hq : ∀ i s, ρ[i]? = some s → i < vs.length → s.own = true → i ≠ q) :
    EnvW K (baseOf T G0 H0 ω0 vs) G (moveT ω q vs.length) (ownsOf vs.length ρ) (vs.map some) H where
  gle := e.gle
  g0 := e.g0
  keep := e.keep
  own := fun a i z => by
    unfold moveT at z
    split at z
    · rename_i w; exact e.own a _ w
    · split at z
      · rename_i j w; exact e.own a _ w
      · cases z
  len := by rw [ownsOf_length, List.length_map]
  slot := fun i s z => by
    obtain ⟨hi, rfl⟩ := ownsOf_get z
    by_cases o : (own' (ρ[i]?.getD .un)).own = true
    · obtain ⟨e1, e2⟩ := own'_own o
      rw [e1]
      cases w : ρ[i]? with
      | none => rw [w] at e2; cases e2
      | some s =>
        rw [w] at e2
        have e2 : s.own = true := e2
        show SlOk K G H _ _ s
        have hg : vs[i]? = some vs[i] := List.getElem?_eq_getElem hi
        have hp : (vs.map some)[i]? = some (some vs[i]) := by rw [List.getElem?_map, hg]; rfl
        have pp := e.pin i s vs[i] w e2 hp
        have sl := e.slot i s w
        rw [pp] at sl
        refine (sl.mono (.refl _) fun a y => ⟨?_, rfl⟩).ov hp
        unfold moveT
        rw [if_neg (fun u => by rw [y] at u; exact hq i s w hi e2 (Option.some.inj u)), y]
        show (if i < vs.length then _ else _) = _
        rw [if_pos hi]
    · have : own' (ρ[i]?.getD .un) = .un := by
        unfold own' at o ⊢
        split
        · rename_i y; rw [if_pos y] at o; exact absurd y o
        · rfl
      rw [this]
      trivial
  pin := fun i s v z o p => p
theorem moveT_same {q n : Nat} {a : Addr} (h : ω a = some q) : moveT ω q n a = some n := by unfold moveT; rw [if_pos h]
end
theorem fin_ok {K : PySem.W.Frag} {G0 H0 G : Hp} {ω0 : Own} {ρ : Env} {σ : Stt} {H : Hp} {vs : List V} {v : V} {r : Rs} {Qd : Rs → List Sl → Prop} {Q : VK} {n : Nat} (hn : vs.length = n)
    (s : Same G0 G) (f : Fin K (baseOf T G0 H0 ω0 vs) G ρ σ H v r) (h : fin1 n Qd r ρ)
    (k : ∀ G' ω' v r args' H', Same G0 G' → EnvW K (baseOf T G0 H0 ω0 vs) G' ω' args' (vs.map some) H' → RsOk K G' H' ω' (vs.map some) v r → (∀ j, r ≠ .sl j) → Qd r args' → Q v H') : Q v H := by
  subst hn
  obtain ⟨ω, e, q⟩ := f
  have lt : ∀ i s, ρ[i]? = some s → i < vs.length → s.own = true → i ≠ σ.length := fun i s w _ _ z => by
    have := (List.getElem?_eq_some_iff.mp w).1
    have := e.len
    omega
  cases r with
  | dat d => exact k _ _ _ (.dat d) _ _ s (e.leave lt) q (fun _ z => by cases z) h
  | nw sl =>
    refine k _ _ _ (.nw sl) _ _ s (e.leave lt) ⟨q.1, ?_⟩ (fun _ z => by cases z) h
    refine q.2.mono (.refl _) fun a z => ⟨?_, rfl⟩
    rw [List.length_map]
    exact moveT_same z
  | sl j =>
    obtain ⟨hj, sl, e1, e2, h⟩ := h
    have lt' : ∀ i s, ρ[i]? = some s → i < vs.length → s.own = true → i ≠ j := fun i s w hi _ z => by omega
    refine k _ _ _ (.nw sl) _ _ s (e.leave lt') ⟨e2, ?_⟩ (fun _ z => by cases z) h
    have q' : σ[j]? = some (some v) := q
    refine ((e.slot j sl e1).mono (.refl _) fun a z => ⟨?_, rfl⟩).ov q'.symm
    rw [List.length_map]
    exact moveT_same z
theorem EnvW.ext {K : PySem.W.Frag} {B : Bs} {G : Hp} {ω : Own} {ρ : Env} {σ : Stt} {H : Hp} (e : EnvW K B G ω ρ σ H) (hp : B.P.length ≤ σ.length) (m : Nat) : EnvW K B G ω (ρ ++ List.replicate m .un) (σ ++ List.replicate m none) H where
  gle := e.gle
  g0 := e.g0
  keep := e.keep
  own := e.own
  len := by rw [List.length_append, List.length_append, List.length_replicate, List.length_replicate, e.len]
  slot := fun i s z => by
    by_cases hi : i < ρ.length
    · rw [List.getElem?_append_left hi] at z
      rw [List.getElem?_append_left (by rw [← e.len]; exact hi)]
      exact e.slot i s z
    · rw [List.getElem?_append_right (by omega), List.getElem?_replicate] at z
      split at z
      · cases z; trivial
      · cases z
  pin := fun i s v z o p => by
    by_cases hi : i < ρ.length
    · rw [List.getElem?_append_left hi] at z
      rw [List.getElem?_append_left (by rw [← e.len]; exact hi)]
      exact e.pin i s v z o p
    · rw [List.getElem?_append_right (by omega), List.getElem?_replicate] at z
      split at z
      · cases z; cases o
      · cases z
def Keeps (S : DSp) (n N : Nat) (t : DTS) : Prop := ∀ args Qd, args.length = n → S args Qd → t (dEnd n Qd) (args ++ List.replicate (N - n) .un)
theorem body_ok {K : PySem.W.Frag} {T : List (Addr × Str)} {S : DSp} {n : Nat} {N : List Str} {t : DTS} {vs : List V} {H : Hp} {Q : VK} {E : XK} (hS : Keeps S n N.length t) (h : toSp K T n S vs H Q E) :
    liftS K (.of T n) t { nx := fun _ H' => Q .non H', rt := Q } (L2.start N vs) H := by
  obtain ⟨G, ω, args, Qd, hn, e, hs, k⟩ := h
  have la : args.length = n := by rw [e.len, List.length_map]; exact hn
  refine ⟨baseOf T G H ω vs, G, args ++ List.replicate (N.length - n) .un, dEnd n Qd, .mk' (by show (vs.map some).length = n; rw [List.length_map]; exact hn) rfl trivial, ⟨ω, ?_⟩, hS args Qd la hs, ?_, ?_, fun _ _ _ _ _ _ z => z.elim, fun _ _ _ _ _ _ z => z.elim⟩
  · unfold L2.start
    rw [hn]
    exact e.ext (Nat.le_refl _) _
  · exact fun G' ρ' σ' H' s eo z => fin_ok hn s (eo.dat .non) z k
  · exact fun G' v r ρ' σ' H' s f z => fin_ok hn s f z k
section
variable {P : Program} {w : World} {K : PySem.W.Frag} {mg : Str → Option Value} {base : Heap} {T : List (Addr × Str)}
theorem ok_tree {x qual : Str} {st : Stmt} {f : Addr} {fd : FuncData} {N ps : List Str} {k : Nat} {S : DSp} {t : DTS} (F : Fun K x qual st f fd) (sc : FnScope N ps (defScope st))
    (hb : ∀ (cdv : Value) (A : Around) (outer : List PySem.Env) (s : Shared) (H : Hp) (E : XK), Room k (A.deeper (envOfC qual (defScope st) s.heap.objs.size f cdv)) →
      PSs (cxOf CX0 P w K mg base N qual (defScope st) f cdv A outer s H E).nox (defBody st) (liftS K (.of T ps.length) t))
    (hS : Keeps S ps.length N.length t) : FnOk P w K mg base CX0 (k + 1) f fd ps (toSp K T ps.length S) :=
  F.ok sc (fun vs H Q E ⟨_, _, _, _, h, _⟩ => h) fun cdv A outer s H vs Q E hr h => ⟨_, hb cdv A outer s H E hr, body_ok hS h⟩
end
def slotOf (ρ : Env) : Rs → Option Sl
  | .dat d => some (.fr d)
  | .sl i => match ρ[i]? with
    | some s => if s.own = true then some s else none
    | none => none
  | .nw _ => none
def slotsOf (ρ : Env) : List Rs → Option (List Sl)
  | [] => some []
  | r :: rs => match slotOf ρ r, slotsOf ρ rs with
    | some s, some ss => some (s :: ss)
    | _, _ => none
def isSl (i : Nat) : Rs → Bool
  | .sl j => j == i
  | _ => false
def slNd : List Rs → Bool
  | [] => true
  | .sl i :: rs => !(rs.any (isSl i)) && slNd rs
  | _ :: rs => slNd rs
def posOf : List Rs → Nat → Option Nat
  | [], _ => none
  | r :: rs, i => if isSl i r = true then some 0 else (posOf rs i).map (· + 1)
def backE (ρ : Env) : List Rs → List Sl → Env
  | .sl i :: rs, s :: ss => (backE ρ rs ss).set i (own' s)
  | _ :: rs, _ :: ss => backE ρ rs ss
  | _, _ => ρ
def dCall (n : Nat) (S : DSp) (t : DTA) : DTE := fun ρ Q => t ρ fun rs ρ1 => rs.length = n ∧ slNd rs = true ∧ match slotsOf ρ1 rs with
  | some args => S args fun r ss => Q r (backE ρ1 rs ss)
  | none => False
theorem isSl_iff {i : Nat} {r : Rs} (h : isSl i r = true) : r = .sl i := by
  cases r with
  | sl j => rw [beq_iff_eq.mp (show (j == i) = true from h)]
  | dat _ => cases h
  | nw _ => cases h
theorem isSl_self {i : Nat} : isSl i (.sl i) = true := beq_self_eq_true i
theorem posOf_get : ∀ {rs : List Rs} {i j : Nat}, posOf rs i = some j → rs[j]? = some (.sl i)
  | [], _, _, h => by cases h
  | r :: rs, i, j, h => by
    unfold posOf at h
    split at h
    · rename_i z; cases h; rw [isSl_iff z]; rfl
    · cases w : posOf rs i with
      | none => rw [w] at h; cases h
      | some l =>
        rw [w] at h
        cases h
        show rs[l]? = _
        exact posOf_get (rs := rs) w
theorem posOf_nd : ∀ {rs : List Rs} {i j : Nat}, slNd rs = true → rs[j]? = some (.sl i) → posOf rs i = some j
  | [], _, _, _, h => by simp at h
  | r :: rs, i, 0, _, h => by
    have : r = .sl i := by simpa using h
    subst this
    unfold posOf
    rw [if_pos isSl_self]
  | r :: rs, i, j + 1, nd, h => by
    have h' : rs[j]? = some (.sl i) := by simpa using h
    have mem : (Rs.sl i) ∈ rs := List.mem_of_getElem? h'
    have nd' : slNd rs = true ∧ isSl i r = false := by
      cases r with
      | sl k =>
        have z : (!(rs.any (isSl k)) && slNd rs) = true := nd
        rw [Bool.and_eq_true] at z
        refine ⟨z.2, ?_⟩
        cases y : isSl i (.sl k) with
        | false => rfl
        | true =>
          have : k = i := beq_iff_eq.mp (show (k == i) = true from y)
          subst this
          have : rs.any (isSl k) = true := List.any_eq_true.mpr ⟨_, mem, isSl_self⟩
          rw [this] at z
          exact absurd z.1 (by simp)
      | dat _ => exact ⟨nd, rfl⟩
      | nw _ => exact ⟨nd, rfl⟩
    unfold posOf
    rw [if_neg (by rw [nd'.2]; simp), posOf_nd nd'.1 h']
    rfl
theorem backE_length (ρ : Env) : ∀ (rs : List Rs) (ss : List Sl), (backE ρ rs ss).length = ρ.length
  | [], _ => by cases ‹List Sl› <;> rfl
  | r :: _, [] => by cases r <;> rfl
  | .sl i :: rs, s :: ss => by show ((backE ρ rs ss).set i _).length = _; rw [List.length_set, backE_length]
  | .dat _ :: rs, s :: ss => backE_length ρ rs ss
  | .nw _ :: rs, s :: ss => backE_length ρ rs ss
theorem backE_at (ρ : Env) : ∀ {rs : List Rs} {ss : List Sl} {i j : Nat}, rs.length = ss.length → posOf rs i = some j → (backE ρ rs ss)[i]? = if i < ρ.length then (ss[j]?).map own' else none
  | [], _, _, _, _, h => by cases h
  | r :: rs, [], _, _, hl, _ => by simp at hl
  | r :: rs, s :: ss, i, j, hl, h => by
    unfold posOf at h
    have hl' : rs.length = ss.length := by simpa using hl
    split at h
    · rename_i z
      cases h
      obtain rfl := isSl_iff z
      show ((backE ρ rs ss).set i (own' s))[i]? = _
      by_cases hi : i < ρ.length
      · rw [List.getElem?_set_self (by rw [backE_length]; exact hi), if_pos hi]; rfl
      · rw [if_neg hi, List.getElem?_eq_none (by rw [List.length_set, backE_length]; omega)]
    · rename_i z
      cases w : posOf rs i with
      | none => rw [w] at h; cases h
      | some l =>
        rw [w] at h
        cases h
        have ih := backE_at ρ (rs := rs) (ss := ss) hl' w
        show _ = if i < ρ.length then (ss[l]?).map own' else none
        rw [← ih]
        cases r with
        | sl k =>
          show ((backE ρ rs ss).set k (own' s))[i]? = _
          rw [List.getElem?_set_ne (fun y => z (by subst y; exact isSl_self))]
        | dat _ => rfl
        | nw _ => rfl
theorem backE_off (ρ : Env) : ∀ {rs : List Rs} {ss : List Sl} {i : Nat}, posOf rs i = none → (backE ρ rs ss)[i]? = ρ[i]?
  | [], ss, _, _ => by cases ss <;> rfl
  | r :: _, [], _, _ => by cases r <;> rfl
  | r :: rs, s :: ss, i, h => by
    unfold posOf at h
    split at h
    · cases h
    · rename_i z
      have w : posOf rs i = none := by
        cases w : posOf rs i with
        | none => rfl
        | some l => rw [w] at h; cases h
      have ih := backE_off ρ (rs := rs) (ss := ss) w
      rw [← ih]
      cases r with
      | sl k =>
        show ((backE ρ rs ss).set k (own' s))[i]? = _
        rw [List.getElem?_set_ne (fun y => z (by subst y; exact isSl_self))]
      | dat _ => rfl
      | nw _ => rfl
theorem slotsOf_get {ρ : Env} : ∀ {rs : List Rs} {ss : List Sl} {i : Nat} {s : Sl}, slotsOf ρ rs = some ss → ss[i]? = some s → ∃ r, rs[i]? = some r ∧ slotOf ρ r = some s
  | [], ss, _, _, h, e => by cases h; simp at e
  | r :: rs, ss, i, s, h, e => by
    unfold slotsOf at h
    cases h1 : slotOf ρ r with
    | none => rw [h1] at h; cases h
    | some s1 =>
      cases h2 : slotsOf ρ rs with
      | none => rw [h1, h2] at h; cases h
      | some ss2 =>
        rw [h1, h2] at h
        cases h
        cases i with
        | zero => simp at e; subst e; exact ⟨r, rfl, h1⟩
        | succ i => exact slotsOf_get (i := i) h2 (by simpa using e)
theorem slotsOf_length {ρ : Env} : ∀ {rs : List Rs} {ss : List Sl}, slotsOf ρ rs = some ss → ss.length = rs.length
  | [], ss, h => by cases h; rfl
  | r :: rs, ss, h => by
    unfold slotsOf at h
    cases h1 : slotOf ρ r with
    | none => rw [h1] at h; cases h
    | some s1 =>
      cases h2 : slotsOf ρ rs with
      | none => rw [h1, h2] at h; cases h
      | some ss2 => rw [h1, h2] at h; cases h; rw [List.length_cons, List.length_cons, slotsOf_length h2]
theorem ArgsOk.get {K : PySem.W.Frag} {G : Hp} {σ : Stt} : ∀ {vs : List V} {rs : List Rs} {i : Nat} {r : Rs}, ArgsOk K G σ vs rs → rs[i]? = some r → ∃ v, vs[i]? = some v ∧ ArgOk K G σ v r
  | _, _, _, _, .nil, e => by simp at e
  | _, _, 0, _, .cons a _, e => by simp at e; subst e; exact ⟨_, rfl, a⟩
  | _, _, i + 1, _, .cons _ t, e => by
    obtain ⟨v, h1, h2⟩ := ArgsOk.get (i := i) t (by simpa using e)
    exact ⟨v, by simpa using h1, h2⟩
theorem ArgsOk.length {K : PySem.W.Frag} {G : Hp} {σ : Stt} : ∀ {vs : List V} {rs : List Rs}, ArgsOk K G σ vs rs → vs.length = rs.length
  | _, _, .nil => rfl
  | _, _, .cons _ t => congrArg (· + 1) t.length
def inW (ω : Own) (rs : List Rs) : Own := fun a => match ω a with
  | some i => posOf rs i
  | none => none
def outW (ω ω' : Own) (rs : List Rs) (n l : Nat) : Own := fun a => match ω' a with
  | some j => (match rs[j]? with
    | some (.sl i) => some i
    | _ => if j = n then some l else none)
  | none => (match ω a with
    | some i => if posOf rs i = none then some i else none
    | none => none)
section
variable {K : PySem.W.Frag} {B : Bs} {G : Hp} {ω : Own} {ρ : Env} {σ : Stt} {H : Hp} {vs : List V} {rs : List Rs} {args : List Sl}
theorem EnvW.enter (e : EnvW K B G ω ρ σ H) (ar : ArgsOk K G σ vs rs) (nd : slNd rs = true) (hs : slotsOf ρ rs = some args) : EnvW K (baseOf B.T G H (inW ω rs) vs) G (inW ω rs) args (vs.map some) H where
  gle := e.gle
  g0 := fun a o q => .inl q
  keep := {
    old := fun a o q _ _ => q
    tin := fun a t => by
      obtain ⟨h1, h2, ps, h3⟩ := e.tab t
      refine ⟨h1, fun z => z ?_, ps, h3⟩
      unfold inW
      rw [h2]
    tabs := e.keep.tabs }
  own := fun a j q => by
    have q0 := q
    unfold inW at q
    split at q
    · rename_i i w
      obtain ⟨h1, h2, _⟩ := e.own a i w
      exact ⟨h1, h2, .inl (by show inW ω rs a ≠ none; rw [q0]; simp)⟩
    · cases q
  len := by rw [List.length_map, slotsOf_length hs, ar.length]
  slot := fun j s q => by
    obtain ⟨r, hr, es⟩ := slotsOf_get hs q
    obtain ⟨v, hv, ao⟩ := ar.get hr
    have hp : (vs.map some)[j]? = some (some v) := by rw [List.getElem?_map, hv]; rfl
    rw [hp]
    cases ao with
    | dat rp => cases es; exact ⟨_, rfl, rp⟩
    | sl hσ =>
      rename_i i
      have es' : (match ρ[i]? with | some s => if s.own = true then some s else none | none => none) = some s := es
      cases w : ρ[i]? with
      | none => rw [w] at es'; cases es'
      | some s1 =>
        rw [w] at es'
        dsimp only at es'
        split at es'
        · cases es'
          have sl := e.slot i _ w
          rw [hσ] at sl
          exact sl.mono (.refl _) fun a z => ⟨by unfold inW; rw [z]; exact posOf_nd nd hr, rfl⟩
        · cases es'
  pin := fun i s v z o p => p
theorem EnvW.back2 {G' H' : Hp} {ω' : Own} {ss : List Sl} (e : EnvW K B G ω ρ σ H) (ar : ArgsOk K G σ vs rs) (nd : slNd rs = true) (hs : slotsOf ρ rs = some args) (s : Same G G')
    (f : EnvW K (baseOf B.T G H (inW ω rs) vs) G' ω' ss (vs.map some) H') : EnvW K B G' (outW ω ω' rs vs.length σ.length) (backE ρ rs ss) σ H' := by
  have lr := ar.length
  have ls : rs.length = ss.length := by rw [f.len, List.length_map]; exact lr.symm
  have inO : ∀ a, inW ω rs a ≠ none → B.A0 a ∨ B.H0 a = none := fun a z => by
    unfold inW at z
    cases w : ω a with
    | none => rw [w] at z; exact absurd rfl z
    | some i => exact (e.own a i w).2.2
  have off : ∀ a i, ω a = some i → posOf rs i = none → G' a = none ∧ H' a = H a ∧ ω' a = none := fun a i w p => by
    obtain ⟨h1, h2, h3⟩ := e.own a i w
    have na : ¬ inW ω rs a ≠ none := fun z => z (by unfold inW; rw [w]; exact p)
    cases q : H a with
    | none => exact absurd q h2
    | some o =>
      have nt : ¬ (baseOf B.T G H (inW ω rs) vs).tab a := fun t => by
        have := (e.tab (show B.tab a from t)).2.1
        rw [w] at this; cases this
      refine ⟨?_, f.keep.old a o q na nt, ?_⟩
      · cases y : G' a with
        | none => rfl
        | some u =>
          rcases f.g0 a u y with y | y | y
          · have y' : G a = some u := y
            rw [h1] at y'; cases y'
          · have y' : H a = none := y
            rw [q] at y'; cases y'
          · exact absurd y na
      · cases y : ω' a with
        | none => rfl
        | some j =>
          rcases (f.own a j y).2.2 with y | y
          · exact absurd y na
          · have y' : H a = none := y
            rw [q] at y'; cases y'
  refine ⟨f.gle, fun a o q => ?_, ⟨fun a o q n t => ?_, e.keep.tin, f.keep.tabs⟩, fun a i q => ?_, by rw [backE_length]; exact e.len, fun i sl q => ?_, fun i sl v q o p => ?_⟩
  · rcases f.g0 a o q with q | q | q
    · exact e.g0 a o q
    · rcases e.gone (show H a = none from q) with z | z
      · exact .inr (.inr z)
      · exact .inr (.inl z)
    · rcases inO a q with z | z
      · exact .inr (.inr z)
      · exact .inr (.inl z)
  · refine f.keep.old a o (e.keep.old a o q n t) (fun z => ?_) t
    rcases inO a z with y | y
    · exact n y
    · rw [q] at y; cases y
  · unfold outW at q
    cases w : ω' a with
    | some j =>
      obtain ⟨h1, h2, h3⟩ := f.own a j w
      refine ⟨h1, h2, ?_⟩
      rcases h3 with z | z
      · exact inO a z
      · exact e.gone z
    | none =>
      rw [w] at q
      dsimp only at q
      cases y : ω a with
      | none => rw [y] at q; cases q
      | some k =>
        rw [y] at q
        dsimp only at q
        split at q
        · rename_i pn
          cases q
          obtain ⟨z1, z2, _⟩ := off a i y pn
          obtain ⟨_, h2, h3⟩ := e.own a i y
          exact ⟨z1, by rw [z2]; exact h2, h3⟩
        · cases q
  · cases p : posOf rs i with
    | none =>
      rw [backE_off ρ p] at q
      refine (e.slot i sl q).mono s fun a z => ?_
      obtain ⟨z1, z2, z3⟩ := off a i z p
      refine ⟨?_, z2⟩
      unfold outW
      rw [z3]
      dsimp only
      rw [z]
      dsimp only
      rw [if_pos p]
    | some j =>
      rw [backE_at ρ ls p] at q
      have hr := posOf_get p
      obtain ⟨v, hv, ao⟩ := ar.get hr
      cases ao with
      | sl hσ =>
        split at q
        · cases w : ss[j]? with
          | none => rw [w] at q; cases q
          | some s1 =>
            rw [w] at q
            cases q
            by_cases o : s1.own = true
            · have : own' s1 = s1 := if_pos o
              rw [this]
              have sl := f.slot j s1 w
              have hp : (vs.map some)[j]? = some (some v) := by rw [List.getElem?_map, hv]; rfl
              rw [hp] at sl
              rw [hσ]
              refine sl.mono (.refl _) fun a z => ⟨?_, rfl⟩
              unfold outW
              rw [z]
              dsimp only
              rw [hr]
            · have : own' s1 = .un := if_neg o
              rw [this]
              trivial
        · cases q
  · cases w : posOf rs i with
    | none =>
      rw [backE_off ρ w] at q
      exact e.pin i sl v q o p
    | some j =>
      have hr := posOf_get w
      have hj : j < args.length := by
        rw [slotsOf_length hs]
        exact (List.getElem?_eq_some_iff.mp hr).1
      obtain ⟨r, hr', es⟩ := slotsOf_get hs (List.getElem?_eq_getElem hj)
      rw [hr] at hr'
      cases hr'
      have es' : (match ρ[i]? with | some s => if s.own = true then some s else none | none => none) = some args[j] := es
      cases y : ρ[i]? with
      | none => rw [y] at es'; cases es'
      | some s1 =>
        rw [y] at es'
        dsimp only at es'
        split at es'
        · rename_i o1
          exact e.pin i s1 v y o1 p
        · cases es'
theorem outW_tag {ω' : Own} {n l : Nat} {a : Addr} (hn : rs.length = n) (h : ω' a = some n) : outW ω ω' rs n l a = some l := by
  unfold outW
  rw [h]
  dsimp only
  rw [List.getElem?_eq_none (by omega)]
  dsimp only
  rw [if_pos rfl]
end
theorem call_ok {K : PySem.W.Frag} {np : Np} {n : Nat} {S : DSp} {t : DTA} {E : XK} (σ : Stt) (H : Hp) (Q : VK) (h : lift K np (dCall n S t) σ H Q) : liftA K np t σ H fun vs H1 => toSp K np.T n S vs H1 Q E := by
  obtain ⟨B, G, ρ, Qd, hn, eo, h, k⟩ := h
  refine ⟨B, G, ρ, _, hn, eo, h, fun G1 vs rs ρ1 H1 s1 e1 ar q1 => ?_⟩
  obtain ⟨ω1, e1⟩ := e1
  obtain ⟨hl, nd, q1⟩ := q1
  split at q1
  · rename_i args hs
    refine ⟨G1, inW ω1 rs, args, _, by rw [ar.length]; exact hl, by rw [← hn.T]; exact e1.enter ar nd hs, q1, fun G' ω' v r ss H' s f rr nsl q => ?_⟩
    rw [← hn.T] at f
    have e2 := e1.back2 ar nd hs s f
    refine k _ _ _ _ _ (s1.trans s) ⟨_, e2, ?_⟩ q
    cases r with
    | dat d => exact rr
    | sl j => exact absurd rfl (nsl j)
    | nw sl =>
      refine ⟨rr.1, rr.2.mono (.refl _) fun a z => ⟨?_, rfl⟩⟩
      rw [List.length_map] at z
      exact outW_tag ar.length.symm z
  · exact q1.elim
section
variable {X : Cx} {CX : CXT} {k n : Nat} {f : Addr} {fd : FuncData} {ps : List Str} {S : DSp} {E : XK} {x : Str} {p pos : Pos} {e : Expr} {es : List Expr} {t : DTA} {np : Np}
theorem d_call (F : FnOk X.prog X.w X.K X.mg X.base CX k f fd ps (toSp X.K np.T n S)) (hr : Room k X.A) (hg : Gl X x) (hm : X.mg x = some (.ref f)) (hk : PySem.W.keepIn X.K (.ref f) = true) (hb : Binds X.K fd ps []) (hx : Passes CX X E)
    (ha : PA X (e :: es) (liftA X.K np t)) (hdb : (x == ("__debug__" : Str)) = false := by decide) (he : starEach (e :: es) X.env = (false, eval e X.env) :: starEach es X.env := by rfl) (hpl : (backTo pos (starEach es X.env)).any (·.1) = false := by rfl) :
    PE X (.Call (.Name x p) (e :: es) [] pos) (lift X.K np (dCall n S t)) := by
  refine (pe_call F hr hg hm hk hb .nil hx ha hdb he hpl).mo fun σ H Q h => ?_
  have := call_ok (E := E) σ H Q h
  obtain ⟨B, G, ρ, Qd, a, b, c, d⟩ := this
  exact ⟨B, G, ρ, Qd, a, b, c, fun G' vs rs ρ' H' s e ar q => by show toSp X.K np.T n S (vs ++ []) H' Q E; rw [List.append_nil]; exact d _ _ _ _ _ s e ar q⟩
end
end TL
namespace TL
open PySem PySem.Spec PyProof.Rows L2
def sel {α : Type} (π : List Nat) (xs : List α) : List α := π.filterMap fun i => xs[i]?
section
variable {X : Cx} {CX : CXT} {k n : Nat} {f : Addr} {fd : FuncData} {ps ks : List Str} {sp : Sp} {S : DSp} {E : XK} {x : Str} {p pos kpos : Pos} {e : Expr} {es : List Expr} {kws : List Keyword} {t tk : TA} {te : DTE} {ts : DTA} {np : Np} {nm : Option Str}
  {g : List Value → List Value → List Value} {gV : List V → List V → List V}
theorem _root_.L2.PK.mo {t t' : TA} (h : PK X kws t) (m : ∀ σ H Q, t' σ H Q → t σ H Q) : PK X kws t' := ⟨fun pos pins s σ H Q I q => h.run pos pins s σ H Q I (m _ _ _ q)⟩
theorem dk_nil : PK X [] (liftA X.K np dNil) := pk_nil.mo fun σ H Q ⟨B, G, ρ, Qd, hn, eo, h, k⟩ => k _ _ _ _ _ (.refl _) eo .nil h
theorem dk_cons (ha : PE X e (lift X.K np te)) (hr : PK X kws (liftA X.K np ts)) : PK X (⟨nm, e, kpos⟩ :: kws) (liftA X.K np (dCons te ts)) := by
  refine (pk_cons ha hr).mo fun σ H Q h => ?_
  obtain ⟨B, G, ρ, Qd, hn, eo, h, k⟩ := h
  refine ⟨B, G, ρ, _, hn, eo, h, fun G1 v r ρ1 H1 s1 f1 q1 => ?_⟩
  obtain ⟨G2, s2, f2⟩ := f1.stl
  have key : ∀ r', r' = stl r → ArgOk X.K G2 σ v r' → ts ρ1 (fun rs ρ2 => Qd (r' :: rs) ρ2) → liftA X.K np ts σ H1 fun xs H2 => Q (v :: xs) H2 := fun r' er ao q =>
    ⟨B, G2, ρ1, _, hn, f2.env, q, fun G' vs rs ρ' H' s e ar qq => k _ _ _ _ _ ((s1.trans s2).trans s) e (.cons (ao.mono s) ar) qq⟩
  obtain ⟨ω, e2, r2⟩ := f2
  cases hr : stl r with
  | dat d => rw [hr] at q1 r2; exact key _ hr.symm (.dat r2) q1
  | sl i => rw [hr] at q1 r2; exact key _ hr.symm (.sl r2) q1
  | nw s => rw [hr] at q1; exact q1.elim
theorem ArgsOk.sel {K : PySem.W.Frag} {G : Hp} {σ : Stt} {vs : List V} {rs : List Rs} (a : ArgsOk K G σ vs rs) : ∀ π : List Nat, ArgsOk K G σ (TL.sel π vs) (TL.sel π rs)
  | [] => .nil
  | i :: π => by
    unfold TL.sel
    rw [List.filterMap_cons, List.filterMap_cons]
    cases h : rs[i]? with
    | none =>
      have : vs[i]? = none := List.getElem?_eq_none (by have := a.length; have := List.getElem?_eq_none_iff.mp h; omega)
      rw [this]
      exact a.sel π
    | some r =>
      obtain ⟨v, hv, ao⟩ := a.get h
      rw [hv]
      exact .cons ao (a.sel π)
end
theorem vals_sel {vs : List V} {us : List Value} (r : Vals vs us) : ∀ π : List Nat, Vals (sel π vs) (sel π us)
  | [] => .nil
  | i :: π => by
    unfold TL.sel
    rw [List.filterMap_cons, List.filterMap_cons]
    cases h : vs[i]? with
    | none =>
      have : us[i]? = none := List.getElem?_eq_none (by have := r.length; have := List.getElem?_eq_none_iff.mp h; omega)
      rw [this]
      exact vals_sel r π
    | some v =>
      obtain ⟨u, hu, rv⟩ := r.get h
      rw [hu]
      exact .cons rv (vals_sel r π)
structure FnG (P : Program) (w : World) (K : PySem.W.Frag) (mg : Str → Option Value) (base : Heap) (CX : CXT) (k : Nat) (f : Addr) (fd : FuncData) (ps : List Str) (sp : Sp) : Prop where
  cnt : ∀ xs H Q E, sp xs H Q E → xs.length = ps.length
  go : ∀ (A : Around) (up : List PySem.Env) (st : Shared) (H : Hp) (ar : Args) (us : List Value) (xs : List V) (Q : VK) (E : XK), A.guards = some [] → Room k A → Env0 P w K mg base A up st H → BindsTo st fd ar (ps.zip us) → Vals xs us → sp xs H Q E →
    codeAny (model P w) A (.call (.ref f) ar) (CR CX up P w H st Q E) st
end TL
namespace TL
open PySem PySem.Spec PyProof.Rows L2
def stK (L C : Addr) (r t : Int) : List (Key × V) := [(Sum.inr "large", .ref L), (Sum.inr "cells", .ref C), (Sum.inr "rest", .int r), (Sum.inr "turn", .int t)]
section
variable {L C : Addr} {r t z : Int}
theorem putK_new {kvs : List (Key × V)} {k : Key} {v : V} (h : valV kvs k = none) : putK kvs k v = kvs ++ [(k, v)] := by
  unfold putK
  rw [if_neg (by rw [valV_any, h]; simp)]
end
theorem EnvW.mutG {K : PySem.W.Frag} {B : Bs} {G : Hp} {ω : Own} {ρ : Env} {σ : Stt} {H : Hp} (e : EnvW K B G ω ρ σ H) {i : Nat} {s s' : Sl} {p : Addr} {o : HO} (hs : ρ[i]? = some s) (ho : s.own = true) (hp : ω p = some i)
    (hn : SlOk K G (upd H p o) (fun a => ω a = some i) σ[i]? s') : EnvW K B G ω (ρ.set i s') σ (upd H p o) := by
  obtain ⟨g1, g2, g3⟩ := e.own p i hp
  refine ⟨fun a u q => ?_, e.g0, e.keep.upd g3, fun a j q => ?_, by rw [List.length_set]; exact e.len, fun j sl q => ?_, fun j sl w q o' pp => ?_⟩
  · rw [upd_ne (fun z => by subst z; rw [g1] at q; cases q)]; exact e.gle _ _ q
  · obtain ⟨h1, h2, h3⟩ := e.own a j q
    refine ⟨h1, ?_, h3⟩
    by_cases ha : a = p
    · subst ha; rw [upd_same]; simp
    · rw [upd_ne ha]; exact h2
  · by_cases hj : j = i
    · subst hj
      have hl : j < ρ.length := by have := (List.getElem?_eq_some_iff.mp q).1; rwa [List.length_set] at this
      rw [List.getElem?_set_self hl] at q
      cases q
      exact hn
    · rw [List.getElem?_set_ne (Ne.symm hj)] at q
      exact (e.slot j sl q).mono (.refl _) fun a z => ⟨z, upd_ne fun w => by subst w; rw [hp] at z; exact hj (Option.some.inj z).symm⟩
  · by_cases hj : j = i
    · subst hj
      exact e.pin j s w hs ho pp
    · rw [List.getElem?_set_ne (Ne.symm hj)] at q
      exact e.pin j sl w q o' pp
section
variable {K : PySem.W.Frag} {B : Bs} {G : Hp} {ω : Own} {ρ : Env} {σ : Stt} {H : Hp} {i b : Nat} {Lg Cs : List Int} {r t : Int}
theorem EnvW.st (e : EnvW K B G ω ρ σ H) (h : ρ[i]? = some (.rs (.stx Lg Cs r t b))) : ∃ S L C, σ[i]? = some (some (.ref S)) ∧ ω S = some i ∧ ω L = some i ∧ H S = some (.dK (stK L C r t)) ∧ H L = some (.lst (Lg.map V.int)) ∧ G C = some (.lst (Cs.map V.int)) ∧
    Lg.length ≤ 63 ∧ Cs.length ≤ 63 ∧ 0 ≤ t ∧ t + b ≤ 1000000000000 := by
  obtain ⟨v, e1, S, L, C, rfl, f1, f2, h1, h2, h3, h4⟩ := e.slot i _ h
  exact ⟨S, L, C, e1, f1, f2, h1, h2, h3, h4⟩
end
def WX (o : Option Sl) (P : List Int → List Int → Int → Int → Nat → Prop) : Prop := match o with
  | some (.rs (.stx L C r t b)) => P L C r t b
  | _ => False
theorem WX.of {o : Option Sl} {P : List Int → List Int → Int → Int → Nat → Prop} (h : WX o P) : ∃ L C r t b, o = some (.rs (.stx L C r t b)) ∧ P L C r t b := by
  unfold WX at h
  split at h
  · exact ⟨_, _, _, _, _, rfl, h⟩
  · exact h.elim
end TL
namespace TL
open PySem PySem.Spec PyProof.Rows L2
def sgK (L C : Addr) (r t : Int) : List (Key × V) := [(Sum.inr "great", .ref L), (Sum.inr "cells", .ref C), (Sum.inr "rest", .int r), (Sum.inr "turn", .int t)]
theorem gLC : ¬ (Sum.inr ("great" : Str) : Key) = Sum.inr ("cells" : Str) := by decide +kernel
theorem gLR : ¬ (Sum.inr ("great" : Str) : Key) = Sum.inr ("rest" : Str) := by decide +kernel
theorem gLT : ¬ (Sum.inr ("great" : Str) : Key) = Sum.inr ("turn" : Str) := by decide +kernel
theorem gCR : ¬ (Sum.inr ("cells" : Str) : Key) = Sum.inr ("rest" : Str) := by decide +kernel
theorem gCT : ¬ (Sum.inr ("cells" : Str) : Key) = Sum.inr ("turn" : Str) := by decide +kernel
theorem gRT : ¬ (Sum.inr ("rest" : Str) : Key) = Sum.inr ("turn" : Str) := by decide +kernel
section
variable {L C : Addr} {r t z : Int}
theorem sgK_large : valV (sgK L C r t) (Sum.inr "great") = some (.ref L) := valV_pos rfl
theorem sgK_cells : valV (sgK L C r t) (Sum.inr "cells") = some (.ref C) := (valV_neg gLC).trans (valV_pos rfl)
theorem sgK_rest : valV (sgK L C r t) (Sum.inr "rest") = some (.int r) := (valV_neg gLR).trans ((valV_neg gCR).trans (valV_pos rfl))
theorem sgK_turn : valV (sgK L C r t) (Sum.inr "turn") = some (.int t) := (valV_neg gLT).trans ((valV_neg gCT).trans ((valV_neg gRT).trans (valV_pos rfl)))
theorem sgK_setRest : putK (sgK L C r t) (Sum.inr "rest") (.int z) = sgK L C z t := by
  unfold putK
  rw [if_pos (by rw [valV_any, sgK_rest]; rfl)]
  unfold sgK
  simp only [List.map_cons, List.map_nil, if_neg gLR, if_neg gCR, if_pos, if_neg (fun h => gRT (Eq.symm h))]
theorem sgK_setTurn : putK (sgK L C r t) (Sum.inr "turn") (.int z) = sgK L C r z := by
  unfold putK
  rw [if_pos (by rw [valV_any, sgK_turn]; rfl)]
  unfold sgK
  simp only [List.map_cons, List.map_nil, if_neg gLT, if_neg gCT, if_neg gRT, if_pos]
theorem putK_newg {kvs : List (Key × V)} {k : Key} {v : V} (h : valV kvs k = none) : putK kvs k v = kvs ++ [(k, v)] := by
  unfold putK
  rw [if_neg (by rw [valV_any, h]; simp)]
theorem sgK_merge : mergeK [] (sgK L C r t) = sgK L C r t := by
  show putK (putK (putK (putK ([] : List (Key × V)) (Sum.inr ("great" : Str)) (V.ref L)) (Sum.inr ("cells" : Str)) (V.ref C)) (Sum.inr ("rest" : Str)) (V.int r)) (Sum.inr ("turn" : Str)) (V.int t) = _
  have e1 : putK ([] : List (Key × V)) (Sum.inr ("great" : Str)) (V.ref L) = ([(Sum.inr ("great" : Str), V.ref L)] : List (Key × V)) := putK_newg valV_nil
  have e2 : putK ([(Sum.inr ("great" : Str), V.ref L)] : List (Key × V)) (Sum.inr ("cells" : Str)) (V.ref C) = [(Sum.inr ("great" : Str), V.ref L), (Sum.inr ("cells" : Str), V.ref C)] := putK_newg ((valV_neg gLC).trans valV_nil)
  have e3 : putK ([(Sum.inr ("great" : Str), V.ref L), (Sum.inr ("cells" : Str), V.ref C)] : List (Key × V)) (Sum.inr ("rest" : Str)) (V.int r) = [(Sum.inr ("great" : Str), V.ref L), (Sum.inr ("cells" : Str), V.ref C), (Sum.inr ("rest" : Str), V.int r)] := putK_newg ((valV_neg gLR).trans ((valV_neg gCR).trans valV_nil))
  rw [e1, e2, e3]
  exact putK_newg ((valV_neg gLT).trans ((valV_neg gCT).trans ((valV_neg gRT).trans valV_nil)))
end
section
variable {K : PySem.W.Frag} {B : Bs} {G : Hp} {ω : Own} {ρ : Env} {σ : Stt} {H : Hp} {i b : Nat} {Lg Cs : List Int} {r t : Int}
theorem EnvW.sg (e : EnvW K B G ω ρ σ H) (h : ρ[i]? = some (.rs (.sgx Lg Cs r t b))) : ∃ S L C, σ[i]? = some (some (.ref S)) ∧ ω S = some i ∧ ω L = some i ∧ H S = some (.dK (sgK L C r t)) ∧ H L = some (.lst (Lg.map V.int)) ∧ G C = some (.lst (Cs.map V.int)) ∧
    Lg.length ≤ 63 ∧ Cs.length ≤ 63 ∧ 0 ≤ t ∧ t + b ≤ 1000000000000 := by
  obtain ⟨v, e1, S, L, C, rfl, f1, f2, h1, h2, h3, h4⟩ := e.slot i _ h
  exact ⟨S, L, C, e1, f1, f2, h1, h2, h3, h4⟩
theorem EnvW.sgSet (e : EnvW K B G ω ρ σ H) (h : ρ[i]? = some (.rs (.sgx Lg Cs r t b))) {r' t' : Int} {b' : Nat} (ht : 0 ≤ t' ∧ t' + b' ≤ 1000000000000) {S L C : Addr} (e1 : σ[i]? = some (some (.ref S))) (h1 : H S = some (.dK (sgK L C r t))) :
    EnvW K B G ω (ρ.set i (.rs (.sgx Lg Cs r' t' b'))) σ (upd H S (.dK (sgK L C r' t'))) := by
  obtain ⟨S', L', C', e1', f1, f2, h1', h2, h3, h4, h5, _⟩ := e.sg h
  rw [e1] at e1'
  cases e1'
  rw [h1] at h1'
  have : L = L' ∧ C = C' := by
    unfold sgK at h1'
    simp at h1'
    exact h1'
  obtain ⟨rfl, rfl⟩ := this
  have ne : L ≠ S := fun z => by subst z; rw [h1] at h2; cases h2
  refine e.mutG h rfl f1 ⟨.ref S, e1, S, L, C, rfl, f1, f2, upd_same, ?_, h3, h4, h5, ht⟩
  rw [upd_ne ne]
  exact h2
theorem EnvW.sgPop {x : Int} (e : EnvW K B G ω ρ σ H) (h : ρ[i]? = some (.rs (.sgx (x :: Lg) Cs r t b))) {S L C : Addr} (e1 : σ[i]? = some (some (.ref S))) (h1 : H S = some (.dK (sgK L C r t))) :
    EnvW K B G ω (ρ.set i (.rs (.sgx Lg Cs r t b))) σ (upd H L (.lst (Lg.map V.int))) := by
  obtain ⟨S', L', C', e1', f1, f2, h1', h2, h3, h4, h5, h6⟩ := e.sg h
  rw [e1] at e1'
  cases e1'
  rw [h1] at h1'
  have : L = L' ∧ C = C' := by
    unfold sgK at h1'
    simp at h1'
    exact h1'
  obtain ⟨rfl, rfl⟩ := this
  have ne : S ≠ L := fun z => by subst z; rw [h1] at h2; cases h2
  refine e.mutG h rfl f2 ⟨.ref S, e1, S, L, C, rfl, f1, f2, ?_, upd_same, h3, ?_, h5, h6⟩
  · rw [upd_ne ne]
    exact h1
  · rw [List.length_cons] at h4
    omega
theorem EnvW.opg (e : EnvW K B G ω ρ σ H) (h : ρ[i]? = some (.rs (.sg b))) : ∃ (Lg Cs : List Int) (r t : Int), Lg.length ≤ 63 ∧ Cs.length ≤ 63 ∧ 0 ≤ t ∧ t + b ≤ 1000000000000 ∧ EnvW K B G ω (ρ.set i (.rs (.sgx Lg Cs r t b))) σ H := by
  obtain ⟨v, e1, lg, cs, r, t, hx⟩ := e.slot i _ h
  have hx0 := hx
  obtain ⟨S, L, C, rfl, f1, f2, h1, h2, h3, h4, h5, h6, h7⟩ := hx
  refine ⟨lg, cs, r, t, h4, h5, h6, h7, ?_⟩
  have := e.mutG (o := .dK (sgK L C r t)) h rfl f1 (s' := .rs (.sgx lg cs r t b)) ⟨.ref S, e1, S, L, C, rfl, f1, f2, upd_same, by rw [upd_ne (fun z => by subst z; rw [h1] at h2; cases h2)]; exact h2, h3, h4, h5, h6, h7⟩
  rwa [show upd H S (.dK (sgK L C r t)) = H from by
    funext a
    by_cases ha : a = S
    · subst ha; rw [upd_same]; exact h1.symm
    · rw [upd_ne ha]] at this
theorem EnvW.shug (e : EnvW K B G ω ρ σ H) (h : ρ[i]? = some (.rs (.sgx Lg Cs r t b))) : EnvW K B G ω (ρ.set i (.rs (.sg b))) σ H := by
  obtain ⟨S, L, C, e1, f1, f2, h1, h2, h3, h4, h5, h6, h7⟩ := e.sg h
  have := e.mutG (o := .dK (sgK L C r t)) h rfl f1 (s' := .rs (.sg b)) ⟨.ref S, e1, Lg, Cs, r, t, S, L, C, rfl, f1, f2, upd_same, by rw [upd_ne (fun z => by subst z; rw [h1] at h2; cases h2)]; exact h2, h3, h4, h5, h6, h7⟩
  rwa [show upd H S (.dK (sgK L C r t)) = H from by
    funext a
    by_cases ha : a = S
    · subst ha; rw [upd_same]; exact h1.symm
    · rw [upd_ne ha]] at this
end
def WG (o : Option Sl) (P : List Int → List Int → Int → Int → Nat → Prop) : Prop := match o with
  | some (.rs (.sgx L C r t b)) => P L C r t b
  | _ => False
theorem WG.of {o : Option Sl} {P : List Int → List Int → Int → Int → Nat → Prop} (h : WG o P) : ∃ L C r t b, o = some (.rs (.sgx L C r t b)) ∧ P L C r t b := by
  unfold WG at h
  split at h
  · exact ⟨_, _, _, _, _, rfl, h⟩
  · exact h.elim
def shug1 (i : Nat) (P : Env → Prop) : Env → Prop := fun ρ => WG ρ[i]? fun _ _ _ _ b => P (ρ.set i (.rs (.sg b)))
def dDrawG (i : Nat) (u : DTS) : DTS := fun D ρ => ∃ b, ρ[i]? = some (.rs (.sg b)) ∧ ∀ (L C : List Int) (r t : Int), L.length ≤ 63 → C.length ≤ 63 → 0 ≤ t → t + b ≤ 1000000000000 →
  u { nx := shug1 i D.nx, rt := fun x => match x with | .dat d => shug1 i (D.rt (.dat d)) | _ => fun _ => False, bk := shug1 i D.bk, ct := shug1 i D.ct } (ρ.set i (.rs (.sgx L C r t b)))
def dSgRest (i : Nat) : DTE := fun ρ Q => WG ρ[i]? fun _ _ r _ _ => Q (.dat (.int r)) ρ
def dSgTurn (i : Nat) : DTE := fun ρ Q => WG ρ[i]? fun _ _ _ t _ => Q (.dat (.int t)) ρ
def dSgCells (i : Nat) : DTE := fun ρ Q => WG ρ[i]? fun _ C _ _ _ => Q (.dat (.lst (C.map .int))) ρ
def dSgAny (i : Nat) : DTT := fun ρ Q => WG ρ[i]? fun L _ _ _ _ => Q (!L.isEmpty) ρ
def dSgPop (i : Nat) : DTE := fun ρ Q => WG ρ[i]? fun L C r t b => match L with
  | x :: L' => Q (.dat (.int x)) (ρ.set i (.rs (.sgx L' C r t b)))
  | [] => False
def dSgSetRest (i : Nat) (te : DTE) : DTS := fun D ρ => te ρ fun x ρ1 => match x with
  | .dat (.int z) => WG ρ1[i]? fun L C _ t b => D.nx (ρ1.set i (.rs (.sgx L C z t b)))
  | _ => False
def dSgSetTurn (i : Nat) (te : DTE) : DTS := fun D ρ => te ρ fun x ρ1 => match x with
  | .dat (.int z) => WG ρ1[i]? fun L C r t b => ∃ b', z = t + 1 ∧ b = b' + 1 ∧ D.nx (ρ1.set i (.rs (.sgx L C r z b')))
  | _ => False
section
variable {X : Cx} {np : Np} {x : Str} {p p2 pos : Pos} {j : Option Str} {te : DTE} {e : Expr} {st : Stmt} {sts : List Stmt} {u : DTS}
theorem sgN {i : Expr} {x j pos} (h : i = .Constant (.str x) j pos) : NoSl i := by subst h; intro o iv; rfl
theorem sg_key (i : Nat) {key : Str} {f : List Int → List Int → Int → Int → V} {d : List Int → List Int → Int → Int → D} (hu : X.A.units + 1 < cLine) (hN : X.N[i]? = some x) (hv : Vis X.env.scope x) (hd : (x == ("__debug__" : Str)) = false) (hcd : (x == ("__classdict__" : Str)) = false)
    {kk} (hk : ∀ (Lg Cs : List Int) (r t : Int) (L C : Addr), ∃ v, valV (sgK L C r t) (Sum.inr key) = some v ∧ ∀ (G : Hp), G C = some (.lst (Cs.map V.int)) → Rp X.K G v (d Lg Cs r t)) :
    PE X (.Subscript (.Name x p) (.Constant (.str key) kk p2) pos) (lift X.K np fun ρ Q => WG ρ[i]? fun L C r t _ => Q (.dat (d L C r t)) ρ) := by
  refine (pe_dget hu (pe_var (i := i) hN hv hd hcd) pe_str (sgN rfl)).mo fun σ H Q h => ?_
  obtain ⟨B, G, ρ, Qd, hn, ⟨ω, ew⟩, h, k⟩ := h
  obtain ⟨Lg, Cs, r, t, b, hx, h⟩ := WG.of h
  obtain ⟨S, L, C, e1, f1, f2, h1, h2, h3, _⟩ := ew.sg hx
  obtain ⟨v, hv, rv⟩ := hk Lg Cs r t L C
  refine ⟨.ref S, e1, S, v, rfl, ?_, k _ _ _ _ _ (.refl _) (ew.dat (rv G h3)) h⟩
  have := DGet.k (k := Sum.inr key) h1
  rwa [hv] at this
theorem d_sgRest (i : Nat) {kk} (hu : X.A.units + 1 < cLine) (hN : X.N[i]? = some x := by rfl) (hv : Vis X.env.scope x := by first | exact Or.inl rfl | exact Or.inr (Or.inl rfl) | exact Or.inr (Or.inr rfl)) (hd : (x == ("__debug__" : Str)) = false := by decide) (hcd : (x == ("__classdict__" : Str)) = false := by decide) :
    PE X (.Subscript (.Name x p) (.Constant (.str "rest") kk p2) pos) (lift X.K np (dSgRest i)) :=
  sg_key i (f := fun _ _ r _ => .int r) (d := fun _ _ r _ => .int r) hu hN hv hd hcd fun Lg Cs r t L C => ⟨_, sgK_rest, fun G _ => .int r⟩
theorem d_sgTurn (i : Nat) {kk} (hu : X.A.units + 1 < cLine) (hN : X.N[i]? = some x := by rfl) (hv : Vis X.env.scope x := by first | exact Or.inl rfl | exact Or.inr (Or.inl rfl) | exact Or.inr (Or.inr rfl)) (hd : (x == ("__debug__" : Str)) = false := by decide) (hcd : (x == ("__classdict__" : Str)) = false := by decide) :
    PE X (.Subscript (.Name x p) (.Constant (.str "turn") kk p2) pos) (lift X.K np (dSgTurn i)) :=
  sg_key i (f := fun _ _ _ t => .int t) (d := fun _ _ _ t => .int t) hu hN hv hd hcd fun Lg Cs r t L C => ⟨_, sgK_turn, fun G _ => .int t⟩
theorem d_sgCells (i : Nat) {kk} (hu : X.A.units + 1 < cLine) (hN : X.N[i]? = some x := by rfl) (hv : Vis X.env.scope x := by first | exact Or.inl rfl | exact Or.inr (Or.inl rfl) | exact Or.inr (Or.inr rfl)) (hd : (x == ("__debug__" : Str)) = false := by decide) (hcd : (x == ("__classdict__" : Str)) = false := by decide) :
    PE X (.Subscript (.Name x p) (.Constant (.str "cells") kk p2) pos) (lift X.K np (dSgCells i)) :=
  sg_key i (f := fun _ _ _ t => .int t) (d := fun _ C _ _ => .lst (C.map .int)) hu hN hv hd hcd fun Lg Cs r t L C => ⟨_, sgK_cells, fun G g => .lst g (RpL.ints Cs)⟩
theorem d_sgAny (i : Nat) {kk p3 p4} (hu : X.A.units + 1 < cLine) (hN : X.N[i]? = some x := by rfl) (hv : Vis X.env.scope x := by first | exact Or.inl rfl | exact Or.inr (Or.inl rfl) | exact Or.inr (Or.inr rfl)) (hd : (x == ("__debug__" : Str)) = false := by decide) (hcd : (x == ("__classdict__" : Str)) = false := by decide) :
    PT X (.Compare (.Subscript (.Name x p) (.Constant (.str "great") kk p2) p3) [.NotEq] [.List [] p4] pos) (liftT X.K np (dSgAny i)) := by
  refine (pt_cmpR (op_neE (by omega)) (pe_dget hu (pe_var (i := i) hN hv hd hcd) pe_str (sgN rfl)) (pe_lst pa_nil) (nomark _)).mo fun σ H Q h => ?_
  obtain ⟨B, G, ρ, Qd, hn, ⟨ω, ew⟩, h, k⟩ := h
  obtain ⟨Lg, Cs, r, t, b, hx, h⟩ := WG.of h
  obtain ⟨S, L, C, e1, f1, f2, h1, h2, h3, _⟩ := ew.sg hx
  have g := DGet.k (k := Sum.inr "great") h1
  rw [sgK_large] at g
  refine ⟨.ref S, e1, S, .ref L, rfl, g, Nat.zero_le _, fun q hq => ?_⟩
  have ew2 := ew.newW (o := .lst []) hq
  have ne : L ≠ q := ne_of_none h2 hq
  refine ⟨L, q, rfl, rfl, .inr ⟨Lg.map V.int, .of (by rw [upd_ne ne]; exact h2), .of upd_same, _, rfl, ?_⟩⟩
  have := k G _ ρ _ (.refl _) ⟨_, ew2⟩ h
  cases Lg <;> exact this
theorem d_sgPop (i : Nat) {kk k2 apos cpos p3 p4} (hu : X.A.units + 1 < cLine) (hN : X.N[i]? = some x := by rfl) (hv : Vis X.env.scope x := by first | exact Or.inl rfl | exact Or.inr (Or.inl rfl) | exact Or.inr (Or.inr rfl)) (hd : (x == ("__debug__" : Str)) = false := by decide) (hcd : (x == ("__classdict__" : Str)) = false := by decide)
    (hbase : attributeBase (.Subscript (.Name x p) (.Constant (.str "great") kk p2) p3) "pop" X.env (eval (.Subscript (.Name x p) (.Constant (.str "great") kk p2) p3) X.env) = eval (.Subscript (.Name x p) (.Constant (.str "great") kk p2) p3) X.env := by rfl)
    (hfew : ((backTo cpos (starEach [.Constant (.int 0) k2 p4] X.env)).all (fun x => !x.1) && (backToKw cpos (keywordEach [] X.env)).all (fun x => x.1.isSome)
      && decide (([.Constant (.int 0) k2 p4] : List Expr).length + ([] : List Keyword).length + (if ([] : List Keyword).isEmpty then 0 else 1) < 30)) = true := by rfl)
    (hline : (apos.endLine == cpos.line) = true := by rfl) (hs : starEach [.Constant (.int 0) k2 p4] X.env = (false, eval (.Constant (.int 0) k2 p4) X.env) :: starEach [] X.env := by rfl) (hplain : (backTo cpos (starEach [] X.env)).any (·.1) = false := by rfl) :
    PE X (.Call (.Attribute (.Subscript (.Name x p) (.Constant (.str "great") kk p2) p3) "pop" apos) [.Constant (.int 0) k2 p4] [] cpos) (lift X.K np (dSgPop i)) := by
  refine (pe_bm PySem.F.plainAttrs_list PySem.F.slot_list_pop PySem.F.type_list_pop mt_popAt (pe_dget hu (pe_var (i := i) hN hv hd hcd) pe_str (sgN rfl)) (pa_cons pe_int pa_nil hs) hbase hfew hline hs hplain).mo fun σ H Q h => ?_
  obtain ⟨B, G, ρ, Qd, hn, ⟨ω, ew⟩, h, k⟩ := h
  obtain ⟨Lg, Cs, r, t, b, hx, h⟩ := WG.of h
  obtain ⟨S, L, C, e1, f1, f2, h1, h2, h3, _⟩ := ew.sg hx
  have g := DGet.k (k := Sum.inr "great") h1
  rw [sgK_large] at g
  cases Lg with
  | nil => exact h.elim
  | cons y Lg =>
    refine ⟨.ref S, e1, S, .ref L, rfl, g, .inl ⟨rfl, _, .of h2⟩, L, _, 0, 0, .int y, rfl, rfl, h2, by decide, by decide, ?_, rfl, ?_⟩
    · rw [List.length_map, List.length_cons]
      exact (seqIndex_of (by decide) (by omega)).trans rfl
    · exact k _ _ _ _ _ (.refl _) ((ew.sgPop hx e1 h1).dat (.int y)) h
theorem ds_sgRest (i : Nat) {kk} (hu : X.A.units + 1 < cLine) (he : PE X e (lift X.K np te)) (hs : swapsWith e (some (.Subscript (.Name x p) (.Constant (.str "rest") kk p2) pos)) pos'.line X.env = pure false := by rfl) (hN : X.N[i]? = some x := by rfl) (hv : Vis X.env.scope x := by first | exact Or.inl rfl | exact Or.inr (Or.inl rfl) | exact Or.inr (Or.inr rfl)) (hd : (x == ("__debug__" : Str)) = false := by decide) (hcd : (x == ("__classdict__" : Str)) = false := by decide) :
    PS X (.Assign [.Subscript (.Name x p) (.Constant (.str "rest") kk p2) pos] e pos') (liftS X.K np (dSgSetRest i te)) := by
  refine (ps_dput hu (pe_var (i := i) hN hv hd hcd) pe_str he hs).mo fun D σ H h => ?_
  obtain ⟨B, G, ρ, Dd, hn, eo, h, k1, k2, k3, k4⟩ := h
  refine ⟨B, G, ρ, _, hn, eo, h, fun G1 v r ρ1 H1 s1 f1 q1 => ?_⟩
  obtain ⟨ω, ew, rv⟩ := f1
  split at q1
  · rename_i z
    obtain ⟨Lg, Cs, r, t, b, hx, h⟩ := WG.of q1
    obtain ⟨S, L, C, e1, f1, f2, h1, h2, h3, _, _, h6⟩ := ew.sg hx
    cases rv
    refine ⟨.ref S, e1, S, _, rfl, DPut.k (k := Sum.inr "rest") h1 (by show 4 < _; decide), ?_⟩
    rw [sgK_setRest]
    exact k1 _ _ _ _ s1 ⟨_, ew.sgSet hx h6 e1 h1⟩ h
  · exact q1.elim
theorem ds_sgTurn (i : Nat) {kk} (hu : X.A.units + 1 < cLine) (he : PE X e (lift X.K np te)) (hs : swapsWith e (some (.Subscript (.Name x p) (.Constant (.str "turn") kk p2) pos)) pos'.line X.env = pure false := by rfl) (hN : X.N[i]? = some x := by rfl) (hv : Vis X.env.scope x := by first | exact Or.inl rfl | exact Or.inr (Or.inl rfl) | exact Or.inr (Or.inr rfl)) (hd : (x == ("__debug__" : Str)) = false := by decide) (hcd : (x == ("__classdict__" : Str)) = false := by decide) :
    PS X (.Assign [.Subscript (.Name x p) (.Constant (.str "turn") kk p2) pos] e pos') (liftS X.K np (dSgSetTurn i te)) := by
  refine (ps_dput hu (pe_var (i := i) hN hv hd hcd) pe_str he hs).mo fun D σ H h => ?_
  obtain ⟨B, G, ρ, Dd, hn, eo, h, k1, k2, k3, k4⟩ := h
  refine ⟨B, G, ρ, _, hn, eo, h, fun G1 v r ρ1 H1 s1 f1 q1 => ?_⟩
  obtain ⟨ω, ew, rv⟩ := f1
  split at q1
  · rename_i z
    obtain ⟨Lg, Cs, r, t, b, hx, b', rfl, rfl, h⟩ := WG.of q1
    obtain ⟨S, L, C, e1, f1, f2, h1, h2, h3, _, _, h6, h7⟩ := ew.sg hx
    cases rv
    refine ⟨.ref S, e1, S, _, rfl, DPut.k (k := Sum.inr "turn") h1 (by show 4 < _; decide), ?_⟩
    rw [sgK_setTurn]
    exact k1 _ _ _ _ s1 ⟨_, ew.sgSet hx (by omega) e1 h1⟩ h
  · exact q1.elim
theorem shug_ok {K : PySem.W.Frag} {B : Bs} {G : Hp} {i : Nat} {ρ : Env} {σ : Stt} {H : Hp} {P : Env → Prop} (eo : EnvOk K B G ρ σ H) (h : shug1 i P ρ) : ∃ ρ', EnvOk K B G ρ' σ H ∧ P ρ' := by
  obtain ⟨ω, e⟩ := eo
  obtain ⟨Lg, Cs, r, t, b, hx, h⟩ := WG.of h
  exact ⟨_, ⟨ω, e.shug hx⟩, h⟩
theorem ds_drawG (i : Nat) (h : PSs X sts (liftS X.K np u)) : PSs X sts (liftS X.K np (dDrawG i u)) := by
  refine h.mo fun D σ H h => ?_
  obtain ⟨B, G, ρ, Dd, hn, ⟨ω, ew⟩, ⟨b, hb, h⟩, k1, k2, k3, k4⟩ := h
  obtain ⟨Lg, Cs, r, t, l1, l2, l3, l4, e2⟩ := ew.opg hb
  refine ⟨B, G, _, _, hn, ⟨ω, e2⟩, h Lg Cs r t l1 l2 l3 l4, fun G' ρ' σ' H' s e q => ?_, fun G' v r ρ' σ' H' s f q => ?_, fun G' ρ' σ' H' s e q => ?_, fun G' ρ' σ' H' s e q => ?_⟩
  · obtain ⟨ρ2, e2, q2⟩ := shug_ok e q
    exact k1 _ _ _ _ s e2 q2
  · obtain ⟨ω', e', rr⟩ := f
    cases r with
    | dat d =>
      obtain ⟨Lg, Cs, r, t, b, hx, h⟩ := WG.of q
      exact k2 _ _ (.dat d) _ _ _ s ⟨ω', e'.shug hx, rr⟩ h
    | sl i => exact q.elim
    | nw i => exact q.elim
  · obtain ⟨ρ2, e2, q2⟩ := shug_ok e q
    exact k3 _ _ _ _ s e2 q2
  · obtain ⟨ρ2, e2, q2⟩ := shug_ok e q
    exact k4 _ _ _ _ s e2 q2
end
end TL
namespace TL
end TL
namespace TL
open PySem PySem.Spec PyProof.Rows L2
section
variable {X : Cx} {np : Np} {x : Str} {pos : Pos}
theorem d_bltT {n : String} (hg : Gl X x) (hm : X.mg x = none) (hv : bootBuiltins x = some (.type n)) (hn : x ≠ "__name__" := by decide) (hd : (x == ("__debug__" : Str)) = false := by decide) : PE X (.Name x pos) (lift X.K np (dC (.ty n))) :=
  d_const (pe_bltn hg hm hv (v := .ty n) rfl hn hd) (fun _ _ _ q => q) fun _ => .ty n
end
def dDL : List DTE → Env → (List D → Env → Prop) → Prop
  | [], ρ, Q => Q [] ρ
  | t :: ts, ρ, Q => t ρ fun r ρ1 => match stl r with
    | .dat d => dDL ts ρ1 fun ds ρ2 => Q (d :: ds) ρ2
    | _ => False
def dDisp (ks : List Key) (ts : List DTE) : DTE := fun ρ Q => dDL ts ρ fun ds ρ1 => Q (.nw (.dc (ks.zip ds))) ρ1
def dDNew : DTE := fun ρ Q => Q (.nw (.dc [])) ρ
def trsOf (K : PySem.W.Frag) (np : Np) : List Key → List DTE → List (TE × TE)
  | k :: ks, t :: ts => (tC (kV k), lift K np t) :: trsOf K np ks ts
  | _, _ => []
theorem mergeK_new : ∀ (kvs acc : List (Key × V)), (acc.map (·.1) ++ kvs.map (·.1)).Nodup → mergeK acc kvs = acc ++ kvs
  | [], acc, _ => by rw [List.append_nil]; rfl
  | p :: r, acc, h => by
    have h1 : p.1 ∉ acc.map (·.1) := fun z => by
      rw [List.nodup_append] at h
      exact h.2.2 p.1 z p.1 (by simp) rfl
    have h2 : valV acc p.1 = none := by
      cases z : valV acc p.1 with
      | none => rfl
      | some u =>
        have : (acc.any fun kv => decide (kv.1 = p.1)) = true := by rw [valV_any, z]; rfl
        obtain ⟨q, hq, e⟩ := List.any_eq_true.mp this
        exact absurd (List.mem_map.mpr ⟨q, hq, of_decide_eq_true e⟩) h1
    show mergeK (putK acc p.1 p.2) r = _
    rw [putK_new h2, mergeK_new r _ (by simpa using h)]
    simp
theorem RpL.zipK {K : PySem.W.Frag} {G : Hp} : ∀ {vs : List V} {ds : List D} (ks : List Key), RpL K G vs ds → RpK K G (ks.zip vs) (ks.zip ds)
  | _, _, [], _ => by simp; exact .nil
  | _, _, _ :: _, .nil => .nil
  | _, _, _ :: ks, .cons h r => .cons h (r.zipK ks)
section
variable {X : Cx} {np : Np} {x : Str} {pos : Pos} {keys : List (Option Expr)} {values : List Expr} {ks : List Key} {ts : List DTE}
theorem pairs_ok {K : PySem.W.Frag} {np : Np} {σ : Stt} : ∀ (ks : List Key) (ts : List DTE) (B : Bs) (G H : Hp) (ρ : Env) (Qd : List D → Env → Prop) (Q : List (V × V) → Hp → Prop), ks.length = ts.length → np.ok B → EnvOk K B G ρ σ H → dDL ts ρ Qd →
    (∀ G' vs ds ρ' H', Same G G' → EnvOk K B G' ρ' σ H' → RpL K G' vs ds → vs.length = ks.length → Qd ds ρ' → Q ((ks.map kV).zip vs) H') → tPairs (trsOf K np ks ts) σ H Q
  | [], [], B, G, H, ρ, Qd, Q, _, hn, eo, h, k => k _ [] _ _ _ (.refl _) eo .nil rfl h
  | [], _ :: _, _, _, _, _, _, _, hl, _, _, _, _ => by cases hl
  | _ :: _, [], _, _, _, _, _, _, hl, _, _, _, _ => by cases hl
  | key :: ks, t :: ts, B, G, H, ρ, Qd, Q, hl, hn, eo, h, k => by
    refine ⟨B, G, ρ, _, hn, eo, h, fun G1 v r ρ1 H1 s1 f1 q1 => ?_⟩
    obtain ⟨G2, s2, f2⟩ := f1.stl
    split at q1
    · rename_i d hr
      rw [hr] at f2
      obtain ⟨ω2, e2, r2⟩ := f2
      refine pairs_ok ks ts B G2 H1 ρ1 _ _ (by simpa using hl) hn ⟨ω2, e2⟩ q1 fun G' vs ds ρ' H' s e rl lv q => ?_
      exact k _ (v :: vs) (d :: ds) _ _ ((s1.trans s2).trans s) e (.cons (Rp.mono s r2) rl) (by rw [List.length_cons, List.length_cons, lv]) q
    · exact q1.elim
theorem zip_kv : ∀ (ks : List Key) (vs : List V), (ks.map kV).zip vs = (ks.zip vs).map fun kv => (kV kv.1, kv.2)
  | [], _ => by simp
  | _ :: _, [] => by simp
  | k :: ks, v :: vs => by simp [zip_kv ks vs]
theorem d_disp (h : PPs X pos keys values (trsOf X.K np ks ts)) (hall : keys.all (·.isSome) = true := by rfl) (hl : keys.length = values.length := by rfl) (h0 : keys ≠ [] := by simp) (h15 : keys.length ≤ 15 := by exact Nat.le_of_ble_eq_true rfl)
    (hks : ks.length = ts.length := by rfl) (hk15 : ks.length ≤ 15 := by exact Nat.le_of_ble_eq_true rfl) (nd : ks.Nodup := by decide +kernel) : PE X (.Dict keys values pos) (lift X.K np (dDisp ks ts)) := by
  refine (pe_disp h hall hl h0 h15).mo fun σ H Q h => ?_
  obtain ⟨B, G, ρ, Qd, hn, ⟨ω, ew⟩, h, k⟩ := h
  intro p hp
  have d0 : B.A0 p ∨ B.H0 p = none := ew.gone hp
  have hg : G p = none := Same.none ew.gle hp
  have hw : ω p = none := by
    cases q : ω p with
    | none => rfl
    | some i => exact absurd hp (ew.own p i q).2.1
  have e1 := ew.poke (o := .dK []) hw hg d0
  refine pairs_ok ks ts (reB B G ω ρ.length (upd H p (.dK []))) G _ ρ _ _ hks (hn.re e1) ⟨_, e1.rebase⟩ h fun G' vs ds ρ' H' s f rl lv q => ?_
  obtain ⟨ω', f⟩ := f
  obtain ⟨z1, z2, z3⟩ := f.still upd_same hw hg
  refine ⟨z1, ks.zip vs, zip_kv ks vs, by rw [List.length_zip, lv]; omega, ?_⟩
  rw [mergeK_new _ _ (by
    show (ks.zip vs |>.map (·.1)).Nodup
    rw [List.map_fst_zip (by omega)]
    exact nd), List.nil_append]
  have fb := e1.back f
  refine k _ _ (.nw (.dc (ks.zip ds))) _ _ s ⟨tagd ω' p σ.length, ?_, rfl, p, ks.zip vs, rfl, tagd_same, upd_same, rl.zipK ks⟩ q
  have fp := fb.poke (o := .dK (ks.zip vs)) z2 z3 d0
  refine ⟨fp.gle, fp.g0, fp.keep, fun a j q => ?_, fp.len, fun j s q => ?_, fp.pin⟩
  · unfold tagd at q
    split at q
    · rename_i ha
      subst ha
      cases q
      exact ⟨z3, by rw [upd_same]; simp, d0⟩
    · split at q
      · cases q
      · exact fp.own a j q
  · refine (fp.slot j s q).mono (.refl _) fun a z => ⟨?_, rfl⟩
    have hj : j < ρ'.length := (List.getElem?_eq_some_iff.mp q).1
    have := fp.len
    have ha : a ≠ p := fun w => by
      subst w
      rw [z2] at z
      cases z
    unfold tagd
    rw [if_neg ha, if_neg (fun w => by rw [z] at w; have := Option.some.inj w; omega)]
    exact z
theorem d_dnew : PE X (.Dict [] [] pos) (lift X.K np dDNew) := by
  refine pe_dnewK.mo fun σ H Q h => ?_
  obtain ⟨B, G, ρ, Qd, hn, ⟨ω, ew⟩, h, k⟩ := h
  intro p hp
  exact k _ _ _ _ _ (.refl _) (ew.newD hp .nil) h
end
end TL
namespace TL
open PySem PySem.Spec PyProof.Rows L2
theorem bt_len : bootBuiltins "len" = some (.builtin "len") := by decide +kernel
theorem bt_isinstance : bootBuiltins "isinstance" = some (.builtin "isinstance") := by decide +kernel
theorem bt_all : bootBuiltins "all" = some (.builtin "all") := by decide +kernel
theorem bt_sorted : bootBuiltins "sorted" = some (.builtin "sorted") := by decide +kernel
theorem bt_min : bootBuiltins "min" = some (.builtin "min") := by decide +kernel
theorem bt_repr : bootBuiltins "repr" = some (.builtin "repr") := by decide +kernel
theorem bt_list : bootBuiltins "list" = some (.type "list") := by decide +kernel
theorem bt_tuple : bootBuiltins "tuple" = some (.type "tuple") := by decide +kernel
theorem bt_int : bootBuiltins "int" = some (.type "int") := by decide +kernel
theorem bt_str : bootBuiltins "str" = some (.type "str") := by decide +kernel
theorem bt_set : bootBuiltins "set" = some (.type "set") := by decide +kernel
end TL
namespace TL
variable {np : Np}
open PySem PySem.Spec PyProof.Rows L2
section
variable {X : Cx}
def rSortedTu (K : PySem.W.Frag) : List V → Hp → VK → Prop := fun vs H Q => ∃ (a : Addr) (xs : List Str), vs = [V.ref a] ∧ SqT K H a (xs.map V.str) ∧ xs.length < 64 ∧
  ∀ (ys : List Str) (p : Addr), ys.Perm xs → sortedS ys = true → H p = none → Q (.ref p) (upd H p (.lst (ys.map V.str)))
theorem cr_sortedTu : CallR X (.builtin "sorted") (rSortedTu X.K) := by
  intro pins s σ H vs us Q I r h
  obtain ⟨a, xs, rfl, hs, h64, q⟩ := h
  obtain ⟨its, rv, p, _⟩ := I.tuple hs
  have p : s.heap.IsTuple a its.toArray := p
  rw [Vals.ref1 r]
  have hS := rv.strs
  have hal : its.length = xs.length := by have := rv.length; rw [List.length_map] at this; exact this.symm
  obtain ⟨o, ho, hc, n, hd⟩ := p
  refine Calls.call_function_entry PyProof.Rows.kind_sorted PyProof.Rows.plain_sorted PyProof.Rows.entry_sorted (PyProof.Rows.args_sorted1 _) ?_
  unfold Builtin.«sorted»
  refine wpAny_bind (m := checkCount "sorted" 1 1 _) (wpAny_pure ?_)
  refine wpAny_bind (wpAny_collect_seq a (.inr rfl) ho hc hd (fun h' hk => ?_) (by rw [List.size_toArray, hal, sizeLine_eq]; omega))
  have I1 : Inv X pins σ H { s with heap := h' } := I.kept (t' := s.toks) hk
  refine wpAny_bind (wpAny_newList ?_ (by show its.length ≤ _; rw [hal, sizeLine_eq]; omega))
  have hoL : (h'.push (seqObj "list" its.toArray 0)).get? h'.objs.size = some (seqObj "list" its.toArray 0) := Heap.get?_push_size _ rfl
  show wpAny _ _ _ _ _ { s with heap := h'.push (seqObj "list" its.toArray 0) }
  refine wpAny_bind (wpAny_holding (wpAny_call_entry PyProof.Rows.slot_list_sort ⟨_, hoL, rfl⟩ PyProof.Rows.entry_list_sort
    (list_sort_treeK strKind_oneLt (s := { s with heap := h'.push (seqObj "list" its.toArray 0) }) hoL hS.keysOf (fun v₁ v₂ rest e => keyKind_strs (by rw [← e]; exact hS)) (by rw [hal]; exact h64) fun st' hp hs => ⟨_, rfl, ?_⟩)
    (PyProof.Rows.args_list_sort _)))
  obtain ⟨ys, g1, g2, g3⟩ := sorted_out_str hS hp hs
  obtain ⟨e', he'⟩ := PyProof.Rows.sortedHeap_at (vs := its) (out := (arrOf st').map (·.2)) hoL
  have hlen : (ys.map V.str).length ≤ sizeLine := by
    rw [List.length_map, g2.length_eq]
    exact Nat.le_trans (Nat.le_of_lt h64) (by decide)
  refine wpAny_pure ⟨_, rfl, .ref h'.objs.size, upd H h'.objs.size (.lst (ys.map V.str)), I1.laid (t' := s.toks) (fun b u e => ?_) (Nat.le_refl _)
    (show ObjOk X.prog X.w _ _ _ (.lst (ys.map V.str)) from ⟨hlen, ((arrOf st').map (·.2)).toList, e', vals_of_strs g1, by rw [Array.toArray_toList]; exact he'⟩), rfl, q ys _ g2 g3 (I1.hok.fresh (Nat.le_refl _))⟩
  have hb : b < h'.objs.size := Heap.lt_size e
  rw [PyProof.Rows.sortedHeap_old (Nat.ne_of_lt hb) (by rw [size_push']; exact Nat.lt_succ_of_lt hb)]
  exact Heap.get?_push_of_some _ e
theorem CallR_or {f : Value} {r r' : List V → Hp → VK → Prop} (h : CallR X f r) (h' : CallR X f r') : CallR X f (fun xs H Q => r xs H Q ∨ r' xs H Q) := by
  intro pins s σ H vs us Q I rr q
  rcases q with q | q
  · exact h pins s σ H vs us Q I rr q
  · exact h' pins s σ H vs us Q I rr q
def rSorted2 (K : PySem.W.Frag) : List V → Hp → VK → Prop := fun xs H Q => rSortedS K xs H Q ∨ rSortedTu K xs H Q
theorem cr_sorted2 : CallR X (.builtin "sorted") (rSorted2 X.K) := CallR_or cr_sortedS cr_sortedTu
def gSorted2 : DOpL := fun xs P => match xs with
  | [.lst ys] => (match txs ys with | some bs => bs.length < 64 ∧ ∀ cs : List Str, cs.Perm bs → sortedS cs = true → P (.nw (.ls (cs.map .str))) | none => False)
  | [.tup ys] => (match txs ys with | some bs => bs.length < 64 ∧ ∀ cs : List Str, cs.Perm bs → sortedS cs = true → P (.nw (.ls (cs.map .str))) | none => False)
  | _ => False
theorem c_sorted2 (K : PySem.W.Frag) : CL np K (rSorted2 K) gSorted2 := by
  intro B G ω ρ σ H vs xs P Q hn e r g k
  unfold gSorted2 at g
  split at g
  · rename_i ys
    split at g
    · rename_i bs eb
      obtain ⟨v, rfl, rv⟩ := r.one
      obtain ⟨a, ws, rfl, h, rr⟩ := rv.lst e.gle
      cases txs_eq eb
      cases rr.strs_eq
      exact .inl ⟨a, bs, rfl, .of h, g.1, fun cs p h1 h2 hp => k _ _ _ _ (.refl _) (e.newL hp (RpL.strs cs)) (g.2 cs h1 h2)⟩
    · exact g.elim
  · rename_i ys
    split at g
    · rename_i bs eb
      obtain ⟨v, rfl, rv⟩ := r.one
      obtain ⟨a, ws, rfl, h, rr⟩ := rv.tup
      cases txs_eq eb
      cases rr.strs_eq
      exact .inr ⟨a, bs, rfl, seqT e.gle h, g.1, fun cs p h1 h2 hp => k _ _ _ _ (.refl _) (e.newL hp (RpL.strs cs)) (g.2 cs h1 h2)⟩
    · exact g.elim
  · exact g.elim
def gAbs : DOpL := fun xs P => match xs with
  | [.int i] => P (.dat (.int (if i < 0 then -i else i)))
  | _ => False
theorem c_abs (K : PySem.W.Frag) : CL np K (fun xs H Q => ∃ i, xs = [.int i] ∧ Q (.int (if i < 0 then -i else i)) H) gAbs := by
  intro B G ω ρ σ H vs xs P Q hn e r g k
  unfold gAbs at g
  split at g
  · obtain ⟨v, rfl, rv⟩ := r.one
    rw [rv.int]
    exact ⟨_, rfl, k _ _ _ _ (.refl _) (e.dat (.int _)) g⟩
  · exact g.elim
theorem bt_abs : bootBuiltins "abs" = some (.builtin "abs") := by decide +kernel
end
def dSgNew (t : DTE) (j : Nat) : DTE := fun ρ Q => t ρ fun r ρ1 => match r, ρ1[j]? with
  | .nw (.ls xs), some (.fr (.lst ys)) => ∃ Lg Cs : List Int, xs = Lg.map .int ∧ ys = Cs.map .int ∧ Lg.length ≤ 63 ∧ Cs.length ≤ 63 ∧ Q (.nw (.rs (.sg 1000000000000))) ρ1
  | _, _ => False
def addT (ω : Own) (p : Addr) (i : Nat) : Own := fun a => if a = p then some i else ω a
section
variable {X : Cx} {np : Np} {y : Str} {p0 p1 p3 p5 p6 p8 p9 pos : Pos} {k1 k2 k3 k4 k5 k6 : Nat} {e : Expr} {te : DTE}
theorem d_sgNew (j : Nat) (he : PE X e (lift X.K np te)) (hN2 : X.N[j]? = some y := by rfl)
    (hv2 : Vis X.env.scope y := by first | exact Or.inl rfl | exact Or.inr (Or.inl rfl) | exact Or.inr (Or.inr rfl)) (hd2 : (y == ("__debug__" : Str)) = false := by decide) (hcd2 : (y == ("__classdict__" : Str)) = false := by decide) :
    PE X (.Dict [some (.Constant (.str "great") k1 p0), some (.Constant (.str "cells") k2 p1), some (.Constant (.str "rest") k3 p5), some (.Constant (.str "turn") k4 p6)]
      [e, .Name y p3, .Constant (.int 0) k5 p8, .Constant (.int 0) k6 p9] pos) (lift X.K np (dSgNew te j)) := by
  refine (pe_disp (pps_cons pe_str he (pps_cons pe_str (pe_var (i := j) hN2 hv2 hd2 hcd2) (pps_cons pe_str pe_int (pps_cons pe_str pe_int pps_nil)))) rfl rfl (by simp) (Nat.le_of_ble_eq_true rfl)).mo fun σ H Q h => ?_
  obtain ⟨B, G, ρ, Qd, hn, ⟨ω, ew⟩, h, k⟩ := h
  intro p hp
  have d0 : B.A0 p ∨ B.H0 p = none := ew.gone hp
  have hg : G p = none := Same.none ew.gle hp
  have hw : ω p = none := by
    cases q : ω p with
    | none => rfl
    | some i => exact absurd hp (ew.own p i q).2.1
  have e1 := ew.poke (o := .dK []) hw hg d0
  refine ⟨reB B G ω ρ.length (upd H p (.dK [])), G, ρ, _, hn.re e1, ⟨_, e1.rebase⟩, h, fun G1 v r ρ1 H1 s1 f1 q1 => ?_⟩
  obtain ⟨ω1, f1, rr⟩ := f1
  obtain ⟨z1, z2, z3⟩ := f1.still upd_same hw hg
  split at q1
  · rename_i xs ys hj
    obtain ⟨Lg, Cs, rfl, rfl, l1, l2, q1⟩ := q1
    obtain ⟨_, L, ws, ev, fL, hL, rL⟩ := rr
    cases ev
    obtain rfl := rL.ints_eq
    obtain ⟨vC, eC, rC⟩ := f1.slot j _ hj
    cases rC with
    | lst hC rCs =>
      rename_i C cs
      obtain rfl := rCs.ints_eq
      have fb := e1.back f1
      refine ⟨.ref C, eC, z1, sgK L C 0 0, rfl, by show 4 ≤ 15; decide, ?_⟩
      rw [sgK_merge]
      have nLp : L ≠ p := fun w => by subst w; rw [z2] at fL; cases fL
      have fp := fb.poke (o := .dK (sgK L C 0 0)) z2 z3 d0
      refine k _ _ (.nw (.rs (.sg 1000000000000))) _ _ s1 ⟨addT ω1 p σ.length, ⟨fp.gle, fp.g0, fp.keep, fun a i q => ?_, fp.len, fun i s q => ?_, fp.pin⟩, rfl, .ref p, rfl, Lg, Cs, 0, 0, p, L, C, rfl, if_pos rfl, ?_, upd_same, ?_, hC, l1, l2, by decide, by decide⟩ q1
      · unfold addT at q
        split at q
        · rename_i ha
          subst ha
          cases q
          exact ⟨z3, by rw [upd_same]; simp, d0⟩
        · exact fp.own a i q
      · refine (fp.slot i s q).mono (.refl _) fun a z => ⟨?_, rfl⟩
        unfold addT
        rw [if_neg (fun w => by subst w; rw [z2] at z; cases z)]
        exact z
      · show addT ω1 p σ.length L = _
        unfold addT
        rw [if_neg nLp]
        exact fL
      · rw [upd_ne nLp]
        exact hL
  · exact q1.elim
end
end TL
namespace TL
open PySem PySem.Spec PyProof.Rows L2
def met (acc : List Str) : List Str → List Str
  | [] => acc
  | x :: r => met (if x ∈ acc then acc else acc ++ [x]) r
theorem met_snoc (x : Str) : ∀ (l acc : List Str), met acc (l ++ [x]) = if x ∈ met acc l then met acc l else met acc l ++ [x]
  | [], acc => rfl
  | y :: l, acc => met_snoc x l _
theorem met_len : ∀ (l acc : List Str), (met acc l).length ≤ acc.length + l.length
  | [], acc => Nat.le_refl _
  | y :: l, acc => by
    have := met_len l (if y ∈ acc then acc else acc ++ [y])
    show (met (if y ∈ acc then acc else acc ++ [y]) l).length ≤ acc.length + (l.length + 1)
    split at this
    · rename_i h; rw [if_pos h]; omega
    · rename_i h; rw [if_neg h]; rw [List.length_append, List.length_singleton] at this; omega
def distinct (xs : List Str) : Nat := (met [] xs).length
section
variable {prog : Program} {w : World} {A : Around} {R : Result → Shared → Prop} {I : Addr} {fp wr : List Addr} {G : Array GenState → Array GenState → Prop} {n : Nat} {P : Nat → Value → Prop} {St : Nat → Shared → Prop}
theorem setOf_stays {wr : List Addr} {s1 s2 : Shared} {S : Addr} {f : Str → Bool} {k : Nat} (hm : Moved wr G s1 s2) (no : S ∉ wr) (h : s1.heap.SetOf (PySem.strKind prog w) S f k) : s2.heap.SetOf (PySem.strKind prog w) S f k := by
  obtain ⟨ob, es, ep, tb, at_, more⟩ := h
  exact ⟨ob, es, ep, tb, hm.heap S _ no at_, more⟩
theorem set_next {h : Heap} {S : Addr} {m : List Str} {y : Str} (q : h.SetOf (PySem.strKind prog w) S (fun k => decide (k ∈ m) || decide (k = y)) (if decide (y ∈ m) = true then m.length else m.length + 1)) :
    h.SetOf (PySem.strKind prog w) S (fun k => decide (k ∈ if y ∈ m then m else m ++ [y])) (if y ∈ m then m else m ++ [y]).length := by
  by_cases c : y ∈ m
  · rw [if_pos (decide_eq_true c)] at q
    rw [if_pos c]
    refine SetOf_congr q (fun k => ?_) rfl
    by_cases z : k = y
    · subst z; rw [decide_eq_true c]; rfl
    · rw [decide_eq_false z, Bool.or_false]
  · rw [if_neg (by rw [decide_eq_false c]; exact Bool.false_ne_true)] at q
    rw [if_neg c]
    refine SetOf_congr q (fun k => ?_) (by rw [List.length_append]; rfl)
    by_cases z : k = y
    · subst z; simp
    · simp [z]
theorem fill_loop (Wk : WalksS prog w A.in1 I fp wr G n P St) (S : Addr) (off : S ∉ fp) (xs : List Str) (len : xs.length = n) (few : n + 1 < scanBound) (at_ : ∀ i v, P i v → ∃ t, v = .str (xs.getD i Str.empty) t) :
    ∀ (d i : Nat) (st : Shared), i + d = n → St i st → st.heap.SetOf (PySem.strKind prog w) S (fun k => decide (k ∈ met [] (xs.take i))) (met [] (xs.take i)).length →
      (∀ st2, Moved (S :: wr) G st st2 → st2.heap.SetOf (PySem.strKind prog w) S (fun k => decide (k ∈ met [] xs)) (met [] xs).length → R (.ok (.ret .none)) st2) →
      codeAny (model prog w) A (.builtin "set.update.loop" ⟨[.ref S, .ref I], []⟩) R st := by
  have no : S ∉ wr := fun z => off (Wk.sub _ z)
  intro d
  induction d with
  | zero =>
    intro i st e here have_ fin
    obtain rfl : i = n := e
    apply codeAny_builtin PyProof.Rows.F.entry_set_update_loop
    rw [Around.under_plainId PyProof.Rows.F.plain_set_update_loop]
    change wpAny _ A.in1 (pyNext (.ref I) >>= _) _ _ _
    apply wpAny_bind
    refine Wk.done st _ _ here fun st2 hm => ?_
    change wpAny _ A.in1 (ret Value.none) _ _ st2
    rw [List.take_of_length_le (by omega)] at have_
    exact wpAny_pure (fin st2 (hm.mono fun b hb => List.mem_cons_of_mem _ hb) (setOf_stays hm no have_))
  | succ d ih =>
    intro i st e here have_ fin
    have lt : i < n := by omega
    apply codeAny_builtin PyProof.Rows.F.entry_set_update_loop
    rw [Around.under_plainId PyProof.Rows.F.plain_set_update_loop]
    change wpAny _ A.in1 (pyNext (.ref I) >>= _) _ _ _
    apply wpAny_bind
    refine Wk.item i st _ _ lt here fun v st1 hv here1 hm => ?_
    obtain ⟨t, rfl⟩ := at_ i v hv
    have now := setOf_stays hm no have_
    change wpAny _ A.in1 (holding [Value.str (xs.getD i Str.empty) t] (setAdd S (.str (xs.getD i Str.empty) t)) >>= _) _ _ st1
    apply wpAny_bind
    apply wpAny_holding
    unfold setAdd
    apply wpAny_holding
    apply wpAny_bind
    refine (PySem.strKind prog w).pyHash (k := xs.getD i Str.empty) (strKind_is _ _ _ _) ?_
    have fewer : (met [] (xs.take i)).length + 1 < scanBound := by
      have := met_len (xs.take i) []
      rw [List.length_take] at this
      simp at this
      omega
    refine wpAny_setAddHashed_of (knd := PySem.strKind prog w) (s := { st1 with toks := st1.toks + 1 }) (strKind_is _ _ _ _) rfl now fewer fun h2 but now2 => ?_
    have tk : xs.take (i + 1) = xs.take i ++ [xs.getD i Str.empty] := by
      have hi : i < xs.length := by omega
      rw [List.take_add_one, List.getElem?_eq_getElem hi]
      show xs.take i ++ [xs[i]] = _
      rw [List.getD_eq_getElem?_getD, List.getElem?_eq_getElem hi]
      rfl
    have nxt : h2.SetOf (PySem.strKind prog w) S (fun k => decide (k ∈ met [] (xs.take (i + 1)))) (met [] (xs.take (i + 1))).length := by
      rw [tk, met_snoc]
      exact set_next now2
    have other : ∀ b, b ≠ S → ∀ o, st1.heap.get? b = some o → h2.get? b = some o := fun b hb o y => (but.2 b hb).trans y
    refine wpAny_pure ⟨plainId_quiet PyProof.Rows.F.plain_set_update_loop _, ih (i + 1) _ (by omega) (Wk.frame _ st1 _ _ here1 (Nat.le_succ _) fun b hb o y => other b (fun z => off (z ▸ hb)) o y) nxt fun st3 hm3 last => ?_⟩
    refine fin st3 (Moved.trans Wk.gtrans ((hm.mono fun b hb => List.mem_cons_of_mem _ hb).then_heap (Nat.le_succ _) fun b o hb y => ?_) hm3) last
    exact other b (fun z => hb (by rw [z]; exact List.mem_cons_self)) o y
end
end TL
namespace TL
open PySem PySem.Spec PyProof.Rows L2
section
variable {prog : Program} {w : World} {A : Around} {E : Value → Shared → Prop} {s : Shared}
abbrev bareSet (led : Bool) : Obj := { cls := .type "set", dict := none, data := .set #[] 0 (.fresh 0 0 led) }
theorem set_of_tuple {l : Addr} {items : Array Value} {xs : List Str} {Q : Value → Shared → Prop} (calm : A.handled = none) (tup : s.heap.IsTuple l items) (its : PyProof.Rows.StrsAre items.toList xs) (few : xs.length + 1 < scanBound)
    (k : ∀ (h2 : Heap) (tk : Nat), h2.SetOf (PySem.strKind prog w) s.heap.objs.size (fun k => decide (k ∈ met [] xs)) (distinct xs) → (∀ b o, b < s.heap.objs.size → s.heap.get? b = some o → h2.get? b = some o) → Q (.ref s.heap.objs.size) { s with heap := h2, toks := tk }) :
    wpAny (model prog w) A (call (.type "set") [.ref l]) Q E s := by
  have size_ : xs.length = items.size := by rw [← StrsAre.len_eq its, Array.length_toList]
  obtain ⟨cl, rest, order_⟩ := PySem.F.called_set.mro
  have mk_ := PySem.F.called_set.made
  have sub_ := PySem.F.called_set.sub
  refine wpAny_call (codeAny_of_tree ?_)
  change wpAny _ _ (callAny (.type "set") _) _ _ _
  refine wpAny_pure ⟨Code.quiet_builtin _ (by decide +kernel), codeAny_builtin PySem.F.entry_type_call ?_⟩
  rw [Around.under_plain (weight_type_call_type "set" [.ref l] []) rfl]
  have a1 := PySem.F.called_set.notType
  have a2 := PySem.F.called_set.canCreate
  have a3 := PySem.F.typeCall_set_1 (.ref l)
  repeat any_goals first | assumption | wp_step
  refine codeAny_mono (code_set_new_1 (.ref l) (E := E) (Q₁ := fun new st => ∃ led : Bool, new = .ref s.heap.objs.size ∧ st = { s with heap := s.heap.push (bareSet led) }) fun led => ⟨led, rfl, rfl⟩) fun res st hr => ?_
  match res, hr with
  | .error ex, hr => exact hr
  | .ok .next, hr => exact hr.elim
  | .ok .brk, hr => exact hr.elim
  | .ok .cont, hr => exact hr.elim
  | .ok (.ret new), hr =>
    obtain ⟨led, rfl, rfl⟩ := hr
    have there : (s.heap.push (bareSet led)).get? s.heap.objs.size = some (bareSet led) := Heap.get?_push_size _ rfl
    have type_ : Shared.TypeIs { s with heap := s.heap.push (bareSet led) } (.ref s.heap.objs.size) "set" := ⟨_, there, rfl⟩
    have b1 := PySem.F.called_set.init.lookup
    have b2 := PySem.F.called_set.init.bind (.ref s.heap.objs.size)
    repeat any_goals first | assumption | wp_step
    refine codeAny_mono (codeAny_call_builtin (R := wants (fun r st2 => r = .none ∧ ∃ h2 tk, st2 = { s with heap := h2, toks := tk } ∧ h2.SetOf (PySem.strKind prog w) s.heap.objs.size (fun k => decide (k ∈ met [] xs)) (distinct xs) ∧
      (∀ b o, b < s.heap.objs.size → s.heap.get? b = some o → h2.get? b = some o)) E) PySem.F.called_set.init.plain PySem.F.entry_set_init (check_set_init_1 type_ ?_)) fun res2 st2 hr2 => ?_
    · obtain ⟨⟨ocl, odi, oda, osl⟩, found, c1, nn, c2⟩ := tup
      simp only at c1 c2
      subst c1; subst c2
      have found2 : (s.heap.push (bareSet led)).get? l = some { cls := .type "tuple", dict := odi, data := .seq items nn, slots := osl } := Heap.get?_push_of_some _ found
      have e1 := PySem.F.sub_tuple_set
      have e2 := PySem.F.sub_tuple_frozenset
      have e3 : (Value.type "tuple" == Value.type "dict") = false := by decide
      have tup2 : (s.heap.push (bareSet led)).IsTuple l items := ⟨_, found2, rfl, nn, rfl⟩
      unfold Builtin.«set.__init__» noKeywords Builtin.Frozenset.updateFrom
      generalize walked : pyIter = IT
      wp_walk
      subst walked
      refine wpAny_pyIter_tuple tup2 (wpAny_bind (wpAny_runValue ?_))
      have below : l < s.heap.objs.size := Heap.lt_size found
      have calm3 : A.in1.in1.in1.handled = none := by simp [calm]
      have sizeP : (s.heap.push (bareSet led)).objs.size = s.heap.objs.size + 1 := Heap.size_push _ _
      have apart : l ≠ (s.heap.push (bareSet led)).objs.size := by rw [sizeP]; exact Nat.ne_of_lt (Nat.lt_succ_of_lt below)
      have out_ : s.heap.objs.size ∉ [(s.heap.push (bareSet led)).objs.size, l] := by
        rw [sizeP]
        simp only [List.mem_cons, List.not_mem_nil, or_false, not_or]
        exact ⟨Nat.ne_of_lt (Nat.lt_succ_self _), Nat.ne_of_gt below⟩
      refine fill_loop ((Walks.tuple calm3 _ l apart items).toS) s.heap.objs.size out_ xs size_ (by rw [← size_]; exact few) (fun i v hv => SS.strs_at its i v (by rw [Array.getElem?_toList]; exact hv)) items.size 0 _ (Nat.zero_add _) ⟨⟨_, Heap.get?_push_size _ rfl, rfl, rfl⟩, (tup2.push _)⟩ ?_ ?_
      · have still : ((s.heap.push (bareSet led)).push { cls := .type "tuple_iterator", data := .fields #[.ref l, .int 0 0] }).get? s.heap.objs.size = some (bareSet led) := Heap.get?_push_of_some _ there
        exact SetOf_congr ((PyProof.Rows.setObjOf_fresh (knd := PySem.strKind prog w) led).setOf still (by unfold scanBound; omega)) (fun _ => rfl) rfl
      · rintro ⟨h3, g3, d3, t3, o3⟩ hm full
        obtain rfl : g3 = s.gens := hm.gens
        obtain rfl : d3 = s.drawn := hm.drawn
        obtain rfl : o3 = s.os := hm.os
        refine wpAny_pure ?_
        change wpAny _ _ (ret Value.none) _ _ _
        refine wpAny_pure ⟨rfl, h3, t3, rfl, full, fun b o hb y => hm.heap b o ?_ (Heap.get?_push_of_some _ (Heap.get?_push_of_some _ y))⟩
        rw [sizeP]
        simp only [List.mem_cons, List.not_mem_nil, or_false, not_or]
        exact ⟨Nat.ne_of_lt hb, Nat.ne_of_lt (Nat.lt_succ_of_lt hb)⟩
    · match res2, hr2 with
      | .error ex, hr2 => exact hr2
      | .ok .next, hr2 => exact hr2.elim
      | .ok .brk, hr2 => exact hr2.elim
      | .ok .cont, hr2 => exact hr2.elim
      | .ok (.ret r), hr2 =>
        obtain ⟨rfl, h3, t3, rfl, full, keep⟩ := hr2
        repeat any_goals first | assumption | wp_step
        exact k _ _ full keep
end
end TL
namespace TL
open PySem PySem.Spec PyProof.Rows L2
def dLenSet (t : DTE) : DTE := fun ρ Q => t ρ fun r ρ1 => match val ρ1 r with
  | some (.tup ys) => (match txs ys with
    | some xs => xs.length ≤ 4000 ∧ Q (.dat (.int (distinct xs : Nat))) ρ1
    | none => False)
  | _ => False
section
variable {X : Cx} {a : Expr} {ta : DTE} {np : Np} {p1 p2 p3 p4 : Pos}
theorem texts_of : ∀ {ys : List Str} {us : List Value}, Vals (ys.map V.str) us → StrsAre us ys
  | [], _, .nil => .nil
  | y :: ys, _, .cons r t => by
    obtain ⟨k, rfl⟩ := r
    exact .cons y k (texts_of t)
theorem d_lenSet (calm : X.calm = true) (g1 : Gl X "len") (m1 : X.mg "len" = none) (g2 : Gl X "set") (m2 : X.mg "set" = none) (ha : PE X a (lift X.K np ta))
    (na : starEach [a] X.env = (false, eval a X.env) :: starEach [] X.env := by rfl) : PE X (.Call (.Name "len" p1) [.Call (.Name "set" p2) [a] [] p3] [] p4) (lift X.K np (dLenSet ta)) := by
  refine ⟨fun pins s σ H Q J h => ?_⟩
  obtain ⟨B, G, ρ, Qd, hn, eo, h, k⟩ := h
  refine Call_ (ld_blt J g1 m1 bt_len (PyProof.Rows.callWith_builtin1 (PyProof.Rows.args_cons ?_ rfl) rfl rfl))
  refine Call_ (ld_blt J g2 m2 bt_set (PyProof.Rows.callWith_type1 (PyProof.Rows.args_cons ?_ na) na rfl))
  have mid : lift X.K np ta σ H fun v H1 => ∃ (l : Addr) (xs : List Str) (G1 : Hp) (ρ1 : TL.Env), v = .ref l ∧ SqT X.K H1 l (xs.map V.str) ∧ xs.length ≤ 4000 ∧ Same G G1 ∧ EnvOk X.K B G1 ρ1 σ H1 ∧ Qd (.dat (.int (distinct xs : Nat))) ρ1 := by
    refine ⟨B, G, ρ, _, hn, eo, h, fun G1 v r ρ1 H1 s1 f1 q1 => ?_⟩
    obtain ⟨ω, e1, rr⟩ := f1
    split at q1
    · rename_i ys hv
      split at q1
      · rename_i xs hx
        obtain rfl := txs_eq hx
        obtain ⟨l, vs, rfl, hs, rl⟩ := (e1.rd rr hv).tup
        obtain rfl := rl.strs_eq
        exact ⟨l, xs, G1, ρ1, rfl, seqT e1.gle hs, q1.1, s1, ⟨ω, e1⟩, q1.2⟩
      · exact q1.elim
    · exact q1.elim
  refine thn (ha.run pins s σ H _ J mid) fun v st ⟨y, H1, J1, r1, q1⟩ => PyProof.Rows.args_nil ?_
  obtain ⟨l, xs, G1, ρ1, rfl, hs, few, s1, e1, q1⟩ := q1
  cases r1
  obtain ⟨its, rv, pl, hz⟩ := J1.tuple hs
  refine set_of_tuple (J1.ok.hd calm) pl (by simpa using texts_of rv) (by unfold scanBound; omega) fun h2 tk full keep => PyProof.Rows.args_nil ?_
  obtain ⟨ob, es, ep, tb, f1, f2, f3, f4, f5, f6, f7, f8⟩ := full
  have J2 : Inv X pins σ H1 { st with heap := h2, toks := tk } := J1.kept fun b o y => keep b o (Heap.lt_size y) y
  have small : distinct xs ≤ 4000 := by
    have := met_len xs []
    unfold distinct
    simp at this
    omega
  refine call_len_set f1 f2 f3 f7 (by rw [f8]; omega) ⟨.int (distinct xs : Nat), H1, J2.tok _, ⟨_, by rw [f8]⟩, ?_⟩
  exact k _ _ _ _ _ s1 (e1.dat (.int _)) q1
end
end TL
namespace TL
end TL
namespace TL
end TL
namespace TL
open PySem PySem.Spec PyProof.Rows L2
section
variable {K : PySem.W.Frag} {G H : Hp} {v : V}
theorem RdV.obj {C : Addr} {fs : List (Str × D)} (s : Same G H) (r : RdV K G H v (.obj C fs)) : ∃ a dx vs, v = .ref a ∧ G a = some (.ins C dx vs) ∧ H a = some (.ins C dx vs) ∧ RpF K G vs fs := by
  rcases r with r | ⟨_, _, _, _, e, _⟩ | ⟨_, _, _, _, e, _⟩
  · cases r with | obj h _ r => exact ⟨_, _, _, rfl, h, s _ _ h, r⟩
  · cases e
  · cases e
theorem RpF.look {f : Str} {d : D} : ∀ {vs : List (Str × V)} {fs : List (Str × D)}, RpF K G vs fs → fs.lookup f = some d → ∃ v, vs.lookup f = some v ∧ Rp K G v d
  | _, _, .nil, h => by cases h
  | _, _, .cons (f := g) h r, q => by
    rw [List.lookup_cons] at q ⊢
    split at q
    · cases q
      exact ⟨_, rfl, h⟩
    · exact r.look q
end
def dFld (C : Addr) (f : Str) (t : DTE) : DTE := fun ρ Q => t ρ fun r ρ1 => match val ρ1 r with
  | some (.obj C' fs) => C' = C ∧ (match fs.lookup f with | some d => Q (.dat d) ρ1 | none => False)
  | _ => False
section
variable {X : Cx} {e : Expr} {t : DTE} {np : Np} {C p g : Addr} {f f' : Str} {pos : Pos}
theorem d_fld (c : Cls X.K C) (n : NoAttr X.K C f) (ha : PE X e (lift X.K np t)) (hb : attributeBase e f X.env (eval e X.env) = eval e X.env := by rfl) : PE X (.Attribute e f pos) (lift X.K np (dFld C f t)) := by
  refine ⟨fun pins s σ H Q J h => ?_⟩
  obtain ⟨B, G, ρ, Qd, hn, eo, h, k⟩ := h
  refine (pe_fld ha hb).run pins s σ H Q J ⟨B, G, ρ, _, hn, eo, h, fun G1 v r ρ1 H1 s1 f1 q1 => ?_⟩
  obtain ⟨ω, e1, rr⟩ := f1
  split at q1
  · rename_i C' fs hv
    obtain ⟨rfl, q1⟩ := q1
    obtain ⟨a, dx, vs, rfl, hg, hh, rf⟩ := (e1.rd rr hv).obj e1.gle
    split at q1
    · rename_i d hd
      obtain ⟨u, hu, ru⟩ := rf.look hd
      exact ⟨a, _, dx, vs, u, rfl, hh, c, n, hu, k _ _ (.dat d) _ _ s1 ⟨ω, e1, ru⟩ q1⟩
    · exact q1.elim
  · exact q1.elim
theorem d_prop {CX : CXT} {kk : Nat} {fd : FuncData} {ps : List Str} (c : Cls X.K C) (hp : PropOf X.K C f p g) (F : FnOk X.prog X.w X.K X.mg X.base CX kk g fd ps (getSp C f')) (hr : Room (kk + 1) X.A) (hbd : Binds X.K fd ps []) (hx : Passes CX X.nox (fun _ _ _ => False))
    (ha : PE X e (lift X.K np t)) (hb : attributeBase e f X.env (eval e X.env) = eval e X.env := by rfl) : PE X (.Attribute e f pos) (lift X.K np (dFld C f' t)) := by
  refine ⟨fun pins s σ H Q J h => ?_⟩
  obtain ⟨B, G, ρ, Qd, hn, eo, h, k⟩ := h
  refine (pe_prop (ds := []) (dvs := []) ha c hp F hr hbd .nil hx hb).run pins s σ H Q J ⟨B, G, ρ, _, hn, eo, h, fun G1 v r ρ1 H1 s1 f1 q1 => ?_⟩
  obtain ⟨ω, e1, rr⟩ := f1
  split at q1
  · rename_i C' fs hv
    obtain ⟨rfl, q1⟩ := q1
    obtain ⟨a, dx, vs, rfl, hg, hh, rf⟩ := (e1.rd rr hv).obj e1.gle
    split at q1
    · rename_i d hd
      obtain ⟨u, hu, ru⟩ := rf.look hd
      exact ⟨a, dx, vs, rfl, hh, a, dx, vs, u, rfl, hh, hu, k _ _ (.dat d) _ _ s1 ⟨ω, e1, ru⟩ q1⟩
    · exact q1.elim
  · exact q1.elim
end
theorem RpF.look_none {K : PySem.W.Frag} {G : Hp} {f : Str} : ∀ {vs : List (Str × V)} {fs : List (Str × D)}, RpF K G vs fs → fs.lookup f = none → vs.lookup f = none
  | _, _, .nil, _ => rfl
  | _, _, .cons (f := g) h r, q => by
    rw [List.lookup_cons] at q ⊢
    split at q
    · cases q
    · exact r.look_none q
theorem stl_obj {r : Rs} {C : Addr} {fs : List (Str × D)} (h : stl r = .dat (.obj C fs)) : r = .dat (.obj C fs) := by
  cases r with
  | dat d => exact h
  | sl i => cases h
  | nw s => cases s <;> cases h
def dMth (C : Addr) (m : Str) (n : Nat) (S : DSp) (t : DTE) (u : DTA) : DTE := fun ρ Q => t ρ fun r ρ1 => match stl r with
  | .dat (.obj C' fs) => C' = C ∧ fs.lookup m = none ∧ u ρ1 fun rs ρ2 => rs.length + 1 = n ∧ slNd rs = true ∧ match slotsOf ρ2 rs with
    | some args => S (.fr (.obj C fs) :: args) fun r ss => Q r (backE ρ2 rs ss.tail)
    | none => False
  | _ => False
theorem backE_dat {ρ : Env} {d : D} {rs : List Rs} : ∀ {ss : List Sl}, backE ρ (.dat d :: rs) ss = backE ρ rs ss.tail
  | [] => by cases rs with
    | nil => rfl
    | cons r rs => cases r <;> rfl
  | s :: ss => rfl
theorem sp_ok {K : PySem.W.Frag} {np : Np} {n : Nat} {S : DSp} {E : XK} {B : Bs} {G G0 : Hp} {ω : Own} {ρ : Env} {σ : Stt} {H : Hp} {vs : List V} {rs : List Rs} {args : List Sl} {Q : VK} {Qd : Rs → Env → Prop} (hn : np.ok B) (e1 : EnvW K B G ω ρ σ H) (ar : ArgsOk K G σ vs rs) (hl : rs.length = n) (nd : slNd rs = true)
    (hs : slotsOf ρ rs = some args) (q1 : S args fun r ss => Qd r (backE ρ rs ss)) (k : ∀ G' v r ρ' H', Same G G' → Fin K B G' ρ' σ H' v r → Qd r ρ' → Q v H') : toSp K np.T n S vs H Q E := by
  refine ⟨G, inW ω rs, args, _, by rw [ar.length]; exact hl, by rw [← hn.T]; exact e1.enter ar nd hs, q1, fun G' ω' v r ss H' s f rr nsl q => ?_⟩
  rw [← hn.T] at f
  have e2 := e1.back2 ar nd hs s f
  refine k _ _ _ _ _ s ⟨_, e2, ?_⟩ q
  cases r with
  | dat d => exact rr
  | sl j => exact absurd rfl (nsl j)
  | nw sl =>
    refine ⟨rr.1, rr.2.mono (.refl _) fun a z => ⟨?_, rfl⟩⟩
    rw [List.length_map] at z
    exact outW_tag ar.length.symm z
section
variable {X : Cx} {CX : CXT} {kk n : Nat} {C f : Addr} {fd : FuncData} {ps : List Str} {S : DSp} {E : XK} {m : Str} {apos pos : Pos} {o e : Expr} {es : List Expr} {t : DTE} {u : DTA} {np : Np}
theorem mth_ok (σ : Stt) (H : Hp) (Q : VK) (h : lift X.K np (dMth C m n S t u) σ H Q) : tMeth C m (toSp X.K np.T n S) [] E (lift X.K np t) (liftA X.K np u) σ H Q := by
  obtain ⟨B, G, ρ, Qd, hn, eo, h, k⟩ := h
  refine ⟨B, G, ρ, _, hn, eo, h, fun G1 v r ρ1 H1 s1 f1 q1 => ?_⟩
  split at q1
  · rename_i C' fs hv
    obtain ⟨rfl, hm, q1⟩ := q1
    obtain rfl := stl_obj hv
    obtain ⟨ω, e1, rr⟩ := f1
    obtain ⟨a, dx, vs, rfl, hg, hh, rf⟩ := RdV.obj e1.gle (.inl rr)
    refine ⟨a, dx, vs, rfl, hh, rf.look_none hm, B, G1, ρ1, _, hn, ⟨ω, e1⟩, q1, fun G2 us rs ρ2 H2 s2 e2 ar q2 => ?_⟩
    obtain ⟨hl, nd, q2⟩ := q2
    split at q2
    · rename_i args hs
      obtain ⟨ω2, e2⟩ := e2
      rw [List.append_nil]
      refine sp_ok hn (G0 := G) e2 (.cons (.dat (Rp.mono s2 rr)) ar) (rs := .dat (.obj C' fs) :: rs) hl nd (args := .fr (.obj C' fs) :: args) (by unfold slotsOf; rw [hs]; rfl) (Qd := Qd) ?_ fun G' v r ρ' H' s f q => k _ _ _ _ _ (s1.trans (s2.trans s)) f q
      have : (fun r ss => Qd r (backE ρ2 (Rs.dat (.obj C' fs) :: rs) ss)) = fun r (ss : List Sl) => Qd r (backE ρ2 rs ss.tail) := by
        funext r ss
        rw [backE_dat]
      rw [this]
      exact q2
    · exact q2.elim
  · exact q1.elim
theorem d_ometh {pl : Sem Bool} (he : PE X o (lift X.K np t)) (c : Cls X.K C) (hm : Meth X.K C m f) (F : FnOk X.prog X.w X.K X.mg X.base CX kk f fd ps (toSp X.K np.T n S)) (hr : Room kk X.A) (hb : Binds X.K fd ps []) (hx : Passes CX X E) (ha : PA X (e :: es) (liftA X.K np u))
    (hst : starEach (e :: es) X.env = (false, eval e X.env) :: starEach es X.env := by rfl) (hpl : (backTo pos (starEach es X.env)).any (·.1) = false := by rfl)
    (ht : eval (.Call (.Attribute o m apos) (e :: es) [] pos) X.env = (do
      let ov ← eval o X.env
      standAt apos.atName
      let (f, first) ← holding [ov] (getMethod ov m pl)
      callWith pos f first (backTo pos (starEach (e :: es) X.env)) (backToKw pos (keywordEach [] X.env))) := by rfl) :
    PE X (.Call (.Attribute o m apos) (e :: es) [] pos) (lift X.K np (dMth C m n S t u)) :=
  (pe_meth (pl := pl) he c hm F hr hb .nil hx ha hst hpl ht).mo fun σ H Q h => mth_ok σ H Q h
end
end TL
namespace TL
open PySem PySem.Spec PyProof.Rows L2
def putD (f : Str) (d : D) : List (Str × D) → List (Str × D)
  | [] => [(f, d)]
  | (g, x) :: r => if g = f then (g, d) :: r else (g, x) :: putD f d r
theorem RpF.put {K : PySem.W.Frag} {G : Hp} {f : Str} {v : V} {d : D} (h : Rp K G v d) : ∀ {vs : List (Str × V)} {fs : List (Str × D)}, RpF K G vs fs → RpF K G (putF f v vs) (putD f d fs)
  | _, _, .nil => .cons h .nil
  | _, _, .cons (f := g) h' r => by
    unfold putF putD
    by_cases e : g = f
    · rw [if_pos e, if_pos e]; exact .cons h r
    · rw [if_neg e, if_neg e]; exact .cons h' (r.put h)
theorem RpF.length {K : PySem.W.Frag} {G : Hp} : ∀ {vs : List (Str × V)} {fs : List (Str × D)}, RpF K G vs fs → vs.length = fs.length
  | _, _, .nil => rfl
  | _, _, .cons _ r => congrArg (· + 1) r.length
def dFldSet (C : Addr) (i : Nat) (f : Str) (t : DTE) : DTS := fun D ρ => t ρ fun r ρ1 => match stl r with
  | .dat d => (match ρ1[i]? with
    | some (.rs (.ob C' fs)) => C' = C ∧ fs.length < 1000 ∧ D.nx (ρ1.set i (.rs (.ob C (putD f d fs))))
    | _ => False)
  | _ => False
section
variable {X : Cx} {np : Np} {C : Addr} {f x : Str} {e : Expr} {te : DTE} {p p' pos : Pos}
theorem ds_fld (i : Nat) (c : Cls X.K C) (n : NoAttr X.K C f) (he : PE X e (lift X.K np te)) (hs : swapsWith e (some (.Attribute (.Name x p) f p')) pos.line X.env = pure false := by rfl) (hN : X.N[i]? = some x := by rfl) (hv : Vis X.env.scope x := by first | exact Or.inl rfl | exact Or.inr (Or.inl rfl) | exact Or.inr (Or.inr rfl)) (hd : (x == ("__debug__" : Str)) = false := by decide) (hcd : (x == ("__classdict__" : Str)) = false := by decide) :
    PS X (.Assign [.Attribute (.Name x p) f p'] e pos) (liftS X.K np (dFldSet C i f te)) := by
  refine (ps_fld (pe_var (i := i) hN hv hd hcd) he hs).mo fun D σ H h => ?_
  obtain ⟨B, G, ρ, Dd, hn, eo, h, k1, k2, k3, k4⟩ := h
  refine ⟨B, G, ρ, _, hn, eo, h, fun G1 v r ρ1 H1 s1 f1 q1 => ?_⟩
  obtain ⟨G2, s2, f2⟩ := f1.stl
  obtain ⟨ω, ew, rv⟩ := f2
  split at q1
  · rename_i d hr
    rw [hr] at rv
    split at q1
    · rename_i C' fs hi
      obtain ⟨rfl, hl, q1⟩ := q1
      obtain ⟨u, e1, a, dx, vs, rfl, f1, f2, h1, h2, rf⟩ := ew.slot i _ hi
      refine ⟨.ref a, e1, a, _, dx, vs, rfl, h1, c, n, by rw [rf.length]; exact hl, ?_⟩
      have ne : dx ≠ a := fun z => by subst z; rw [h1] at h2; cases h2
      exact k1 _ _ _ _ (s1.trans s2) ⟨ω, ew.mutG (o := .ins _ dx (putF f v vs)) (s' := .rs (.ob _ (putD f d fs))) hi rfl f1 ⟨.ref a, e1, a, dx, _, rfl, f1, f2, upd_same, by rw [upd_ne ne]; exact h2, rf.put rv⟩⟩ q1
    · exact q1.elim
  · exact q1.elim
end
section
variable {K : PySem.W.Frag} {B : Bs} {G : Hp} {ω : Own} {ρ : Env} {σ : Stt} {H : Hp}
def tag2 (ω : Own) (a b : Addr) (i : Nat) : Own := fun c => if c = a ∨ c = b then some i else if ω c = some i then none else ω c
theorem tag2_some {a b c : Addr} {i j : Nat} (h : tag2 ω a b i c = some j) : (j = i ∧ (c = a ∨ c = b)) ∨ (ω c = some j ∧ j ≠ i ∧ ¬ (c = a ∨ c = b)) := by
  unfold tag2 at h
  split at h
  · rename_i z; exact .inl ⟨(Option.some.inj h).symm, z⟩
  · rename_i z
    split at h
    · cases h
    · rename_i n; exact .inr ⟨h, fun y => n (y ▸ h), z⟩
theorem tag2_ne {a b c : Addr} {i j : Nat} (h : ω c = some j) (hj : j ≠ i) (hc : ¬ (c = a ∨ c = b)) : tag2 ω a b i c = some j := by
  unfold tag2
  rw [if_neg hc, if_neg (fun z => by rw [h] at z; exact hj (Option.some.inj z))]
  exact h
theorem tag2_pos {a b c : Addr} {i : Nat} (hc : c = a ∨ c = b) : tag2 ω a b i c = some i := by unfold tag2; rw [if_pos hc]
theorem EnvW.push (e : EnvW K B G ω ρ σ H) (hp : B.P.length ≤ σ.length) {x dx C : Addr} (hx : H x = none) (hdx : H dx = none) (ne : dx ≠ x) :
    EnvW K B G (tag2 ω x dx σ.length) (ρ ++ [.rs (.ob C [])]) (σ ++ [some (.ref x)]) (upd (upd H dx (.own x)) x (.ins C dx [])) := by
  have hh : ∀ a, ¬ (a = x ∨ a = dx) → upd (upd H dx (.own x)) x (.ins C dx []) a = H a := fun a n => by rw [upd_ne (fun z => n (.inl z)), upd_ne (fun z => n (.inr z))]
  have off : ∀ a, H a ≠ none → ¬ (a = x ∨ a = dx) := fun a h z => by
    rcases z with z | z
    · exact h (z ▸ hx)
    · exact h (z ▸ hdx)
  refine ⟨fun a u q => ?_, e.g0, e.keep.mono (.refl _) fun a u q => ?_, fun a i q => ?_, by rw [List.length_append, List.length_append, e.len]; rfl, fun i s q => ?_, fun i s v q o p => ?_⟩
  · have := e.gle a u q
    rw [hh a (off a (by rw [this]; simp))]; exact this
  · rw [hh a (off a (by rw [q]; simp))]; exact q
  · rcases tag2_some q with ⟨_, z⟩ | ⟨z, _, n⟩
    · rcases z with rfl | rfl
      · exact ⟨Same.none e.gle hx, by rw [upd_same]; simp, e.gone hx⟩
      · exact ⟨Same.none e.gle hdx, by rw [upd_ne ne, upd_same]; simp, e.gone hdx⟩
    · obtain ⟨h1, h2, h3⟩ := e.own a i z
      exact ⟨h1, by rw [hh a n]; exact h2, h3⟩
  · by_cases hi : i < ρ.length
    · rw [List.getElem?_append_left hi] at q
      rw [List.getElem?_append_left (by rw [← e.len]; exact hi)]
      refine (e.slot i s q).mono (.refl _) fun a z => ?_
      obtain ⟨_, h2, _⟩ := e.own a i z
      have := e.len
      exact ⟨tag2_ne z (by omega) (off a h2), hh a (off a h2)⟩
    · rw [List.getElem?_append_right (by omega)] at q
      have hi2 : i = ρ.length := by
        have := (List.getElem?_eq_some_iff.mp q).1
        simp at this
        omega
      subst hi2
      simp at q
      subst q
      rw [List.getElem?_append_right (by rw [e.len]; exact Nat.le_refl _)]
      refine ⟨.ref x, by rw [e.len]; simp, x, dx, [], rfl, ?_, ?_, upd_same, ?_, .nil⟩
      · rw [e.len]; exact tag2_pos (.inl rfl)
      · rw [e.len]; exact tag2_pos (.inr rfl)
      · rw [upd_ne ne, upd_same]
  · by_cases hi : i < ρ.length
    · rw [List.getElem?_append_left hi] at q
      rw [List.getElem?_append_left (by rw [← e.len]; exact hi)]
      exact e.pin i s v q o p
    · have := (List.getElem?_eq_some_iff.mp p).1
      have := e.len
      omega
theorem EnvW.pop {C : Addr} {fs : List (Str × D)} {u : V} (e : EnvW K B G ω (ρ ++ [.rs (.ob C fs)]) (σ ++ [some u]) H) :
    ∃ G' ω', Same G G' ∧ EnvW K B G' ω' ρ σ H ∧ Rp K G' u (.obj C fs) := by
  have hl : ρ.length = σ.length := by
    have := e.len
    rw [List.length_append, List.length_append] at this
    simp at this
    exact this
  obtain ⟨v, e1, a, dx, vs, rfl, f1, f2, h1, h2, rf⟩ := e.slot ρ.length (.rs (.ob C fs)) (by simp)
  rw [hl] at e1
  simp at e1
  subst e1
  have ne : dx ≠ a := fun z => by subst z; rw [h1] at h2; cases h2
  obtain ⟨g1, _, z1⟩ := e.own a _ f1
  obtain ⟨g2, _, z2⟩ := e.own dx _ f2
  have s1 : Same G (upd G dx (.own a)) := same_upd g2
  have s2 : Same (upd G dx (.own a)) (upd (upd G dx (.own a)) a (.ins C dx vs)) := same_upd (by rw [upd_ne ne.symm]; exact g1)
  have sg := s1.trans s2
  refine ⟨_, untag ω ρ.length, sg, ⟨fun b u q => ?_, fun b u q => ?_, e.keep.g sg, fun b i q => ?_, hl, fun i s q => ?_, fun i s v q o p => ?_⟩, .obj upd_same (by rw [upd_ne ne, upd_same]) (rf.mono sg)⟩
  · by_cases ha : b = a
    · subst ha; rw [upd_same] at q; rw [h1]; exact q
    · rw [upd_ne ha] at q
      by_cases hb : b = dx
      · subst hb; rw [upd_same] at q; rw [h2]; exact q
      · rw [upd_ne hb] at q; exact e.gle _ _ q
  · by_cases ha : b = a
    · subst ha
      rcases z1 with z | z
      · exact .inr (.inr z)
      · exact .inr (.inl z)
    · rw [upd_ne ha] at q
      by_cases hb : b = dx
      · subst hb
        rcases z2 with z | z
        · exact .inr (.inr z)
        · exact .inr (.inl z)
      · rw [upd_ne hb] at q; exact e.g0 _ _ q
  · obtain ⟨q1, q2⟩ := untag_some q
    obtain ⟨h1', h2', h3'⟩ := e.own b i q1
    refine ⟨?_, h2', h3'⟩
    rw [upd_ne (fun z => by subst z; rw [f1] at q1; exact q2 (Option.some.inj q1).symm), upd_ne (fun z => by subst z; rw [f2] at q1; exact q2 (Option.some.inj q1).symm)]
    exact h1'
  · have hi : i < ρ.length := (List.getElem?_eq_some_iff.mp q).1
    have := e.slot i s (by rw [List.getElem?_append_left hi]; exact q)
    rw [List.getElem?_append_left (by rw [← hl]; exact hi)] at this
    exact this.mono sg fun b z => ⟨untag_ne (by omega) z, rfl⟩
  · have hi : i < ρ.length := (List.getElem?_eq_some_iff.mp q).1
    have := e.pin i s v (by rw [List.getElem?_append_left hi]; exact q) o p
    rw [List.getElem?_append_left (by rw [← hl]; exact hi)] at this
    exact this
end
theorem slotOf_app {ρ : Env} {s0 : Sl} {r : Rs} {s : Sl} (h : slotOf ρ r = some s) : slotOf (ρ ++ [s0]) r = some s ∧ ∀ i, isSl i r = true → i < ρ.length := by
  cases r with
  | dat d => exact ⟨h, fun i z => by cases z⟩
  | nw _ => cases h
  | sl i =>
    have h' : (match ρ[i]? with | some s => if s.own = true then some s else none | none => none) = some s := h
    cases w : ρ[i]? with
    | none => rw [w] at h'; cases h'
    | some t =>
      have hi := (List.getElem?_eq_some_iff.mp w).1
      refine ⟨?_, fun j z => ?_⟩
      · show (match (ρ ++ [s0])[i]? with | some s => if s.own = true then some s else none | none => none) = some s
        rw [List.getElem?_append_left hi]
        exact h'
      · have : i = j := beq_iff_eq.mp (show (i == j) = true from z)
        omega
theorem slotsOf_app {ρ : Env} {s0 : Sl} : ∀ {rs : List Rs} {ss : List Sl}, slotsOf ρ rs = some ss → slotsOf (ρ ++ [s0]) rs = some ss ∧ (∀ i, rs.any (isSl i) = true → i < ρ.length)
  | [], ss, h => ⟨h, fun i z => by cases z⟩
  | r :: rs, ss, h => by
    unfold slotsOf at h
    cases h1 : slotOf ρ r with
    | none => rw [h1] at h; cases h
    | some s1 =>
      cases h2 : slotsOf ρ rs with
      | none => rw [h1, h2] at h; cases h
      | some ss2 =>
        rw [h1, h2] at h
        cases h
        obtain ⟨a1, a2⟩ := slotOf_app (s0 := s0) h1
        obtain ⟨b1, b2⟩ := slotsOf_app (s0 := s0) h2
        refine ⟨by unfold slotsOf; rw [a1, b1], fun i z => ?_⟩
        rw [List.any_cons, Bool.or_eq_true] at z
        exact z.elim (a2 i) (b2 i)
theorem backE_app {ρ : Env} {s0 : Sl} : ∀ {rs : List Rs} {ss : List Sl}, (∀ i, rs.any (isSl i) = true → i < ρ.length) → backE (ρ ++ [s0]) rs ss = backE ρ rs ss ++ [s0]
  | [], ss, _ => by cases ss <;> rfl
  | r :: rs, [], _ => by cases r <;> rfl
  | .dat _ :: rs, s :: ss, h => backE_app (rs := rs) (ss := ss) fun i z => h i (by rw [List.any_cons, z, Bool.or_true])
  | .nw _ :: rs, s :: ss, h => backE_app (rs := rs) (ss := ss) fun i z => h i (by rw [List.any_cons, z, Bool.or_true])
  | .sl i :: rs, s :: ss, h => by
    have hi : i < ρ.length := h i (by rw [List.any_cons, isSl_self]; rfl)
    show (backE (ρ ++ [s0]) rs ss).set i (own' s) = (backE ρ rs ss).set i (own' s) ++ [s0]
    rw [backE_app (rs := rs) (ss := ss) fun j z => h j (by rw [List.any_cons, z, Bool.or_true]), List.set_append_left _ _ (by rw [backE_length]; exact hi)]
def dMake (np : Nat) (C : Addr) (n : Nat) (S : DSp) (t : DTA) : DTE := fun ρ Q => t ρ fun rs ρ1 => np ≤ ρ1.length ∧ rs.length + 1 = n ∧ slNd rs = true ∧ match slotsOf ρ1 rs with
  | some args => S (.rs (.ob C []) :: args) fun r ss => r = .dat .non ∧ ∃ fs ss', ss = .rs (.ob C fs) :: ss' ∧ Q (.dat (.obj C fs)) (backE ρ1 rs ss')
  | none => False
theorem ArgsOk.app {K : PySem.W.Frag} {G : Hp} {σ : Stt} {o : Option V} : ∀ {vs : List V} {rs : List Rs}, ArgsOk K G σ vs rs → ArgsOk K G (σ ++ [o]) vs rs
  | _, _, .nil => .nil
  | _, _, .cons a r => .cons (by
      cases a with
      | dat h => exact .dat h
      | sl h => exact .sl (by rw [List.getElem?_append_left (List.getElem?_eq_some_iff.mp h).1]; exact h)) (ArgsOk.app r)
section
variable {X : Cx} {CX : CXT} {kk n : Nat} {np : Np} {C f : Addr} {fd : FuncData} {ps : List Str} {S : DSp} {E : XK} {x : Str} {p pos : Pos} {e : Expr} {es : List Expr} {u : DTA}
theorem make_ok (σ : Stt) (H : Hp) (Q : VK) (h : lift X.K np (dMake np.n C n S u) σ H Q) : tMake C (toSp X.K np.T n S) [] E (liftA X.K np u) σ H Q := by
  obtain ⟨B, G, ρ, Qd, hn, eo, h, k⟩ := h
  refine ⟨B, G, ρ, _, hn, eo, h, fun G1 vs rs ρ1 H1 s1 e1 ar q1 => ?_⟩
  obtain ⟨hnp, hl, nd, q1⟩ := q1
  intro x dx hx hdx ne
  split at q1
  · rename_i args hs
    obtain ⟨ω1, e1⟩ := e1
    rw [List.append_nil]
    have hlen := e1.len
    have e2 := e1.push (C := C) (by rw [hn.1, ← hlen]; exact hnp) hx hdx ne
    obtain ⟨b1, b2⟩ := slotsOf_app (s0 := .rs (.ob C [])) hs
    have ar2 : ArgsOk X.K G1 (σ ++ [some (V.ref x)]) vs rs := ArgsOk.app ar
    have ar3 : ArgsOk X.K G1 (σ ++ [some (V.ref x)]) (.ref x :: vs) (.sl ρ1.length :: rs) := .cons (.sl (by rw [hlen]; simp)) ar2
    have nd3 : slNd (.sl ρ1.length :: rs) = true := by
      show (!(rs.any (isSl ρ1.length)) && slNd rs) = true
      rw [nd, Bool.and_true]
      cases z : rs.any (isSl ρ1.length) with
      | false => rfl
      | true => have := b2 _ z; omega
    have hs3 : slotsOf (ρ1 ++ [.rs (.ob C [])]) (.sl ρ1.length :: rs) = some (.rs (.ob C []) :: args) := by
      have z : slotOf (ρ1 ++ [Sl.rs (.ob C [])]) (.sl ρ1.length) = some (.rs (.ob C [])) := by
        show (match (ρ1 ++ [Sl.rs (.ob C [])])[ρ1.length]? with | some s => if s.own = true then some s else none | none => none) = _
        rw [List.getElem?_append_right (Nat.le_refl _), Nat.sub_self]
        rfl
      unfold slotsOf
      rw [b1, z]
    refine ⟨G1, _, _, _, by show (vs.length + 1) = n; rw [ar.length]; exact hl, by rw [← hn.T]; exact e2.enter ar3 nd3 hs3, q1, fun G' ω' v r ss H' s f rr nsl q => ?_⟩
    obtain ⟨rfl, fs, ss', rfl, q⟩ := q
    cases rr
    rw [← hn.T] at f
    have e4 := e2.back2 ar3 nd3 hs3 s f
    have eb : backE (ρ1 ++ [Sl.rs (.ob C [])]) (.sl ρ1.length :: rs) (.rs (.ob C fs) :: ss') = backE ρ1 rs ss' ++ [.rs (.ob C fs)] := by
      show (backE (ρ1 ++ [Sl.rs (.ob C [])]) rs ss').set ρ1.length (own' (.rs (.ob C fs))) = _
      rw [backE_app b2, show own' (.rs (.ob C fs)) = Sl.rs (.ob C fs) from rfl]
      rw [List.set_append_right _ _ (by rw [backE_length]; exact Nat.le_refl _), backE_length, Nat.sub_self]
      rfl
    rw [eb] at e4
    obtain ⟨G2, ω2, s2, e3, r3⟩ := e4.pop
    exact ⟨rfl, k _ _ (.dat (.obj C fs)) _ _ ((s1.trans s).trans s2) ⟨_, e3, r3⟩ q⟩
  · exact q1.elim
theorem d_make (M : Mk X.K C f) (F : FnOk X.prog X.w X.K X.mg X.base CX kk f fd ps (toSp X.K np.T n S)) (hr : Room (kk + 1) X.A) (hg : Gl X x) (hm : X.mg x = some (.ref C)) (hb : Binds X.K fd ps []) (hx : Passes CX X E)
    (ha : PA X (e :: es) (liftA X.K np u)) (hdb : (x == ("__debug__" : Str)) = false := by decide) (he : starEach (e :: es) X.env = (false, eval e X.env) :: starEach es X.env := by rfl) (hpl : (backTo pos (starEach es X.env)).any (·.1) = false := by rfl) :
    PE X (.Call (.Name x p) (e :: es) [] pos) (lift X.K np (dMake np.n C n S u)) :=
  (pe_make M F hr hg hm hb .nil hx ha hdb he hpl).mo fun σ H Q h => make_ok σ H Q h
end
end TL
namespace TL
open PySem PySem.Spec PyProof.Rows L2
def TurnOut (e : Expr) (d : Nat) (t0 : Expr) (p0 : Pos) (ifs0 : List Expr) (i1 : Expr) : Prop := ∀ (it acc : Value) (env : PySem.Env), compTurn e d it acc env = (do
  standAt p0
  match ← pyNext it with
  | none => pure (.done .next)
  | some v =>
    letOwnedTupleGo t0 it v
    assign t0 env v
    let mut ok := true
    for c in ifs0 do
      if ok then ok ← isTrue c env (eval c env)
    if ok then
      let x ← eval i1 env
      standAt i1.pos
      let x ← foldedSetIterable i1 env x
      let _ ← runOwn (.compStart e (d + 1) (← holding [x] (pyIter x)) acc env) env
    again (.compLoop e d it acc env))
def TurnIn (e : Expr) (d : Nat) (t0 : Expr) (p0 : Pos) (ifs0 : List Expr) (elt : Expr) : Prop := ∀ (it acc : Value) (env : PySem.Env), compTurn e d it acc env = (do
  standAt p0
  match ← pyNext it with
  | none => pure (.done .next)
  | some v =>
    letOwnedTupleGo t0 it v
    assign t0 env v
    let mut ok := true
    for c in ifs0 do
      if ok then ok ← isTrue c env (eval c env)
    if ok then
      (do let _ ← call (.builtin "list.append") [acc, ← eval elt env])
    again (.compLoop e d it acc env))
abbrev BRun := Value → (Shared → Prop) → Shared → Prop
def brOut (prog : Program) (w : World) (A : Around) (e : Expr) (d : Nat) (i1 : Expr) (env : PySem.Env) : BRun := fun acc R s => wpAny (model prog w) A (eval i1 env) (fun x s4 => wpAny (model prog w) A (pyIter x) (fun it1 s5 =>
  codeAny (model prog w) A (.compStart e (d + 1) it1 acc env) (fun r s' => match r with
    | .ok _ => R s'
    | .error _ => False) s5) (fun _ _ => False) s4) (fun _ _ => False) s
def brIn (prog : Program) (w : World) (A : Around) (elt : Expr) (env : PySem.Env) : BRun := fun acc R s => wpAny (model prog w) A (eval elt env) (fun x s4 =>
  wpAny (model prog w) A (call (.builtin "list.append") [acc, x]) (fun _ s5 => R s5) (fun _ _ => False) s4) (fun _ _ => False) s
def LoopOk (prog : Program) (w : World) (A : Around) (e : Expr) (d : Nat) (t0 : Expr) (ifs0 : List Expr) (env : PySem.Env) (br : BRun) : Prop := ∀ (acc it : Value) (R : Result → Shared → Prop) (I : Nat → Shared → Prop),
  (∀ n s, I n s → wpAny (model prog w) A (pyNext it) (fun r s1 => match r with
      | none => R (.ok .next) s1
      | some v => wpAny (model prog w) A (letOwnedTupleGo t0 it v) (fun _ s1' => wpAny (model prog w) A (assign t0 env v) (fun _ s2 =>
          wpAny (model prog w) A (forIn ifs0 true fun c r => if r = true then do let ok ← isTrue c env (eval c env); pure (ForInStep.yield ok) else pure (ForInStep.yield r)) (fun ok s3 =>
            if ok = true then br acc (fun s' => ∃ m, m < n ∧ I m s') s3 else ∃ m, m < n ∧ I m s3) (fun _ _ => False) s2) (fun _ _ => False) s1') (fun _ _ => False) s1) (fun _ _ => False) s) →
  ∀ (n : Nat) (s : Shared), I n s → codeAny (model prog w) A (.compLoop e d it acc env) R s
section
variable {prog : Program} {w : World} {A : Around} {s : Shared} {el elt t0 i0 t1 i1 : Expr} {gs : List Comprehension} {scope : Scope} {pos : Pos} {ifs0 ifs1 : List Expr} {p0 : Pos} {d : Nat} {env : PySem.Env}
theorem fl {α : Type} {t : Sem α} {Q Q' : α → Shared → Prop} {M : Model} {E : Value → Shared → Prop} {s : Shared} (h : wpAny M A t Q (fun _ _ => False) s) (hQ : ∀ a s, Q a s → Q' a s) : wpAny M A t Q' E s := thnF h hQ
theorem loop_out (ht : TurnOut (.ListComp el gs scope pos) d t0 p0 ifs0 i1) (hs : ∀ x, foldedSetIterable i1 env x = pure x) : LoopOk prog w A (.ListComp el gs scope pos) d t0 ifs0 env (brOut prog w A (.ListComp el gs scope pos) d i1 env) := by
  intro acc it R I turn n s h
  refine codeAny_loop rfl I (fun n s hI => ?_) n h
  show wpAny _ A ((compTurn (.ListComp el gs scope pos) d it acc env).onRaise (fun x => do noteFrame x env; theTreesLotGoes x)) _ _ s
  refine wpAny_noted ?_
  rw [ht]
  refine wpAny_bind (wpAny_standAt (wpAny_bind (fl (turn n s hI) fun r s₁ h₁ => ?_)))
  cases r with
  | none => exact wpAny_pure h₁
  | some v =>
    refine wpAny_bind (fl h₁ fun _ s₁' h₁' => ?_)
    refine wpAny_bind (fl h₁' fun _ s₂ h₂ => wpAny_bind (fl h₂ fun ok s₃ h₃ => ?_))
    cases ok with
    | false => exact wpAny_pure ⟨rfl, h₃⟩
    | true =>
      refine wpAny_bind (fl (show wpAny _ _ (eval i1 env) _ _ _ from h₃) fun x s₄ h₄ => ?_)
      refine wpAny_bind (wpAny_standAt (wpAny_bind (wpAny_of_eq (hs x) (wpAny_bind (wpAny_holding (fl h₄ fun it1 s₅ h₅ => ?_))))))
      refine wpAny_bind (wpAny_runOwn ?_)
      rw [Around.mark_none]
      refine codeAny_mono h₅ fun r s' hr => ?_
      cases r with
      | ok f =>
        first
          | exact wpAny_pure ⟨rfl, hr⟩
          | exact wpAny_bind (wpAny_pure (wpAny_pure ⟨rfl, hr⟩))
      | error e => exact hr.elim
theorem loop_in (ht : TurnIn (.ListComp el gs scope pos) d t0 p0 ifs0 elt) : LoopOk prog w A (.ListComp el gs scope pos) d t0 ifs0 env (brIn prog w A elt env) := by
  intro acc it R I turn n s h
  refine codeAny_loop rfl I (fun n s hI => ?_) n h
  show wpAny _ A ((compTurn (.ListComp el gs scope pos) d it acc env).onRaise (fun x => do noteFrame x env; theTreesLotGoes x)) _ _ s
  refine wpAny_noted ?_
  rw [ht]
  refine wpAny_bind (wpAny_standAt (wpAny_bind (fl (turn n s hI) fun r s₁ h₁ => ?_)))
  cases r with
  | none => exact wpAny_pure h₁
  | some v =>
    refine wpAny_bind (fl h₁ fun _ s₁' h₁' => ?_)
    refine wpAny_bind (fl h₁' fun _ s₂ h₂ => wpAny_bind (fl h₂ fun ok s₃ h₃ => ?_))
    cases ok with
    | false => exact wpAny_pure ⟨rfl, h₃⟩
    | true =>
      exact wpAny_bind (wpAny_bind (fl (show wpAny _ _ (eval elt env) _ _ _ from h₃) fun x s₄ h₄ => wpAny_bind (fl h₄ fun _ s₅ h₅ => wpAny_pure (wpAny_pure ⟨rfl, h₅⟩))))
theorem start_ok {it acc : Value} {R : Result → Shared → Prop} (hc : gs[d]? = some ⟨t1, i1, ifs1, 0⟩) (h0 : codeAny (model prog w) A (.compLoop (.ListComp el gs scope pos) d it acc env) R s)
    (h : wpAny (model prog w) A (pyIter it) (fun it' s' => codeAny (model prog w) A (.compLoop (.ListComp el gs scope pos) d it' acc env) R s') (notedBy (model prog w) A env fun x s' => R (.error x) s') s) :
    codeAny (model prog w) A (.compStart (.ListComp el gs scope pos) d it acc env) R s := by
  refine codeAny_of_tree ?_
  show wpAny _ _ ((compStart (.ListComp el gs scope pos) d it acc env).onRaise (fun x => do noteFrame x env; standAt theWindowsPlace)) _ _ s
  refine wpAny_notedAt ?_
  unfold compStart clausesOf
  dsimp only
  rw [hc]
  show wpAny _ _ (ask >>= _) _ _ s
  refine wpAny_bind (wpAny_askSetting (wpAny_ite ?_))
  split
  · first
      | exact wpAny_bind (wpAny_pure (wpAny_pure (And.intro rfl h0)))
      | exact wpAny_pure (And.intro rfl h0)
  · first
      | exact wpAny_bind (wpAny_rule (wpAny_bind (wpAny_standAt (wpAny_bind (wpAny_mono h (fun it' s' h' => wpAny_pure (And.intro rfl h')) fun _ _ x => x)))))
      | (refine wpAny_bind (wpAny_rule ?_); show wpAny _ _ (standAt i1.pos >>= _) _ _ s; exact wpAny_bind (wpAny_standAt (wpAny_bind (wpAny_mono h (fun it' s' h' => wpAny_pure (And.intro rfl h')) fun _ _ x => x))))
end
end TL
namespace TL
open PySem PySem.Spec PyProof.Rows L2
abbrev TBd := Addr → L2.St → Hp → (Hp → Prop) → Prop
structure PBody (X : Cx) (vs : List Nat) (br : BRun) (tb : TBd) : Prop where
  run : ∀ (D : Addr) (pins : List (Addr × Obj)) (s : Shared) (σ : L2.St) (H : Hp) (Nx : Hp → Prop) (R : Shared → Prop), Inv X pins σ H s → tb D σ H Nx → (∀ s' H', Inv X pins (wipe σ vs) H' s' → Nx H' → R s') → br (.ref D) R s
def tLast (te : TE) : TBd := fun D σ H Nx => te σ H fun y H' => ∃ acc, H' D = some (.lst acc) ∧ acc.length < sizeLine ∧ Nx (upd H' D (.lst (acc ++ [y])))
def tInner (wi : TI) (g : TG) (tt : TT) (tb : TBd) (vs : List Nat) : TBd := fun D σ H Nx => wi σ H fun J H4 => ∃ W : Nat → Nat → Hp → Prop, (∃ m, W 0 m H4) ∧ ∀ j k H, W j k H →
  (J.stop j H ∧ Nx H) ∨ (J.go j H ∧ ∃ Nx1 : Hp → Prop, (∀ H', Nx1 H' → ∃ k', k' < k ∧ W (j + 1) k' H') ∧ ∀ x H', J.yld j H x H' → g x (wipe σ vs) H' fun σ3 H5 => wipe σ3 vs = wipe σ vs ∧ tt σ3 H5 fun b H6 =>
    if b = true then tb D σ3 H6 Nx1 else Nx1 H6)
section
variable {X : Cx} {elt tg iter el : Expr} {ifs : List Expr} {gs : List Comprehension} {scope : Scope} {pos : Pos} {te : TE} {wi : TI} {g : TG} {tt : TT} {tb : TBd} {vs vs1 : List Nat} {br : BRun} {d : Nat}
theorem pb_last (hx : X.xe = fun _ _ => False) (he : PE X elt te) : PBody X [] (brIn X.prog X.w X.A elt X.env) (tLast te) := by
  refine ⟨fun D pins s σ H Nx R I h k => ?_⟩
  have q := he.run pins s σ H _ I h
  rw [hx] at q
  unfold brIn
  refine thnF q fun z s17 ⟨yv, H17, I17, r17, acc, hD17, hz17, nx⟩ => ?_
  exact L2.app_ok I17 hD17 hz17 r17 fun s18 I18 => k _ _ I18 nx
theorem pb_for (hx : X.xe = fun _ _ => False) (hc : X.calm = true) (lo : LoopOk X.prog X.w X.A (.ListComp el gs scope pos) (d + 1) tg ifs X.env br) (hgs : gs[d + 1]? = some ⟨tg, iter, ifs, 0⟩) (hi : PI X tg iter wi) (hg : PG X tg g) (ht : PTs X ifs tt)
    (hb : PBody X vs1 br tb) (hv : ∀ i ∈ vs1, i ∈ vs) : PBody X vs (brOut X.prog X.w X.A (.ListComp el gs scope pos) d iter X.env) (tInner wi g tt tb vs) := by
  refine ⟨fun D pins s σ H Nx R I h kR => ?_⟩
  have q := hi.run pins s σ H _ I h
  rw [hx] at q
  unfold brOut
  refine thnF q fun xv s10 q1 => thnF q1 fun itv s11 h11 => ?_
  obtain ⟨it1, fp1, tn1, J1, H11, e1, I11, T1, st11, f11, W1, ⟨m1, w1⟩, turn1⟩ := h11
  subst e1
  have stat1 : ∀ {H' : Hp}, (∀ b ∈ fp1, H' b = none) → ∀ b ∈ fp1, FpOk X pins H' b := fun hn b hb => ⟨hn b hb, (f11 b hb).2⟩
  have loop1 : codeAny (model X.prog X.w) X.A (.compLoop (.ListComp el gs scope pos) (d + 1) (.ref it1) (.ref D) X.env) (fun r s' => match r with
      | .ok _ => R s'
      | .error _ => False) s11 := by
    refine lo (.ref D) (.ref it1) _ (fun k s' => ∃ j H', Inv X pins (wipe σ vs) H' s' ∧ tn1 j s'.heap ∧ (∀ b ∈ fp1, H' b = none) ∧ W1 j k H') ?_ m1 s11 ⟨0, H11, I11.weak (wipe_length _ _) (fun j v e => (wipe_some e).1), st11, fun b hb => (f11 b hb).1, w1⟩
    rintro k s12 ⟨j, H12, I12, st12, n12, w12⟩
    rcases turn1 j k H12 w12 with ⟨stop1, nx1⟩ | ⟨go1, Nx1, hNx1, step1⟩
    · refine thnF (T1.done X rfl rfl rfl hc j _ s12 (wipe σ vs) H12 (fun _ _ => False) I12 (stat1 n12) st12 stop1) fun r s13 ⟨hr, I13⟩ => ?_
      subst hr
      exact kR _ _ I13 nx1
    · refine thnF (T1.item X rfl rfl rfl hc j _ s12 (wipe σ vs) H12 (fun _ _ => False) I12 (stat1 n12) st12 go1) fun r s13 ⟨u1, hr, h13⟩ => ?_
      subst hr
      refine thnF h13 fun _ s14 ⟨x1, H14, I14, r14, y14, st14, n14⟩ => ?_
      have I14' := I14.pinned (stat1 n14) (T1.obj _ _ st14)
      have q2 := hg.run _ s14 (wipe σ vs) H14 x1 u1 _ I14' r14 (step1 x1 H14 y14)
      rw [hx] at q2
      refine thnF q2 fun _ s15 ⟨σ15, H15, I15, hw15, q15⟩ => ?_
      have q3 := ht.run _ s15 σ15 H15 _ I15 q15
      rw [hx] at q3
      refine thnF q3 fun b1 s16 ⟨H16, I16, q16⟩ => ?_
      have fin1 : ∀ {σ' : L2.St} {s' : Shared} {H' : Hp}, Inv X (pins ++ pinsAt fp1 s14.heap) σ' H' s' → (wipe σ vs).length = σ'.length → (∀ (j : Nat) v, (wipe σ vs)[j]? = some (some v) → σ'[j]? = some (some v)) → Nx1 H' → ∃ m, m < k ∧ ∃ j H', Inv X pins (wipe σ vs) H' s' ∧ tn1 j s'.heap ∧ (∀ b ∈ fp1, H' b = none) ∧ W1 j m H' := fun {σ' s' H'} I' hl hk nx => by
        obtain ⟨m', hm, w'⟩ := hNx1 H' nx
        have pin' : ∀ b ∈ fp1, ∀ o, s14.heap.get? b = some o → s'.heap.get? b = some o ∧ H' b = none := fun b hb o e =>
          let z := I'.pin (b, o) (List.mem_append_right _ (List.mem_append_right _ (mem_pinsAt hb e)))
          ⟨z.1, z.2.1⟩
        refine ⟨m', hm, j + 1, H', I'.unpinned.weak hl hk, T1.keep _ _ _ st14 fun b hb o e => (pin' b hb o e).1, fun b hb => ?_, w'⟩
        obtain ⟨o, e, _⟩ := T1.obj _ _ st14 b hb
        exact (pin' b hb o e).2
      have hl15 : (wipe σ vs).length = σ15.length := by rw [← hw15, wipe_length]
      have hk15 : ∀ (j : Nat) v, (wipe σ vs)[j]? = some (some v) → σ15[j]? = some (some v) ∧ j ∉ vs := fun j v e => by
        rw [← hw15] at e
        exact wipe_some e
      cases b1 with
      | false =>
        simp only [Bool.false_eq_true, if_false] at q16 ⊢
        exact fin1 I16 hl15 (fun j v e => (hk15 j v e).1) q16
      | true =>
        simp only [if_true] at q16 ⊢
        refine hb.run D _ s16 σ15 H16 Nx1 _ I16 q16 fun s' H' I' nx => fin1 I' (hl15.trans (wipe_length _ _).symm) (fun j v e => ?_) nx
        obtain ⟨e1, e2⟩ := hk15 j v e
        rw [wipe_out fun z => e2 (hv j z)]
        exact e1
  exact start_ok (d := d + 1) hgs loop1 (T1.self X.A 0 _ _ _ st11 loop1)
def tLcN (wi : TI) (g : TG) (tt : TT) (tb : TBd) (vs : List Nat) : TE := fun σ H Q => wi σ H fun J H1 => ∀ D, H1 D = none → ∃ W : Nat → Nat → Hp → Prop, (∃ m, W 0 m (upd H1 D (.lst []))) ∧ ∀ i m H, W i m H →
  (J.stop i H ∧ Q (.ref D) H) ∨ (J.go i H ∧ ∃ Nx : Hp → Prop, (∀ H', Nx H' → ∃ m', m' < m ∧ W (i + 1) m' H') ∧ ∀ x H', J.yld i H x H' → g x (wipe σ vs) H' fun σ2 H2 => wipe σ2 vs = wipe σ vs ∧ tt σ2 H2 fun b H3 =>
    if b = true then tb D σ2 H3 Nx else Nx H3)
theorem lcN_core {pins : List (Addr × Obj)} {s : Shared} {σ : L2.St} {H : Hp} {Q : VK} {rest : List Comprehension} {own : List (Str × Nat)} {pos' : Pos} {use : Option (Value → Sem Unit)} {Qf : Value → Shared → Prop} {brf : PySem.Env → BRun}
    (hc : X.calm = true) (hN : X.N.Nodup) (I : Inv X pins σ H s) (hi : PI X tg iter wi) (ok : BlkOk X.N X.env.scope scope own) (hv : ∀ i ∈ vs1, i ∈ own.map (·.2))
    (lo : ∀ (env : PySem.Env), LoopOk X.prog X.w X.A (.ListComp el (⟨tg, iter, ifs, 0⟩ :: rest) scope pos) 0 tg ifs env (brf env))
    (hg : ∀ (s : Shared) (H : Hp) (C : Addr) (cl : List (Str × Addr)) (fp : List Addr), PG (X.blk s H scope (compEnvC scope cl C X.env) fp) tg g) (ht : ∀ (s : Shared) (H : Hp) (C : Addr) (cl : List (Str × Addr)) (fp : List Addr), PTs (X.blk s H scope (compEnvC scope cl C X.env) fp) ifs tt)
    (hb : ∀ (s : Shared) (H : Hp) (C : Addr) (cl : List (Str × Addr)) (fp : List Addr), PBody (X.blk s H scope (compEnvC scope cl C X.env) fp) vs1 (brf (compEnvC scope cl C X.env)) tb)
    (hs : ∀ x, foldedSetIterable iter X.env x = pure x)
    (h : tLcN wi g tt tb (own.map (·.2)) σ H Q)
    (hRR : ∀ D C s' m H', Inv X pins σ H' s' → Q (.ref D) H' → s'.heap.Ns C m → FpOk X pins H' C → compPost (model X.prog X.w) X.A X.xe use Qf (.ref D) C (.ok .next) s') :
    wpAny (model X.prog X.w) X.A (comprehension (.ListComp el (⟨tg, iter, ifs, 0⟩ :: rest) scope pos) scope X.env pos' (newList []) false (eval iter X.env) use) Qf X.xe s := by
  have hfree : ∀ y ∈ scope.names, y.2 = .free → ∃ c, X.env.cells.lookup y.1 = some c := fun y hy e => by
    rcases ok.free y hy e with k | k
    · exact I.ok.has _ (.inl k)
    · exact I.ok.has _ (.inr k)
  refine wpAny_comprehension_free (use := use) rfl hs (closure_ok hfree) ok.kind (fun y hy e => by rw [ok.uniq y hy, e])
    (thn (hi.run pins s σ H _ I h) fun xv s1 hx => thn hx fun itv s2 h2 => ?_)
  obtain ⟨it, fp, tn, J, H2, e, I2, T, st2, f2, q⟩ := h2
  subst e
  refine wpAny_newObj_type (newEnv_comp ?_) (by show 0 ≤ sizeLine; decide)
  generalize hD : s2.heap.objs.size = D
  have hDn : H2 D = none := I2.hok.fresh (Nat.le_of_eq hD)
  obtain ⟨W, ⟨m0, w0⟩, turn⟩ := q D hDn
  generalize hs3 : ({ s2 with heap := s2.heap.push { cls := .type "list", data := .seq ([] : List Value).toArray } } : Shared) = s3
  have I3 : Inv X pins σ (upd H2 D (.lst [])) s3 := by
    rw [← hs3]
    refine I2.laid (t' := s2.toks) (fun b o e => Heap.get?_push_of_some _ e) (Nat.le_of_eq hD) ⟨Nat.zero_le _, [], 0, .nil, ?_⟩
    rw [← hD]
    exact Heap.get?_push_size _ rfl
  have h3 : s3.heap = s2.heap.push { cls := .type "list", data := .seq ([] : List Value).toArray } := by rw [← hs3]
  have f3 : ∀ b ∈ fp, FpOk X pins (upd H2 D (.lst [])) b ∧ b < s3.heap.objs.size := fun b hb => by
    have hlt : b < s2.heap.objs.size := by
      obtain ⟨o, e, _⟩ := T.obj _ _ st2 b hb
      exact Heap.lt_size e
    refine ⟨⟨?_, (f2 b hb).2⟩, by rw [h3, Heap.size_push]; exact Nat.lt_succ_of_lt hlt⟩
    rw [upd_ne (by rw [← hD]; exact Nat.ne_of_lt hlt)]
    exact (f2 b hb).1
  have st3 : tn 0 s3.heap := T.keep _ _ _ st2 fun b _ o e => by rw [h3]; exact Heap.get?_push_of_some _ e
  have I4 := block_start I3 ok hN f3
  have pg := hg s3 (upd H2 D (.lst [])) s3.heap.objs.size (cellsFrom (s3.heap.objs.size + 1) scope.names (cloFrom X.env.cells scope.names [])) fp
  have pt := ht s3 (upd H2 D (.lst [])) s3.heap.objs.size (cellsFrom (s3.heap.objs.size + 1) scope.names (cloFrom X.env.cells scope.names [])) fp
  have pb := hb s3 (upd H2 D (.lst [])) s3.heap.objs.size (cellsFrom (s3.heap.objs.size + 1) scope.names (cloFrom X.env.cells scope.names [])) fp
  show codeAny _ _ (.compStart (.ListComp el (⟨tg, iter, ifs, 0⟩ :: rest) scope pos) 0 (.ref it) (.ref D) (compEnvC scope (cellsFrom (s3.heap.objs.size + 1) scope.names (cloFrom X.env.cells scope.names [])) s3.heap.objs.size X.env)) (compPost (model X.prog X.w) X.A X.xe use Qf (.ref D) s3.heap.objs.size) { s3 with heap := pushCells (s3.heap.push { cls := .type "dict", data := .dict #[] }) scope.names }
  have nfp : ∀ b ∈ fp, (upd H2 D (.lst [])) b = none := fun b hb => (f3 b hb).1.1
  generalize hce : compEnvC scope (cellsFrom (s3.heap.objs.size + 1) scope.names (cloFrom X.env.cells scope.names [])) s3.heap.objs.size X.env = ce at I4 pg pt pb ⊢
  have cL : ce.locals = s3.heap.objs.size := by subst hce; rfl
  generalize hH3 : upd H2 D (.lst []) = H3 at I3 I4 pg pt pb w0 nfp f3
  generalize hs4 : ({ s3 with heap := pushCells (s3.heap.push { cls := .type "dict", data := .dict #[] }) scope.names } : Shared) = s4 at I4 ⊢
  have st4 : tn 0 s4.heap := T.keep _ _ _ st3 fun b _ o e => by rw [← hs4]; exact pushCells_keeps _ _ _ _ (Heap.get?_push_of_some _ e)
  have stat : ∀ {σ' : L2.St} {H' : Hp} {s' : Shared}, Inv (X.blk s3 H3 scope ce fp) [] σ' H' s' → (∀ b ∈ fp, H' b = none) → ∀ b ∈ fp, FpOk (X.blk s3 H3 scope ce fp) [] H' b := fun {σ' H' s'} I' hn b hb =>
    ⟨hn b hb, (I'.ok.exf b hb).1, I'.ok.exfs b hb, .inl hb, fun x c e => (I'.ok.exf b hb).2 x c e, fun p hp => absurd (show p ∈ ([] : List (Addr × Obj)) ++ [] from hp) (by simp)⟩
  have loop : codeAny (model X.prog X.w) X.A (.compLoop (.ListComp el (⟨tg, iter, ifs, 0⟩ :: rest) scope pos) 0 (.ref it) (.ref D) ce) (compPost (model X.prog X.w) X.A X.xe use Qf (.ref D) s3.heap.objs.size) s4 := by
    refine lo ce (.ref D) (.ref it) _ (fun n s' => ∃ i H', Inv (X.blk s3 H3 scope ce fp) [] (wipe σ (own.map (·.2))) H' s' ∧ tn i s'.heap ∧ (∀ b ∈ fp, H' b = none) ∧ W i n H') ?_ m0 s4 ⟨0, H3, I4, st4, nfp, w0⟩
    rintro n s5 ⟨i, H5, I5, st5, n5, w5⟩
    rcases turn i n H5 w5 with ⟨stop, qq⟩ | ⟨go, Nx, hNx, step⟩
    · have td := T.done (X.blk s3 H3 scope ce fp) rfl rfl rfl hc i [] s5 _ H5 (fun _ _ => False) I5 (stat I5 n5) st5 stop
      refine thnF td fun r s6 ⟨hr, I6⟩ => ?_
      subst hr
      have I7 : Inv X pins σ H5 s6 := I3.call' (ch := fp) I6.os I6.base I6.hok I6.bare fun b hb => ⟨(f3 b hb).1.2.2.2.1, (f3 b hb).1.2.1, (f3 b hb).1.2.2.2.2.1, (f3 b hb).1.2.2.2.2.2⟩
      have nC : H5 s3.heap.objs.size = none := by
        have z : H5 ce.locals = none := I6.free
        rw [cL] at z
        exact z
      obtain ⟨m, hn, _⟩ := I6.loc
      have hn : s6.heap.Ns ce.locals m := hn
      rw [cL] at hn
      exact hRR D s3.heap.objs.size s6 m H5 I7 qq hn (I3.fpOk (Nat.le_refl _) nC)
    · have ti := T.item (X.blk s3 H3 scope ce fp) rfl rfl rfl hc i [] s5 _ H5 (fun _ _ => False) I5 (stat I5 n5) st5 go
      refine thnF ti fun r s6 ⟨u, hr, h6⟩ => ?_
      subst hr
      refine thnF h6 fun _ s7 ⟨x, H7, I7, r7, y7, st7, n7⟩ => ?_
      have I7' := I7.pinned (stat I7 n7) (T.obj _ _ st7)
      refine thnF (pg.run _ s7 _ H7 x u _ I7' r7 (step x H7 y7)) fun _ s8 ⟨σ8, H8, I8, hw8, q8⟩ => ?_
      refine thnF (pt.run _ s8 σ8 H8 _ I8 q8) fun b s9 ⟨H9, I9, q9⟩ => ?_
      have fin : ∀ {σ9 : L2.St} {s' : Shared} {H' : Hp}, Inv (X.blk s3 H3 scope ce fp) ([] ++ pinsAt fp s7.heap) σ9 H' s' → (wipe σ (own.map (·.2))).length = σ9.length → (∀ (j : Nat) v, (wipe σ (own.map (·.2)))[j]? = some (some v) → σ9[j]? = some (some v)) → Nx H' →
          ∃ m, m < n ∧ ∃ i H', Inv (X.blk s3 H3 scope ce fp) [] (wipe σ (own.map (·.2))) H' s' ∧ tn i s'.heap ∧ (∀ b ∈ fp, H' b = none) ∧ W i m H' := fun {σ9 s' H'} I' hl hk nx => by
        obtain ⟨m', hm, w'⟩ := hNx H' nx
        have pin' : ∀ b ∈ fp, ∀ o, s7.heap.get? b = some o → s'.heap.get? b = some o ∧ H' b = none := fun b hb o e =>
          let z := I'.pin (b, o) (List.mem_append_right _ (List.mem_append_right _ (mem_pinsAt hb e)))
          ⟨z.1, z.2.1⟩
        refine ⟨m', hm, i + 1, H', (I'.unpinned (pins := [])).weak hl hk, T.keep _ _ _ st7 fun b hb o e => (pin' b hb o e).1, fun b hb => ?_, w'⟩
        obtain ⟨o, e, _⟩ := T.obj _ _ st7 b hb
        exact (pin' b hb o e).2
      have hl8 : (wipe σ (own.map (·.2))).length = σ8.length := by rw [← hw8, wipe_length]
      have hk8 : ∀ (j : Nat) v, (wipe σ (own.map (·.2)))[j]? = some (some v) → σ8[j]? = some (some v) ∧ j ∉ own.map (·.2) := fun j v e => by
        rw [← hw8] at e
        exact wipe_some e
      cases b with
      | false =>
        simp only [Bool.false_eq_true, if_false] at q9 ⊢
        exact fin I9 hl8 (fun j v e => (hk8 j v e).1) q9
      | true =>
        simp only [if_true] at q9 ⊢
        refine pb.run D _ s9 σ8 H9 Nx _ I9 q9 fun s' H' I' nx => fin I' (hl8.trans (wipe_length _ _).symm) (fun j v e => ?_) nx
        obtain ⟨e1, e2⟩ := hk8 j v e
        rw [wipe_out fun z => e2 (hv j z)]
        exact e1
  exact codeAny_compStart_list loop (T.self X.A 0 _ _ _ st4 loop)
theorem pe_lcN {rest : List Comprehension} {own : List (Str × Nat)} {brf : PySem.Env → BRun}
    (hc : X.calm = true) (hN : X.N.Nodup) (hi : PI X tg iter wi) (ok : BlkOk X.N X.env.scope scope own) (hv : ∀ i ∈ vs1, i ∈ own.map (·.2))
    (lo : ∀ (env : PySem.Env), LoopOk X.prog X.w X.A (.ListComp el (⟨tg, iter, ifs, 0⟩ :: rest) scope pos) 0 tg ifs env (brf env))
    (hg : ∀ (s : Shared) (H : Hp) (C : Addr) (cl : List (Str × Addr)) (fp : List Addr), PG (X.blk s H scope (compEnvC scope cl C X.env) fp) tg g) (ht : ∀ (s : Shared) (H : Hp) (C : Addr) (cl : List (Str × Addr)) (fp : List Addr), PTs (X.blk s H scope (compEnvC scope cl C X.env) fp) ifs tt)
    (hb : ∀ (s : Shared) (H : Hp) (C : Addr) (cl : List (Str × Addr)) (fp : List Addr), PBody (X.blk s H scope (compEnvC scope cl C X.env) fp) vs1 (brf (compEnvC scope cl C X.env)) tb)
    (hs : ∀ x, foldedSetIterable iter X.env x = pure x := by intro _; rfl) :
    PE X (.ListComp el (⟨tg, iter, ifs, 0⟩ :: rest) scope pos) (tLcN wi g tt tb (own.map (·.2))) := by
  refine ⟨fun pins s σ H Q I h => ?_⟩
  rw [eval_ListComp]
  refine lcN_core hc hN I hi ok hv lo hg ht hb hs h fun D C s' m H' I' q hn f => ⟨m, hn, fun h'' sb => ?_⟩
  obtain ⟨f0, f1, f2, f3, f4, f5⟩ := f
  exact ⟨.ref D, H', I'.turned (t' := s'.toks) (fun b o hb e => (sb.2 b hb).trans e) f0 f1 f3 f4 f5, rfl, q⟩
end
theorem turn_out3_0 {el t0 t1 t2 i0 i1 i2 : Expr} {f0 f1 f2 : List Expr} {scope : Scope} {pos : Pos} : TurnOut (.ListComp el [⟨t0, i0, f0, 0⟩, ⟨t1, i1, f1, 0⟩, ⟨t2, i2, f2, 0⟩] scope pos) 0 t0 i0.pos f0 i1 := fun _ _ _ => rfl
theorem turn_out3_1 {el t0 t1 t2 i0 i1 i2 : Expr} {f0 f1 f2 : List Expr} {scope : Scope} {pos : Pos} : TurnOut (.ListComp el [⟨t0, i0, f0, 0⟩, ⟨t1, i1, f1, 0⟩, ⟨t2, i2, f2, 0⟩] scope pos) 1 t1 i1.pos f1 i2 := fun _ _ _ => rfl
theorem turn_in3 {el t0 t1 t2 i0 i1 i2 : Expr} {f0 f1 f2 : List Expr} {scope : Scope} {pos : Pos} : TurnIn (.ListComp el [⟨t0, i0, f0, 0⟩, ⟨t1, i1, f1, 0⟩, ⟨t2, i2, f2, 0⟩] scope pos) 2 t2 i2.pos f2 el := fun _ _ _ => rfl
theorem turn_out4_0 {el t0 t1 t2 t3 i0 i1 i2 i3 : Expr} {f0 f1 f2 f3 : List Expr} {scope : Scope} {pos : Pos} : TurnOut (.ListComp el [⟨t0, i0, f0, 0⟩, ⟨t1, i1, f1, 0⟩, ⟨t2, i2, f2, 0⟩, ⟨t3, i3, f3, 0⟩] scope pos) 0 t0 i0.pos f0 i1 := fun _ _ _ => rfl
theorem turn_out4_1 {el t0 t1 t2 t3 i0 i1 i2 i3 : Expr} {f0 f1 f2 f3 : List Expr} {scope : Scope} {pos : Pos} : TurnOut (.ListComp el [⟨t0, i0, f0, 0⟩, ⟨t1, i1, f1, 0⟩, ⟨t2, i2, f2, 0⟩, ⟨t3, i3, f3, 0⟩] scope pos) 1 t1 i1.pos f1 i2 := fun _ _ _ => rfl
theorem turn_out4_2 {el t0 t1 t2 t3 i0 i1 i2 i3 : Expr} {f0 f1 f2 f3 : List Expr} {scope : Scope} {pos : Pos} : TurnOut (.ListComp el [⟨t0, i0, f0, 0⟩, ⟨t1, i1, f1, 0⟩, ⟨t2, i2, f2, 0⟩, ⟨t3, i3, f3, 0⟩] scope pos) 2 t2 i2.pos f2 i3 := fun _ _ _ => rfl
theorem turn_in4 {el t0 t1 t2 t3 i0 i1 i2 i3 : Expr} {f0 f1 f2 f3 : List Expr} {scope : Scope} {pos : Pos} : TurnIn (.ListComp el [⟨t0, i0, f0, 0⟩, ⟨t1, i1, f1, 0⟩, ⟨t2, i2, f2, 0⟩, ⟨t3, i3, f3, 0⟩] scope pos) 3 t3 i3.pos f3 el := fun _ _ _ => rfl
end TL
namespace TL
open PySem PySem.Spec PyProof.Rows L2
abbrev DTB := List D → Env → (List D → Env → Prop) → Prop
def bLast (te : DTE) : DTB := fun acc ρ Q => te ρ fun r ρ1 => match stl r with
  | .dat x => acc.length < sizeLine ∧ Q (acc ++ [x]) ρ1
  | _ => False
def bLoop (g : DTG) (tt : DTT) (tb : DTB) (vs : List Nat) : List D → List D → Env → (List D → Env → Prop) → Prop
  | [], acc, ρ, Q => Q acc (wipeE ρ vs)
  | d :: ds, acc, ρ, Q => g d (wipeE ρ vs) fun ρ1 => tt ρ1 fun b ρ2 => if b = true then tb acc ρ2 fun acc' ρ3 => bLoop g tt tb vs ds acc' ρ3 Q else bLoop g tt tb vs ds acc ρ2 Q
def bFor (ti : DTI) (g : DTG) (tt : DTT) (tb : DTB) (vs : List Nat) : DTB := fun acc ρ Q => ti ρ fun ds ρ1 => bLoop g tt tb vs ds acc ρ1 Q
def dLcN (ti : DTI) (g : DTG) (tt : DTT) (tb : DTB) (vs : List Nat) : DTE := fun ρ Q => ti ρ fun ds ρ1 => bLoop g tt tb vs ds [] ρ1 fun acc ρ2 => Q (.nw (.ls acc)) (resto ρ1 ρ2 vs)
structure Dk (K : PySem.W.Frag) (B : Bs) (G : Hp) (ω : Own) (ρ : Env) (σ : Stt) (H : Hp) (D : Addr) (wa : List V) (acc : List TL.D) : Prop where
  e : EnvW K B G ω ρ σ H
  w : ω D = none
  g : G D = none
  h : H D = some (.lst wa)
  r : RpL K G wa acc
  d0 : B.A0 D ∨ B.H0 D = none
def liftB (K : PySem.W.Frag) (np : Np) (vs : List Nat) (tb : DTB) : TBd := fun D σ H Nx => ∃ B G ω ρ acc wa Qd, np.ok B ∧ Dk K B G ω ρ σ H D wa acc ∧ tb acc ρ Qd ∧
  ∀ G' ω' ρ' acc' wa' H', Same G G' → Dk K B G' ω' ρ' (L2.wipe σ vs) H' D wa' acc' → Qd acc' ρ' → Nx H'
theorem wipe_wipe {σ : Stt} {vs1 vs : List Nat} (hv : ∀ j ∈ vs1, j ∈ vs) : L2.wipe (L2.wipe σ vs1) vs = L2.wipe σ vs := by
  apply List.ext_getElem?
  intro j
  rw [wipe_get, wipe_length, wipe_get, wipe_get]
  by_cases h : j ∈ vs
  · by_cases hl : j < σ.length
    · rw [if_pos ⟨h, hl⟩, if_pos ⟨h, hl⟩]
    · rw [if_neg (fun z => hl z.2), if_neg (fun z => hl z.2), if_neg (fun z => hl z.2)]
  · rw [if_neg (fun z => h z.1), if_neg (fun z => h (hv j z.1)), if_neg (fun z => h z.1)]
theorem Off.wipe3 {σ σ4 : Stt} {ws vs : List Nat} (hw : ∀ j ∈ ws, j ∈ vs) (o : Off ws (L2.wipe σ vs) σ4) : L2.wipe σ4 vs = L2.wipe σ vs := by
  rw [(o.mono hw).wipe, wipe_wipe fun _ z => z]
section
variable {K : PySem.W.Frag} {B : Bs} {G : Hp} {ω : Own} {ρ : Env} {σ : Stt} {H : Hp} {D : Addr} {wa : List V} {acc : List TL.D} {np : Np}
theorem Dk.lift {t : DTE} {Qd : Rs → Env → Prop} {Q : VK} (hn : np.ok B) (k0 : Dk K B G ω ρ σ H D wa acc) (q : t ρ Qd)
    (kk : ∀ G' ω' v r ρ' H', Same G G' → Dk K B G' ω' ρ' σ H' D wa acc → RsOk K G' H' ω' σ v (stl r) → Qd r ρ' → Q v H') : TL.lift K np t σ H Q :=
  ⟨reB B G ω ρ.length H, G, ρ, Qd, hn.re k0.e, ⟨_, k0.e.rebase⟩, q, fun G' v r ρ' H' s f qd => by
    obtain ⟨G2, s2, f2⟩ := f.stl
    obtain ⟨ω', e', rr⟩ := f2
    obtain ⟨z1, z2, z3⟩ := e'.still k0.h k0.w k0.g
    exact kk _ _ _ _ _ _ (s.trans s2) ⟨k0.e.back e', z2, z3, z1, k0.r.mono (s.trans s2), k0.d0⟩ rr qd⟩
theorem Dk.liftT {t : DTT} {Qd : Bool → Env → Prop} {Q : Bool → Hp → Prop} (hn : np.ok B) (k0 : Dk K B G ω ρ σ H D wa acc) (q : t ρ Qd)
    (kk : ∀ G' ω' b ρ' H', Same G G' → Dk K B G' ω' ρ' σ H' D wa acc → Qd b ρ' → Q b H') : TL.liftT K np t σ H Q :=
  ⟨reB B G ω ρ.length H, G, ρ, Qd, hn.re k0.e, ⟨_, k0.e.rebase⟩, q, fun G' b ρ' H' s f qd => by
    obtain ⟨ω', e'⟩ := f
    obtain ⟨z1, z2, z3⟩ := e'.still k0.h k0.w k0.g
    exact kk _ _ _ _ _ s ⟨k0.e.back e', z2, z3, z1, k0.r.mono s, k0.d0⟩ qd⟩
theorem Dk.liftI {t : DTI} {Qd : List TL.D → Env → Prop} {Q : It → Hp → Prop} (hn : np.ok B) (k0 : Dk K B G ω ρ σ H D wa acc) (q : t ρ Qd)
    (kk : ∀ G' ω' ds ρ' H' J, Same G G' → Dk K B G' ω' ρ' σ H' D wa acc → ItD K J G' ds → Qd ds ρ' → Q J H') : TL.liftI K np t σ H Q :=
  ⟨reB B G ω ρ.length H, G, ρ, Qd, hn.re k0.e, ⟨_, k0.e.rebase⟩, q, fun G' ds ρ' H' J s f it qd => by
    obtain ⟨ω', e'⟩ := f
    obtain ⟨z1, z2, z3⟩ := e'.still k0.h k0.w k0.g
    exact kk _ _ _ _ _ _ s ⟨k0.e.back e', z2, z3, z1, k0.r.mono s, k0.d0⟩ it qd⟩
theorem Dk.liftG {ws : List Nat} {t : DTG} {v : V} {d : TL.D} {Qd : Env → Prop} {Q : Stt → Hp → Prop} (hn : np.ok B) (k0 : Dk K B G ω ρ σ H D wa acc) (r : Rp K G v d) (q : t d ρ Qd)
    (kk : ∀ ω' ρ' σ', Dk K B G ω' ρ' σ' H D wa acc → Off ws σ σ' → Qd ρ' → Q σ' H) : TL.liftG K np ws t v σ H Q :=
  ⟨reB B G ω ρ.length H, G, ρ, d, Qd, hn.re k0.e, ⟨_, k0.e.rebase⟩, r, q, fun ρ' σ' f o qd => by
    obtain ⟨ω', e'⟩ := f
    obtain ⟨z1, z2, z3⟩ := e'.still k0.h k0.w k0.g
    exact kk _ _ _ ⟨k0.e.back e', z2, z3, z1, k0.r, k0.d0⟩ o qd⟩
theorem Dk.wipe2 {σ0 : Stt} {vs : List Nat} (k : Dk K B G ω ρ σ H D wa acc) (o : L2.wipe σ vs = L2.wipe σ0 vs) : Dk K B G ω (wipeE ρ vs) (L2.wipe σ0 vs) H D wa acc := ⟨k.e.wipe2 o, k.w, k.g, k.h, k.r, k.d0⟩
theorem Dk.turn {ws vs vs1 : List Nat} {g : DTG} {tt : DTT} {tb : DTB} {ds : List TL.D} {x : V} {d : TL.D} {Qd : List TL.D → Env → Prop} {Nx : Hp → Prop} {σ0 : Stt} (hn : np.ok B) (hw : ∀ j ∈ ws, j ∈ vs) (hv : ∀ j ∈ vs1, j ∈ vs)
    (k0 : Dk K B G ω (wipeE ρ vs) (L2.wipe σ0 vs) H D wa acc) (r : Rp K G x d) (q : bLoop g tt tb vs (d :: ds) acc ρ Qd)
    (kk : ∀ G' ω' ρ' acc' wa' H', Same G G' → Dk K B G' ω' (wipeE ρ' vs) (L2.wipe σ0 vs) H' D wa' acc' → bLoop g tt tb vs ds acc' ρ' Qd → Nx H') :
    TL.liftG K np ws g x (L2.wipe σ0 vs) H fun σ2 H4 => L2.wipe σ2 vs = L2.wipe σ0 vs ∧ TL.liftT K np tt σ2 H4 fun b H5 => if b = true then liftB K np vs1 tb D σ2 H5 Nx else Nx H5 := by
  refine k0.liftG hn r q fun ω4 ρ4 σ4 k4 o4 q4 => ?_
  have ow := Off.wipe3 hw o4
  refine ⟨ow, k4.liftT hn q4 fun G5 ω5 b ρ5 H5 s5 k5 q5 => ?_⟩
  cases b with
  | false => exact iteF (kk _ _ _ _ _ _ s5 (k5.wipe2 ow) q5)
  | true =>
    refine iteT ⟨B, G5, ω5, ρ5, acc, wa, _, hn, k5, q5, fun G6 ω6 ρ6 acc6 wa6 H6 s6 k6 q6 => ?_⟩
    exact kk _ _ _ _ _ _ (s5.trans s6) (k6.wipe2 (by rw [wipe_wipe hv]; exact ow)) q6
theorem Dk.newT {p : Addr} {vs : List V} {ds : List TL.D} (k : Dk K B G ω ρ σ H D wa acc) (h : H p = none) (r : RpL K G vs ds) :
    Same G (upd G p (.tup vs)) ∧ Dk K B (upd G p (.tup vs)) ω ρ σ (upd H p (.tup vs)) D wa acc ∧ Rp K (upd G p (.tup vs)) (.ref p) (.tup ds) := by
  obtain ⟨sg, e2⟩ := k.e.newG (o := .tup vs) h
  have ne : D ≠ p := fun z => by subst z; rw [k.h] at h; cases h
  exact ⟨sg, ⟨e2, k.w, by rw [upd_ne ne]; exact k.g, by rw [upd_ne ne]; exact k.h, k.r.mono sg, k.d0⟩, .tup (.inl (.inl upd_same)) (r.mono sg)⟩
end
section
variable {X : Cx} {elt tg iter el : Expr} {ifs : List Expr} {gs rest : List Comprehension} {scope : Scope} {own : List (Str × Nat)} {pos : Pos} {te : DTE} {ti : DTI} {g : DTG} {tt : DTT} {tb : DTB} {ws vs vs1 : List Nat} {br : BRun} {brf : PySem.Env → BRun} {d : Nat} {np : Np}
theorem PBody.mo {t t' : TBd} (h : PBody X vs br t) (m : ∀ D σ H Nx, t' D σ H Nx → t D σ H Nx) : PBody X vs br t' := ⟨fun D pins s σ H Nx R I q => h.run D pins s σ H Nx R I (m _ _ _ _ q)⟩
theorem db_last (hx : X.xe = fun _ _ => False) (he : PE X elt (lift X.K np te)) : PBody X [] (brIn X.prog X.w X.A elt X.env) (liftB X.K np [] (bLast te)) := by
  refine (pb_last hx he).mo fun D σ H Nx h => ?_
  obtain ⟨B, G, ω, ρ, acc, wa, Qd, hn, k0, q, kk⟩ := h
  refine k0.lift hn q fun G' ω' v r ρ' H' s k1 rr q1 => ?_
  split at q1
  · rename_i x hr
    rw [hr] at rr
    refine ⟨wa, k1.h, by rw [k1.r.length]; exact q1.1, kk G' ω' ρ' (acc ++ [x]) (wa ++ [v]) _ s ⟨k1.e.poke k1.w k1.g k1.d0, k1.w, k1.g, upd_same, k1.r.append (.cons rr .nil), k1.d0⟩ q1.2⟩
  · exact q1.elim
theorem db_for (hx : X.xe = fun _ _ => False) (hc : X.calm = true) (lo : LoopOk X.prog X.w X.A (.ListComp el gs scope pos) (d + 1) tg ifs X.env br) (hgs : gs[d + 1]? = some ⟨tg, iter, ifs, 0⟩) (hi : PI X tg iter (liftI X.K np ti)) (hg : PG X tg (liftG X.K np ws g)) (ht : PTs X ifs (liftT X.K np tt))
    (hb : PBody X vs1 br (liftB X.K np vs1 tb)) (hv : ∀ i ∈ vs1, i ∈ vs) (hw : ∀ i ∈ ws, i ∈ vs) : PBody X vs (brOut X.prog X.w X.A (.ListComp el gs scope pos) d iter X.env) (liftB X.K np vs (bFor ti g tt tb vs)) := by
  refine (pb_for hx hc lo hgs hi hg ht hb hv).mo fun D σ H Nx h => ?_
  obtain ⟨B, G, ω, ρ, acc, wa, Qd, hn, k0, q, kk⟩ := h
  refine k0.liftI hn q fun G1 ω1 ds ρ1 H1 J s1 k1 it q1 => ?_
  refine ⟨fun i m H => ∃ G' ω' ρ' acc wa, Same G1 G' ∧ Dk X.K B G' ω' (wipeE ρ' vs) (L2.wipe σ vs) H D wa acc ∧ m = ds.length - i ∧ i ≤ ds.length ∧ bLoop g tt tb vs (ds.drop i) acc ρ' Qd,
    ⟨ds.length, G1, ω1, ρ1, acc, wa, .refl _, k1.wipe2 rfl, by simp, Nat.zero_le _, by rw [List.drop_zero]; exact q1⟩, ?_⟩
  rintro i m H2 ⟨G', ω', ρ', acc, wa, s', k', rfl, hi', q'⟩
  by_cases hlt : i < ds.length
  · rw [List.drop_eq_getElem_cons hlt] at q'
    have gd : ds[i]? = some ds[i] := List.getElem?_eq_getElem hlt
    obtain ⟨hgo, hy⟩ := it.go i H2 ds[i] (fun a o q => k'.e.gle a o (s' a o q)) gd
    refine .inr ⟨hgo, fun H3 => ∃ G' ω' ρ' acc wa, Same G1 G' ∧ Dk X.K B G' ω' (wipeE ρ' vs) (L2.wipe σ vs) H3 D wa acc ∧ bLoop g tt tb vs (ds.drop (i + 1)) acc ρ' Qd,
      fun H3 ⟨G3, ω3, ρ3, acc3, wa3, s3, k3, q3⟩ => ⟨ds.length - (i + 1), by omega, G3, ω3, ρ3, acc3, wa3, s3, k3, rfl, hlt, q3⟩, fun x H3 y => ?_⟩
    rcases hy x H3 y with ⟨rfl, r2⟩ | ⟨T, wt, es, hT, rfl, rfl, ed, rr⟩ | ⟨T2, wt, fs, T, j, hT2, hT, rfl, rfl, ed, rr⟩
    · exact k'.turn hn hw hv (r2.mono s') q' fun G5 ω5 ρ5 acc5 wa5 H5 s5 k5 q5 => ⟨G5, ω5, ρ5, acc5, wa5, s'.trans s5, k5, q5⟩
    · obtain ⟨sg, k2, r2⟩ := k'.newT hT (rr.mono s')
      exact k2.turn hn hw hv (by rw [ed]; exact r2) q' fun G5 ω5 ρ5 acc5 wa5 H5 s5 k5 q5 => ⟨G5, ω5, ρ5, acc5, wa5, (s'.trans sg).trans s5, k5, q5⟩
    · obtain ⟨sg, k2, r2⟩ := k'.newT hT2 (rr.mono s')
      obtain ⟨sg2, k3, r3⟩ := k2.newT hT (vs := [.int j, .ref T2]) (ds := [.int j, .tup fs]) (.cons (.int _) (.cons r2 .nil))
      exact k3.turn hn hw hv (by rw [ed]; exact r3) q' fun G5 ω5 ρ5 acc5 wa5 H5 s5 k5 q5 => ⟨G5, ω5, ρ5, acc5, wa5, ((s'.trans sg).trans sg2).trans s5, k5, q5⟩
  · have ei : i = ds.length := by omega
    subst ei
    rw [List.drop_length] at q'
    exact .inl ⟨it.stop _ _ (fun a o q => k'.e.gle a o (s' a o q)) (Nat.le_refl _), kk _ _ _ _ _ _ (s1.trans s') k' q'⟩
theorem d_lcN (hc : X.calm = true) (hN : X.N.Nodup) (hi : PI X tg iter (liftI X.K np ti)) (ok : BlkOk X.N X.env.scope scope own)
    (lo : ∀ (env : PySem.Env), LoopOk X.prog X.w X.A (.ListComp el (⟨tg, iter, ifs, 0⟩ :: rest) scope pos) 0 tg ifs env (brf env))
    (hg : ∀ (s : Shared) (H : Hp) (C : Addr) (cl : List (Str × Addr)) (fp : List Addr), PG (X.blk s H scope (compEnvC scope cl C X.env) fp) tg (liftG X.K np ws g)) (ht : ∀ (s : Shared) (H : Hp) (C : Addr) (cl : List (Str × Addr)) (fp : List Addr), PTs (X.blk s H scope (compEnvC scope cl C X.env) fp) ifs (liftT X.K np tt))
    (hb : ∀ (s : Shared) (H : Hp) (C : Addr) (cl : List (Str × Addr)) (fp : List Addr), PBody (X.blk s H scope (compEnvC scope cl C X.env) fp) vs1 (brf (compEnvC scope cl C X.env)) (liftB X.K np vs1 tb))
    (hv : ∀ i ∈ vs1, i ∈ own.map (·.2) := by decide) (hw : ∀ j ∈ ws, j ∈ own.map (·.2) := by decide) (hs : ∀ x, foldedSetIterable iter X.env x = pure x := by intro _; rfl) :
    PE X (.ListComp el (⟨tg, iter, ifs, 0⟩ :: rest) scope pos) (lift X.K np (dLcN ti g tt tb (own.map (·.2)))) := by
  refine (pe_lcN hc hN hi ok hv lo hg ht hb hs).mo fun σ H Q h => ?_
  obtain ⟨B, G, ρ, Qd, hn, eo, h, k⟩ := h
  refine ⟨B, G, ρ, _, hn, eo, h, fun G1 ds ρ1 H1 J s1 e1 it q1 D hD => ?_⟩
  generalize hvs : own.map (·.2) = vs at *
  obtain ⟨ω1, e1⟩ := e1
  have d0 : B.A0 D ∨ B.H0 D = none := e1.gone hD
  have hg1 : G1 D = none := Same.none e1.gle hD
  have hw1 : ω1 D = none := by
    cases q : ω1 D with
    | none => rfl
    | some i => exact absurd hD (e1.own D i q).2.1
  have k1 : Dk X.K B G1 ω1 ρ1 σ (upd H1 D (.lst [])) D [] [] := ⟨e1.poke hw1 hg1 d0, hw1, hg1, upd_same, .nil, d0⟩
  refine ⟨fun i m H => ∃ G' ω' ρ' acc wa, Same G1 G' ∧ Dk X.K B G' ω' (wipeE ρ' vs) (L2.wipe σ vs) H D wa acc ∧ m = ds.length - i ∧ i ≤ ds.length ∧ bLoop g tt tb vs (ds.drop i) acc ρ' _,
    ⟨ds.length, G1, ω1, ρ1, [], [], .refl _, k1.wipe2 rfl, by simp, Nat.zero_le _, by rw [List.drop_zero]; exact q1⟩, ?_⟩
  rintro i m H2 ⟨G', ω', ρ', acc, wa, s', k', rfl, hi', q'⟩
  by_cases hlt : i < ds.length
  · rw [List.drop_eq_getElem_cons hlt] at q'
    have gd : ds[i]? = some ds[i] := List.getElem?_eq_getElem hlt
    obtain ⟨hgo, hy⟩ := it.go i H2 ds[i] (fun a o q => k'.e.gle a o (s' a o q)) gd
    refine .inr ⟨hgo, fun H3 => ∃ G' ω' ρ' acc wa, Same G1 G' ∧ Dk X.K B G' ω' (wipeE ρ' vs) (L2.wipe σ vs) H3 D wa acc ∧ bLoop g tt tb vs (ds.drop (i + 1)) acc ρ' _,
      fun H3 ⟨G3, ω3, ρ3, acc3, wa3, s3, k3, q3⟩ => ⟨ds.length - (i + 1), by omega, G3, ω3, ρ3, acc3, wa3, s3, k3, rfl, hlt, q3⟩, fun x H3 y => ?_⟩
    rcases hy x H3 y with ⟨rfl, r2⟩ | ⟨T, wt, es, hT, rfl, rfl, ed, rr⟩ | ⟨T2, wt, fs, T, j, hT2, hT, rfl, rfl, ed, rr⟩
    · exact k'.turn hn hw hv (r2.mono s') q' fun G5 ω5 ρ5 acc5 wa5 H5 s5 k5 q5 => ⟨G5, ω5, ρ5, acc5, wa5, s'.trans s5, k5, q5⟩
    · obtain ⟨sg, k2, r2⟩ := k'.newT hT (rr.mono s')
      exact k2.turn hn hw hv (by rw [ed]; exact r2) q' fun G5 ω5 ρ5 acc5 wa5 H5 s5 k5 q5 => ⟨G5, ω5, ρ5, acc5, wa5, (s'.trans sg).trans s5, k5, q5⟩
    · obtain ⟨sg, k2, r2⟩ := k'.newT hT2 (rr.mono s')
      obtain ⟨sg2, k3, r3⟩ := k2.newT hT (vs := [.int j, .ref T2]) (ds := [.int j, .tup fs]) (.cons (.int _) (.cons r2 .nil))
      exact k3.turn hn hw hv (by rw [ed]; exact r3) q' fun G5 ω5 ρ5 acc5 wa5 H5 s5 k5 q5 => ⟨G5, ω5, ρ5, acc5, wa5, ((s'.trans sg).trans sg2).trans s5, k5, q5⟩
  · have ei : i = ds.length := by omega
    subst ei
    rw [List.drop_length] at q'
    refine .inl ⟨it.stop _ _ (fun a o q => k'.e.gle a o (s' a o q)) (Nat.le_refl _), ?_⟩
    have er := EnvW.resto (vs := vs) e1 s' k'.e
    obtain ⟨ωr, er, hωr⟩ : ∃ ωr, EnvW X.K B G' ωr (TL.resto ρ1 (wipeE ρ' vs) vs) σ H2 ∧ ωr D = none := ⟨_, er, by rw [k'.w]⟩
    refine k _ _ (.nw (.ls acc)) _ _ (s1.trans s') ⟨tagd ωr D σ.length, ?_, rfl, D, wa, rfl, tagd_same, k'.h, k'.r⟩ q'
    refine ⟨er.gle, er.g0, er.keep, fun a j q => ?_, er.len, fun j s q => ?_, er.pin⟩
    · unfold tagd at q
      split at q
      · rename_i ha
        subst ha
        cases q
        exact ⟨k'.g, by rw [k'.h]; simp, d0⟩
      · split at q
        · cases q
        · exact er.own a j q
    · refine (er.slot j s q).mono (.refl _) fun a z => ⟨?_, rfl⟩
      have hj : j < (TL.resto ρ1 (wipeE ρ' vs) vs).length := (List.getElem?_eq_some_iff.mp q).1
      have := er.len
      have ha : a ≠ D := fun w => by
        subst w
        rw [hωr] at z
        cases z
      unfold tagd
      rw [if_neg ha, if_neg (fun w => by rw [z] at w; have := Option.some.inj w; omega)]
      exact z
end
end TL
namespace TL
open PySem PySem.Spec PyProof.Rows L2
open AutoSeq1 (wpAny_loadPart')
theorem meets_enum1 {v : Value} {o : Obj} {H : Heap → Prop} (B : Begins v o H) :
    Meets (Builtin.«enumerate.__new__» ⟨[.type "enumerate", v], []⟩) (fun _ R s => H s.heap ∧
      R (.ok (.ret (.ref (s.heap.push o).objs.size))) { s with heap := (s.heap.push o).push { cls := .type "enumerate", data := .fields #[.none, .bool false, .ref s.heap.objs.size, rawInt 0, .none, .none] } }) :=
  .of_wp fun prog w A R s h => by
    obtain ⟨hp, g, d, tk, os⟩ := s; obtain ⟨h1, h⟩ := h
    have hsub := sub_enumerate
    have q1 : ∀ {A' : Around} {E : Value → Shared → Prop} {Q : Value → Shared → Prop}, Q (.ref hp.objs.size) ⟨hp.push o, g, d, tk, os⟩ → wpAny (model prog w) A' (pyIter v) Q E ⟨hp, g, d, tk, os⟩ :=
      fun q => B.iter prog w _ _ ⟨hp, g, d, tk, os⟩ _ h1 q
    wp_walk using q1
    refine wpAny_stack_any fun st => wpAny_pure ?_
    split
    · rename_i c _ _ _ _ _
      cases (c == Value.type "enumerate")
      · wp_walk using q1
        exact ⟨_, rfl, h⟩
      · wp_walk using q1
        exact ⟨_, rfl, h⟩
    · wp_walk using q1
      exact ⟨_, rfl, h⟩
section
variable {prog : Program} {w : World} {A : Around} {E : Value → Shared → Prop} {s : Shared}
theorem enum_begins1 {a : Addr} {o : Obj} {H : Heap → Prop} {Q : Value → Shared → Prop} (B : Begins (.ref a) o H) (h1 : H s.heap)
    (h : ∀ h', IsEnum h' (s.heap.objs.size + 1) s.heap.objs.size 0 .none → h'.get? s.heap.objs.size = some o → h'.objs.size = s.heap.objs.size + 2 →
      (∀ b o, s.heap.get? b = some o → h'.get? b = some o) → Q (.ref (s.heap.objs.size + 1)) { s with heap := h' }) :
    wpAny (model prog w) A (call (.type "enumerate") [.ref a]) Q E s := by
  refine callType_new F.called_enumerate (by decide) (F.typeCall_enumerate_1 _) (F.newCall_enumerate_1 _) (fun obj => F.args_object_init_2 obj _) F.entry_enumerate_new
    (meets_enum1 B) ⟨h1, ?_⟩
  have hz : (s.heap.push o).objs.size = s.heap.objs.size + 1 := Heap.size_push ..
  show _ ∧ _
  rw [hz]
  have he : IsEnum ((s.heap.push o).push { cls := .type "enumerate", data := .fields #[.none, .bool false, .ref s.heap.objs.size, rawInt 0, .none, .none] }) (s.heap.objs.size + 1) s.heap.objs.size 0 .none := by
    have := Heap.get?_push_size (s.heap.push o) (o := { cls := .type "enumerate", data := .fields #[.none, .bool false, .ref s.heap.objs.size, rawInt 0, .none, .none] }) rfl
    rw [hz] at this; exact this
  refine ⟨⟨_, he, rfl⟩, h _ he (Heap.get?_push_of_some _ (Heap.get?_push_size _ B.free)) (by rw [Heap.size_push, hz]) fun b o x => Heap.get?_push_of_some _ (Heap.get?_push_of_some _ x)⟩
end
def Itet (K : PySem.W.Frag) (a : Addr) : It :=
  ⟨fun i H => ∃ (xs : List V) (x : V), SqT K H a xs ∧ xs[i]? = some x, fun i H v H' => ∃ T x, v = .ref T ∧ H T = none ∧ H' = upd H T (.tup [.int (i : Nat), x]) ∧ ∀ xs, SqT K H a xs → xs[i]? = some x, fun i H => ∃ xs : List V, SqT K H a xs ∧ xs.length ≤ i⟩
theorem tup_ne_it {h : Heap} {a it : Addr} {its : Array Value} {i : Nat} (p : h.IsTuple a its) (q : h.IsTupleIter it a i) : a ≠ it := by
  intro z
  subst z
  obtain ⟨o, ho, hc, _⟩ := p
  obtain ⟨o', ho', hc', _⟩ := q
  rw [ho] at ho'
  cases ho'
  rw [hc] at hc'
  injection hc' with z
  exact absurd z (by decide)
theorem tup_ne_en {h : Heap} {a e it : Addr} {its : Array Value} {i : Int} {old : Value} (p : h.IsTuple a its) (q : IsEnum h e it i old) : e ≠ a := by
  intro z
  subst z
  obtain ⟨o, ho, hc, _⟩ := p
  have q' : h.get? e = some _ := q
  rw [ho] at q'
  cases q'
  injection hc with z
  exact absurd z (by decide)
theorem turn_enumT {P : Program} {w : World} {K : PySem.W.Frag} {elts : List Expr} {kk : Nat} {tpos : Pos} (a e it : Addr) :
    Turn P w K (.Tuple elts kk tpos) (Itet K a) [e, it] e (fun i h => (∃ old, IsEnum h e it ((i : Nat) : Int) old) ∧ h.IsTupleIter it a i ∧ e ≠ it) where
  mem := by simp
  obj := fun i h st b hb => by
    obtain ⟨⟨old, he⟩, ⟨o, ho, hc, hd⟩, _⟩ := st
    have e' : b = e ∨ b = it := by simpa using hb
    rcases e' with z | z
    · rw [z]; exact ⟨_, he, fun v q => nomatch q⟩
    · rw [z]; exact ⟨o, ho, fun v q => by rw [hd] at q; cases q⟩
  keep := fun i h h' st k => let ⟨⟨old, he⟩, hi, hne⟩ := st; ⟨⟨old, k e (by simp) _ he⟩, hi.at fun o q => k it (by simp) o q, hne⟩
  item := by
    intro X hP hw hK hc i pins s σ H E I hf st hg
    subst hP hw hK
    obtain ⟨⟨old, he⟩, hit, hne⟩ := st
    obtain ⟨xs, x, hq, hx⟩ := hg
    obtain ⟨its, rv, p, hz⟩ := I.tuple hq
    have p : s.heap.IsTuple a its.toArray := p
    obtain ⟨u, hu, ru⟩ := rv.get hx
    have hel : e < s.heap.objs.size := Heap.lt_size he
    have hil : it < s.heap.objs.size := by obtain ⟨_, q, _⟩ := hit; exact Heap.lt_size q
    have na := tup_ne_it p hit
    have ne := tup_ne_en p he
    have hlt : i < its.toArray.size := by
      have := (List.getElem?_eq_some_iff.mp hu).1
      simpa using this
    refine wpAny_pyNext_enum_itemD (Draws.tuple (A := X.A.in1) (by show X.A.in1.handled = none; exact I.ok.hd hc) it a na its.toArray) he ⟨hit, p⟩ hlt hne (by simp; exact ⟨hne, ne⟩) fun u' h' tk hP' ho hst' hT hsz hk => ?_
    have eu : u' = u := by
      have e1 : its.toArray[i]? = some u := by simpa using hu
      rw [hP'] at e1
      exact Option.some.inj e1
    subst eu
    refine ⟨_, rfl, wpAny_letOwnedTupleGo_enum (s := { s with heap := h', toks := tk + 1 }) ho fun h'' he' sb => ?_⟩
    have hT2 : h''.get? s.heap.objs.size = some { cls := .type "tuple", data := .seq #[.int i tk, u'] } := (sb.2 _ (Nat.ne_of_gt hel)).trans hT
    have new : ObjOk X.prog X.w (upd H s.heap.objs.size (.tup [.int (i : Nat), x])) h'' s.heap.objs.size (.tup [.int (i : Nat), x]) :=
      ⟨by show 2 ≤ sizeLine; decide, [.int i tk, u'], .cons ⟨_, rfl⟩ (.cons ru .nil), ⟨_, hT2, rfl, _, rfl⟩⟩
    have I1 : Inv X pins σ (upd H s.heap.objs.size (.tup [.int (i : Nat), x])) { s with heap := h'', toks := tk + 1 } :=
      I.turnedNew (ch := [e, it]) (fun b ob hb q => (sb.2 b (fun z => hb (by simp [z]))).trans (hk b ob (fun z => hb (by simp [z])) (fun z => hb (by simp [z])) q)) hf (Nat.le_refl _) new
    refine ⟨.ref s.heap.objs.size, _, I1, rfl, ⟨_, x, rfl, I.hok.fresh (Nat.le_refl _), rfl, fun ys hy => by rw [I.tuple_inj hy hq]; exact hx⟩, ⟨⟨u', ?_⟩, hst'.1.at fun o q => (sb.2 it (Ne.symm hne)).trans q, hne⟩, fun b hb => ?_⟩
    · have e1 : ((i + 1 : Nat) : Int) = (i : Int) + 1 := by omega
      rw [e1]; exact he'
    · have hb' : b < s.heap.objs.size := by
        have e' : b = e ∨ b = it := by simpa using hb
        rcases e' with z | z
        · rw [z]; exact hel
        · rw [z]; exact hil
      rw [upd_ne (Nat.ne_of_lt hb')]
      exact (hf b hb).1
  done := by
    intro X hP hw hK hc i pins s σ H E I hf st hg
    subst hP hw hK
    obtain ⟨⟨old, he⟩, hit, hne⟩ := st
    obtain ⟨xs, hq, hx⟩ := hg
    obtain ⟨its, rv, p, hz⟩ := I.tuple hq
    have p : s.heap.IsTuple a its.toArray := p
    obtain ⟨f0, f1, f2, f3, f4, f5⟩ := hf it (by simp)
    have hl := rv.length
    have hd : X.A.in1.handled = none := I.ok.hd hc
    have hT : s.TypeIs (.ref e) "enumerate" := ⟨_, he, rfl⟩
    unfold pyNext
    refine wpAny_bind (wpAny_attempt (wpAny_callSpecial?_slot (name := Str.ofString "__next__") hT F.slot_enumerate_next
      (wpAny_call_entry F.slot_enumerate_next hT F.entry_enumerate_next ?_ (F.args_enumerate_next_1 _))))
    show wpAny _ _ (field (.ref e) 2 >>= _) _ _ _
    refine wpAny_bind (wpAny_field he rfl (x := .ref it) rfl ?_)
    refine wpAny_bind (wpAny_nextOf_tuple_end hd hit p (by simp; omega) fun h' x he' hx' => ?_)
    obtain ⟨o, ho, hc⟩ := hx'
    refine wpAny_bind (wpAny_isInstance (T := "StopIteration") (b := true) ⟨o, ho, hc⟩ isSubtype_stop ?_)
    exact wpAny_pure ⟨rfl, I.turned (t' := s.toks) (fun b o hb q => he' b o hb q) f0 f1 f3 f4 f5⟩
  self := fun A i s Q E st h => let ⟨⟨_, he⟩, _⟩ := st; wpAny_pyIter_enum he h
def iEnum2 (K : PySem.W.Frag) (ta : TA) : TI := fun σ H R => ta σ H fun vs H1 => ∃ a, vs = [.ref a] ∧ ((∃ xs, SqL K H1 a xs ∧ R (Ite K a) H1) ∨ (∃ xs, SqT K H1 a xs ∧ R (Itet K a) H1))
theorem pi_enum2 {X : Cx} {e : Expr} {ta : TA} {p pos tpos : Pos} {elts : List Expr} {kk : Nat} (hg : Gl X "enumerate") (hm : X.mg "enumerate" = none) (ha : PA X [e] ta) (hs : starEach [e] X.env = [(false, eval e X.env)] := by rfl) :
    PI X (.Tuple elts kk tpos) (.Call (.Name "enumerate" p) [e] [] pos) (iEnum2 X.K ta) := by
  refine ⟨fun pins s σ H R I h => ?_⟩
  refine Call_ (ld_blt I hg hm boot_enumerate (PyProof.Rows.callWith_type1 (thn (ha.run pos pins s σ H _ I h) fun us s1 ⟨vs, H1, I1, r1, q1⟩ => ?_) hs rfl))
  obtain ⟨a, ex, q1⟩ := q1
  subst ex
  cases r1 with
  | cons r rr =>
    cases rr
    cases r
    have fp : ∀ b ∈ [s1.heap.objs.size + 1, s1.heap.objs.size], FpOk X pins H1 b := fun b hb => by
      have e' : b = s1.heap.objs.size + 1 ∨ b = s1.heap.objs.size := by simpa using hb
      have hle : s1.heap.objs.size ≤ b := by
        rcases e' with z | z
        · rw [z]; exact Nat.le_add_right _ _
        · rw [z]; exact Nat.le_refl _
      exact I1.fpOk hle (I1.hok.fresh hle)
    rcases q1 with ⟨xs, hq, q⟩ | ⟨xs, hq, q⟩
    · obtain ⟨its, rv, p', hz⟩ := I1.list hq
      refine call_enumerate_list p'.isList fun h' he hit hsz hk => wpAny_pyIter_enum he ?_
      have I2 : Inv X pins σ H1 { s1 with heap := h' } := I1.kept (t' := s1.toks) hk
      exact ⟨s1.heap.objs.size + 1, [s1.heap.objs.size + 1, s1.heap.objs.size], _, _, H1, rfl, I2, turn_enum a (s1.heap.objs.size + 1) s1.heap.objs.size, ⟨⟨.none, he⟩, hit, Nat.succ_ne_self _⟩, fp, q⟩
    · obtain ⟨its, rv, p', hz⟩ := I1.tuple hq
      have p' : s1.heap.IsTuple a its.toArray := p'
      refine enum_begins1 (begins_tuple a its.toArray) p' fun h' he hit hsz hk => wpAny_pyIter_enum he ?_
      have I2 : Inv X pins σ H1 { s1 with heap := h' } := I1.kept (t' := s1.toks) hk
      exact ⟨s1.heap.objs.size + 1, [s1.heap.objs.size + 1, s1.heap.objs.size], _, _, H1, rfl, I2, turn_enumT a (s1.heap.objs.size + 1) s1.heap.objs.size, ⟨⟨.none, he⟩, ⟨_, hit, rfl, rfl⟩, Nat.succ_ne_self _⟩, fp, q⟩
def iEnumB (t : DTA) : DTI := fun ρ Q => t ρ fun rs ρ1 => match datL rs with
  | some [.lst xs] => Q (enumD xs) ρ1
  | some [.tup xs] => Q (enumD xs) ρ1
  | _ => False
theorem enumD_get {xs : List D} {i : Nat} {d : D} (h : (enumD xs)[i]? = some d) : ∃ x, xs[i]? = some x ∧ d = .tup [.int i, x] := by
  unfold enumD at h
  rw [List.getElem?_map, List.getElem?_zipIdx] at h
  cases hx : xs[i]? with
  | none => rw [hx] at h; cases h
  | some x =>
    rw [hx] at h
    cases h
    exact ⟨x, rfl, by simp⟩
theorem enumD_length (xs : List D) : (enumD xs).length = xs.length := by unfold enumD; simp
theorem itd_enum {K : PySem.W.Frag} {G : Hp} {a : Addr} {vs : List V} {ds : List D} (h : SqL K G a vs) (r : RpL K G vs ds) : ItD K (Ite K a) G (enumD ds) where
  go := fun i H d s q => by
    obtain ⟨x, hx, rfl⟩ := enumD_get q
    obtain ⟨v, h1, h2⟩ := r.get hx
    refine ⟨⟨vs, v, s.seq h, h1⟩, fun y H' ⟨T, w, e1, e2, e3, e4⟩ => .inr (.inl ⟨T, [.int (i : Nat), w], _, e2, e1, e3, rfl, ?_⟩)⟩
    have := e4 vs (s.seq h)
    rw [h1] at this
    cases this
    exact .cons (.int _) (.cons h2 .nil)
  stop := fun i H s q => ⟨vs, s.seq h, by rw [r.length]; rw [enumD_length] at q; exact q⟩
theorem itd_enumT {K : PySem.W.Frag} {G : Hp} {a : Addr} {vs : List V} {ds : List D} (h : SqT K G a vs) (r : RpL K G vs ds) : ItD K (Itet K a) G (enumD ds) where
  go := fun i H d s q => by
    obtain ⟨x, hx, rfl⟩ := enumD_get q
    obtain ⟨v, h1, h2⟩ := r.get hx
    refine ⟨⟨vs, v, seqT s h, h1⟩, fun y H' ⟨T, w, e1, e2, e3, e4⟩ => .inr (.inl ⟨T, [.int (i : Nat), w], _, e2, e1, e3, rfl, ?_⟩)⟩
    have := e4 vs (seqT s h)
    rw [h1] at this
    cases this
    exact .cons (.int _) (.cons h2 .nil)
  stop := fun i H s q => ⟨vs, seqT s h, by rw [r.length]; rw [enumD_length] at q; exact q⟩
theorem di_enum {X : Cx} {e : Expr} {ta : DTA} {np : Np} {p pos tpos : Pos} {elts : List Expr} {kk : Nat} (hg : Gl X "enumerate") (hm : X.mg "enumerate" = none) (ha : PA X [e] (liftA X.K np ta)) (hs : starEach [e] X.env = [(false, eval e X.env)] := by rfl) :
    PI X (.Tuple elts kk tpos) (.Call (.Name "enumerate" p) [e] [] pos) (liftI X.K np (iEnumB ta)) := by
  refine (pi_enum2 hg hm ha hs).mo fun σ H R h => ?_
  obtain ⟨B, G, ρ, Qd, hn, eo, h, k⟩ := h
  refine ⟨B, G, ρ, _, hn, eo, h, fun G1 vs rs ρ1 H1 s1 e1 ar q1 => ?_⟩
  obtain ⟨ω, e1⟩ := e1
  split at q1
  · rename_i xs hd
    have rr := ar.dat hd
    cases rr with
    | cons r rr =>
      cases rr
      obtain ⟨a, vs, rfl, h1, r1⟩ := (Rp.rd (H := H1) r).lst e1.gle
      have hg : G1 a = some (.lst vs) := by
        cases r with
        | lst g rr' =>
          have := e1.gle _ _ g
          rw [h1] at this
          cases this
          exact g
      exact ⟨a, rfl, .inl ⟨vs, .of h1, k _ _ _ _ _ s1 ⟨ω, e1⟩ (itd_enum (.of hg) r1) q1⟩⟩
  · rename_i xs hd
    have rr := ar.dat hd
    cases rr with
    | cons r rr =>
      cases rr
      obtain ⟨a, vs, rfl, h1, r1⟩ := (Rp.rd (H := H1) r).tup
      exact ⟨a, rfl, .inr ⟨vs, seqT e1.gle h1, k _ _ _ _ _ s1 ⟨ω, e1⟩ (itd_enumT h1 r1) q1⟩⟩
  · exact q1.elim
end TL
namespace TL
open PySem PySem.Spec PyProof.Rows L2
structure Ca where
  Keeper : Addr := 0
  Scheme : Addr := 0
  World : Addr := 0
  Desk : Addr := 0
  KeeperError : Addr := 0
  BadWord : Addr := 0
  BadView : Addr := 0
  BadKeeper : Addr := 0
  BadRule : Addr := 0
  BadScheme : Addr := 0
  NoKeeper : Addr := 0
  BadIll : Addr := 0
  BadWeaving : Addr := 0
  BadShape : Addr := 0
  BadLot : Addr := 0
  BadState : Addr := 0
  NotSafe : Addr := 0
  Ringed : Addr := 0
  BadNumber : Addr := 0
  TooMany : Addr := 0
  BadRow : Addr := 0
  NothingLeft : Addr := 0
  BadText : Addr := 0
theorem getter_ok {P : Program} {w : World} {K : PySem.W.Frag} {mg : Str → Option Value} {base : Heap} {x qual f : Str} {st : Stmt} {fa C : Addr} {fd : FuncData} {N : List Str} {p1 p2 p3 : Pos} (F : Fun K x qual st fa fd) (sc : FnScope N ["self"] (defScope st)) (c : Cls K C) (n : NoAttr K C f)
    (hN : N[0]? = some ("self" : Str) := by rfl) (hb : defBody st = [.Return (some (.Attribute (.Name "self" p1) f p2)) p3] := by rfl) : FnOk P w K mg base CX0 1 fa fd ["self"] (getSp C f) := by
  obtain ⟨oc, od, kV, doc, pm, an, cdv, ct, osl, rfl, found, coded⟩ := F.ex
  exact fn_getter (k := 0) found coded sc hN hb c n
end TL
namespace HT
end HT
namespace L2
end L2
namespace TL
end TL
namespace L2
open PySem PySem.Spec PyProof.Rows
section
variable {X : Cx} {CX : CXT} {k n : Nat} {C f : Addr} {fd : FuncData} {ps : List Str} {sp : Sp} {E : XK}
def rOLen (C : Addr) (sp : Sp) (E : XK) : List V → Hp → VK → Prop := fun vs H Q => ∃ a dx fs, vs = [.ref a] ∧ H a = some (.ins C dx fs) ∧ sp [.ref a] H (fun v H' => ∃ n : Int, v = .int n ∧ 0 ≤ n ∧ n < 2 ^ 63 ∧ Q (.int n) H') E
theorem call_olen (hm : Meth X.K C "__len__" f) (F : FnOk X.prog X.w X.K X.mg X.base CX k f fd ps sp) (hr : Room (k + 1) X.A) (hb : Binds X.K fd ps []) (hx : Passes CX X E) : CallR X (.builtin "len") (rOLen C sp E) := by
  intro pins s σ H xs us Q I r h
  obtain ⟨a, dx, fs, rfl, ha, h⟩ := h
  cases r with
  | cons r rr =>
    cases rr
    cases r
    obtain ⟨mA, J, _⟩ := ins_get I.hok ha
    obtain ⟨od, J, _⟩ := J.look
    obtain ⟨m, hF⟩ := I.fr
    refine PySem.W.len_K hF I.ok.mod.kin J hm.at_ hm.fn ?_
    have r2 : Vals [V.ref a] [Value.ref a] := .cons rfl .nil
    have hl := F.len _ _ _ _ h
    refine wpAny_call (codeAny_mono (F.run X.A.in1 X.stack s H ⟨[.ref a], []⟩ [.ref a] [.ref a] _ E hr.in1 I.env0.in1 (by
      have := hb s [.ref a] I.kIn (by simpa using hl)
      simpa using this) r2 h) fun r s' hq => ?_)
    cases r with
    | error e => exact hx pins σ H s e s' I hq
    | ok fl =>
      cases fl with
      | ret w =>
        obtain ⟨z, H', I', rz, i, ez, h0, h1, q⟩ := I.after hq
        subst ez
        obtain ⟨t, rfl⟩ := rz
        exact ⟨⟨h0, h1⟩, .int i, H', I'.tok _, ⟨_, rfl⟩, q⟩
      | next => exact False.elim hq
      | brk => exact False.elim hq
      | cont => exact False.elim hq
end
end L2
namespace PySem.W
end PySem.W
namespace L2
end L2
namespace TL
variable {np : Np}
open PySem PySem.Spec PyProof.Rows L2
section
variable {K : PySem.W.Frag} {E : XK} {C : Addr} {S : DSp}
def gOLen (C : Addr) (S : DSp) : DOpL := fun xs P => match xs with
  | [.obj C' fs] => C' = C ∧ S [.fr (.obj C fs)] fun r _ => ∃ n : Int, r = .dat (.int n) ∧ 0 ≤ n ∧ n < 2 ^ 63 ∧ P (.dat (.int n))
  | _ => False
theorem c_olen : CL np K (rOLen C (toSp K np.T 1 S) E) (gOLen C S) := by
  intro B G ω ρ σ H vs xs P Q hn e r g k
  unfold gOLen at g
  split at g
  · rename_i C' fs
    obtain ⟨rfl, g⟩ := g
    obtain ⟨v, rfl, rv⟩ := r.one
    obtain ⟨a, dx, ws, rfl, hg, hh, rf⟩ := rv.obj e.gle
    refine ⟨a, dx, ws, rfl, hh, ?_⟩
    have rp : Rp K G (.ref a) (.obj C' fs) := by
      rcases rv with r | ⟨_, _, _, _, z, _⟩ | ⟨_, _, _, _, z, _⟩
      · exact r
      · cases z
      · cases z
    refine sp_ok hn (G0 := G) (ρ := ρ) e (rs := [.dat (.obj C' fs)]) (.cons (.dat rp) .nil) rfl rfl (args := [.fr (.obj C' fs)]) rfl (Qd := fun r ρ' => ρ' = ρ ∧ ∃ n : Int, r = .dat (.int n) ∧ 0 ≤ n ∧ n < 2 ^ 63 ∧ P (.dat (.int n))) ?_ fun G' v r ρ' H' s f q => ?_
    · rw [show (fun (r : Rs) (ss : List Sl) => backE ρ [.dat (.obj C' fs)] ss = ρ ∧ ∃ n : Int, r = .dat (.int n) ∧ 0 ≤ n ∧ n < 2 ^ 63 ∧ P (.dat (.int n))) = fun r _ => ∃ n : Int, r = .dat (.int n) ∧ 0 ≤ n ∧ n < 2 ^ 63 ∧ P (.dat (.int n)) from by
        funext r ss
        rw [show backE ρ [.dat (.obj C' fs)] ss = ρ from backE_dat]
        exact propext ⟨fun h => h.2, fun h => ⟨rfl, h⟩⟩]
      exact g
    · obtain ⟨rfl, n, rfl, h0, h1, p⟩ := q
      obtain ⟨ω2, e2, rr⟩ := f
      obtain rfl : v = .int n := by cases rr; rfl
      exact ⟨n, rfl, h0, h1, k _ _ _ _ s ⟨ω2, e2, rr⟩ p⟩
  · exact g.elim
end
end TL
namespace TL
variable {np : Np}
open PySem PySem.Spec PyProof.Rows L2
def downD (i : Int) (n : Nat) : List D := (List.range n).map fun (k : Nat) => .int (i + (k : Int) * -1)
def iRange3 (t : DTA) : DTI := fun ρ Q => t ρ fun rs ρ1 => match datL rs with
  | some [.int i, .int j, .int c] => c = -1 ∧ (-(2 ^ 62) ≤ i ∧ i < 2 ^ 62 ∧ -(2 ^ 62) ≤ j ∧ j < 2 ^ 62) ∧ Q (downD i (i - j).toNat) ρ1
  | _ => False
theorem downD_get {lo : Int} {n i : Nat} {d : D} (h : (downD lo n)[i]? = some d) : i < n ∧ d = .int (lo + (i : Int) * -1) := by
  unfold downD at h
  rw [List.getElem?_map] at h
  by_cases hi : i < n
  · rw [List.getElem?_range hi] at h
    cases h
    exact ⟨hi, rfl⟩
  · rw [List.getElem?_eq_none (by simpa using hi)] at h
    cases h
theorem itd_down (K : PySem.W.Frag) (G : Hp) (lo : Int) (n : Nat) : ItD K (Itc lo (-1) n) G (downD lo n) where
  go := fun i H d s q => by
    obtain ⟨hi, rfl⟩ := downD_get q
    exact ⟨hi, fun x H' y => .inl ⟨y.1, by rw [y.2]; exact .int _⟩⟩
  stop := fun i H s q => by
    unfold downD at q
    show n ≤ i
    simpa using q
section
variable {X : Cx} {tg : Expr} {ta : DTA} {np : Np} {p pos : Pos}
theorem di_range3 {a b c : Expr} (hg : Gl X "range") (hm : X.mg "range" = none) (ha : PA X [a, b, c] (liftA X.K np ta))
    (hs : starEach [a, b, c] X.env = (false, eval a X.env) :: starEach [b, c] X.env := by rfl) (hpl : (backTo pos (starEach [b, c] X.env)).any (·.1) = false := by rfl) :
    PI X tg (.Call (.Name "range" p) [a, b, c] [] pos) (liftI X.K np (iRange3 ta)) := by
  refine (pi_range3 hg hm ha hs hpl).mo fun σ H R h => ?_
  obtain ⟨B, G, ρ, Qd, hn, eo, h, k⟩ := h
  refine ⟨B, G, ρ, _, hn, eo, h, fun G1 vs rs ρ1 H1 s1 e1 ar q1 => ?_⟩
  split at q1
  · rename_i i j c hd
    obtain ⟨rfl, ⟨b1, b2, b3, b4⟩, q1⟩ := q1
    have rr := ar.dat hd
    cases rr with
    | cons r rr =>
      cases rr with
      | cons r' rr =>
        cases rr with
        | cons r'' rr =>
          cases rr
          cases r
          cases r'
          cases r''
          exact ⟨i, j, -1, _, rfl, RgC.neg b1 b2 b3 b4, k _ _ _ _ _ s1 e1 (itd_down _ _ _ _) q1⟩
  · exact q1.elim
end
end TL
namespace TL
variable {np : Np}
open PySem PySem.Spec PyProof.Rows L2
def koD : D → Option (Option Int)
  | .int i => some (some i)
  | .non => some none
  | _ => none
def dKcL (g : DTG) (tt : DTT) (tk tv : DTE) (vs : List Nat) (ρ0 : Env) : List D → List (Option Int) → Env → (Rs → Env → Prop) → Prop
  | [], ks, ρ, Q => Q (.nw (.rs (.kd ks))) (resto ρ0 ρ vs)
  | d :: ds, ks, ρ, Q => g d (wipeE ρ vs) fun ρ1 => tt ρ1 fun b ρ2 => if b = true then tk ρ2 fun r ρ3 => (match r with
      | .dat x => (match koD x with
        | some o => tv ρ3 fun _ ρ4 => ks.length < sizeLine ∧ dKcL g tt tk tv vs ρ0 ds (ks ++ [o]) ρ4 Q
        | none => False)
      | _ => False)
    else dKcL g tt tk tv vs ρ0 ds ks ρ2 Q
def dKc (ti : DTI) (g : DTG) (tt : DTT) (tk tv : DTE) (vs : List Nat) : DTE := fun ρ Q => ti ρ fun ds ρ1 => dKcL g tt tk tv vs ρ1 ds [] ρ1 Q
theorem koD_rp {K : PySem.W.Frag} {G : Hp} {v : V} {x : D} {o : Option Int} (h : koD x = some o) (r : Rp K G v x) : v = kvO o := by
  cases x <;> cases h <;> cases r <;> rfl
section
variable {X : Cx} {tg iter kx vx : Expr} {ifs : List Expr} {scope : Scope} {own : List (Str × Nat)} {ti : DTI} {g : DTG} {tt : DTT} {tk tv : DTE} {ws : List Nat} {np : Np} {pos pos' : Pos}
theorem kc_ok (hw : ∀ j ∈ ws, j ∈ own.map (·.2)) (σ : Stt) (H : Hp) (Q : VK) (h : lift X.K np (dKc ti g tt tk tv (own.map (·.2))) σ H Q) :
    tKc (liftI X.K np ti) (liftG X.K np ws g) (liftT X.K np tt) (lift X.K np tk) (lift X.K np tv) (own.map (·.2)) σ H Q := by
  obtain ⟨B, G, ρ, Qd, hn, eo, h, k⟩ := h
  refine ⟨B, G, ρ, _, hn, eo, h, fun G1 ds ρ1 H1 J s1 e1 it q1 D hD => ?_⟩
  generalize hvs : own.map (·.2) = vs at *
  obtain ⟨ω1, e1⟩ := e1
  have d0 : B.A0 D ∨ B.H0 D = none := e1.gone hD
  have hg1 : G1 D = none := Same.none e1.gle hD
  have hw1 : ω1 D = none := by
    cases q : ω1 D with
    | none => rfl
    | some i => exact absurd hD (e1.own D i q).2.1
  refine ⟨fun i m H => ∃ G' ω' ρ' ks, Same G1 G' ∧ EnvW X.K B G' ω' (wipeE ρ' vs) (wipe σ vs) H ∧ ω' D = none ∧ G' D = none ∧ H D = some (.ext (KdP D ks)) ∧ m = ds.length - i ∧ i ≤ ds.length ∧ dKcL g tt tk tv vs ρ1 (ds.drop i) ks ρ' Qd,
    ⟨ds.length, G1, ω1, ρ1, [], .refl _, (e1.poke (o := .ext (KdP D [])) hw1 hg1 d0).wipe (.refl vs σ), hw1, hg1, upd_same, by simp, Nat.zero_le _, by rw [List.drop_zero]; exact q1⟩, ?_⟩
  rintro i m H2 ⟨G', ω', ρ', ks, s', e', hw', hg', hD', rfl, hi', q'⟩
  have ss := s1.trans s'
  by_cases hlt : i < ds.length
  · rw [List.drop_eq_getElem_cons hlt] at q'
    have gd : ds[i]? = some ds[i] := List.getElem?_eq_getElem hlt
    obtain ⟨hgo, hy⟩ := it.go i H2 ds[i] (fun a o q => e'.gle a o (s' a o q)) gd
    refine .inr ⟨hgo, fun H3 => ∃ G' ω' ρ' ks, Same G1 G' ∧ EnvW X.K B G' ω' (wipeE ρ' vs) (wipe σ vs) H3 ∧ ω' D = none ∧ G' D = none ∧ H3 D = some (.ext (KdP D ks)) ∧ dKcL g tt tk tv vs ρ1 (ds.drop (i + 1)) ks ρ' Qd,
      fun H3 ⟨G3, ω3, ρ3, ks3, s3, e3, z1, z2, z3, q3⟩ => ⟨ds.length - (i + 1), by omega, G3, ω3, ρ3, ks3, s3, e3, z1, z2, z3, rfl, hlt, q3⟩, fun x H3 y => ?_⟩
    have go : ∀ G3 ω3, Same G' G3 → EnvW X.K B G3 ω3 (wipeE ρ' vs) (wipe σ vs) H3 → Rp X.K G3 x ds[i] → ω3 D = none → G3 D = none → H3 D = some (.ext (KdP D ks)) → liftG X.K np ws g x (wipe σ vs) H3 fun σ2 H4 => wipe σ2 vs = wipe σ vs ∧ liftT X.K np tt σ2 H4 fun b H5 =>
        if b = true then lift X.K np tk σ2 H5 fun y H6 => lift X.K np tv σ2 H6 fun _ H7 => ∃ ks o, y = kvO o ∧ H7 D = some (.ext (KdP D ks)) ∧ ks.length < sizeLine ∧ (∃ G' ω' ρ' ks', Same G1 G' ∧ EnvW X.K B G' ω' (wipeE ρ' vs) (wipe σ vs) (upd H7 D (.ext (KdP D (ks ++ [o])))) ∧ ω' D = none ∧ G' D = none ∧ (upd H7 D (.ext (KdP D (ks ++ [o])))) D = some (.ext (KdP D ks')) ∧ dKcL g tt tk tv vs ρ1 (ds.drop (i + 1)) ks' ρ' Qd)
        else ∃ G' ω' ρ' ks, Same G1 G' ∧ EnvW X.K B G' ω' (wipeE ρ' vs) (wipe σ vs) H5 ∧ ω' D = none ∧ G' D = none ∧ H5 D = some (.ext (KdP D ks)) ∧ dKcL g tt tk tv vs ρ1 (ds.drop (i + 1)) ks ρ' Qd := fun G3 ω3 s3 e3 r3 hw3 hg3 hD3 => by
      refine ⟨reB B G3 ω3 (wipeE ρ' vs).length H3, G3, wipeE ρ' vs, ds[i], _, hn.re e3, ⟨_, e3.rebase⟩, r3, q', fun ρ4 σ4 e4 o4 q4 => ?_⟩
      have ow : wipe σ4 vs = wipe σ vs := by
        rw [(o4.mono hw).wipe]
        apply List.ext_getElem?
        intro j
        rw [wipe_get, wipe_length, wipe_get]
        split <;> rfl
      refine ⟨ow, reB B G3 ω3 (wipeE ρ' vs).length H3, G3, ρ4, _, hn.re e3, e4, q4, fun G5 b ρ5 H5 s5 e5 q5 => ?_⟩
      cases b with
      | false =>
        obtain ⟨ω5, e5⟩ := e5
        obtain ⟨z1, z2, z3⟩ := e5.still hD3 hw3 hg3
        exact iteF ⟨G5, ω5, ρ5, ks, (s'.trans s3).trans s5, (e3.back e5).wipe2 ow, z2, z3, z1, q5⟩
      | true =>
        refine iteT ⟨reB B G3 ω3 (wipeE ρ' vs).length H3, G5, ρ5, _, hn.re e3, e5, q5, fun G6 u r ρ6 H6 s6 f6 q6 => ?_⟩
        split at q6
        · rename_i dd
          obtain ⟨ω6, e6, r6⟩ := f6
          split at q6
          · rename_i o ho
            refine ⟨reB B G3 ω3 (wipeE ρ' vs).length H3, G6, ρ6, _, hn.re e3, ⟨ω6, e6⟩, q6, fun G7 u7 r7 ρ7 H7 s7 f7 q7 => ?_⟩
            obtain ⟨ω7, e7, _⟩ := f7
            obtain ⟨z1, z2, z3⟩ := e7.still hD3 hw3 hg3
            have s37 := ((s3.trans s5).trans s6).trans s7
            exact ⟨ks, o, koD_rp ho r6, z1, q7.1, G7, ω7, ρ7, _, s'.trans s37, ((e3.back e7).poke z2 z3 d0).wipe2 ow, z2, z3, upd_same, q7.2⟩
          · exact q6.elim
        · exact q6.elim
    have hD2 : ∀ T, H2 T = none → D ≠ T := fun T hT z => by subst z; rw [hD'] at hT; cases hT
    rcases hy x H3 y with ⟨rfl, r2⟩ | ⟨T, wt, es, hT, rfl, rfl, ed, rr⟩ | ⟨T2, wt, fs, T, j, hT2, hT, rfl, rfl, ed, rr⟩
    · exact go G' ω' (.refl _) e' (r2.mono s') hw' hg' hD'
    · obtain ⟨sg, e2⟩ := e'.newG (o := .tup wt) hT
      exact go _ ω' sg e2 (by rw [ed]; exact .tup (.inl (.inl upd_same)) ((rr.mono s').mono sg)) hw' (by rw [upd_ne (hD2 T hT)]; exact hg') (by rw [upd_ne (hD2 T hT)]; exact hD')
    · obtain ⟨sg, e2⟩ := e'.newG (o := .tup wt) hT2
      obtain ⟨sg2, e3⟩ := e2.newG (o := .tup [.int j, .ref T2]) hT
      have n2 := hD2 T2 hT2
      have n1 : D ≠ T := fun z => by rw [← z, upd_ne n2, hD'] at hT; cases hT
      have n3 : T2 ≠ T := fun z => by rw [← z, upd_same] at hT; cases hT
      exact go _ ω' (sg.trans sg2) e3 (by rw [ed]; exact .tup (.inl (.inl upd_same)) (.cons (.int _) (.cons ((Rp.tup (.inl (.inl upd_same)) ((rr.mono s').mono sg)).mono sg2) .nil))) hw' (by rw [upd_ne n1, upd_ne n2]; exact hg') (by rw [upd_ne n1, upd_ne n2]; exact hD')
  · have ei : i = ds.length := by omega
    subst ei
    rw [List.drop_length] at q'
    refine .inl ⟨it.stop _ _ (fun a o q => e'.gle a o (s' a o q)) (Nat.le_refl _), ?_⟩
    have er := EnvW.resto (vs := vs) e1 s' e'
    have er2 : TL.resto ρ1 (wipeE ρ' vs) vs = TL.resto ρ1 ρ' vs := by
      apply List.ext_getElem?
      intro j
      rw [resto_get, resto_get, wipeE_get, wipeE_length]
      split
      · rfl
      · rfl
    rw [er2] at er
    obtain ⟨ωr, er, hωr⟩ : ∃ ωr, EnvW X.K B G' ωr (TL.resto ρ1 ρ' vs) σ H2 ∧ ωr D = none := ⟨_, er, by rw [hw']⟩
    refine k _ _ (.nw (.rs (.kd ks))) _ _ ss ⟨tagd ωr D σ.length, ?_, rfl, .ref D, rfl, D, rfl, tagd_same, hD'⟩ q'
    refine ⟨er.gle, er.g0, er.keep, fun a j q => ?_, er.len, fun j s q => ?_, er.pin⟩
    · unfold tagd at q
      split at q
      · rename_i ha
        subst ha
        cases q
        exact ⟨hg', by rw [hD']; simp, d0⟩
      · split at q
        · cases q
        · exact er.own a j q
    · refine (er.slot j s q).mono (.refl _) fun a z => ⟨?_, rfl⟩
      have hj : j < (TL.resto ρ1 ρ' vs).length := (List.getElem?_eq_some_iff.mp q).1
      have := er.len
      have ha : a ≠ D := fun w => by
        subst w
        rw [hωr] at z
        cases z
      unfold tagd
      rw [if_neg ha, if_neg (fun w => by rw [z] at w; have := Option.some.inj w; omega)]
      exact z
theorem d_kc (hc : X.calm = true) (hN : X.N.Nodup) (hi : PI X tg iter (liftI X.K np ti)) (ok : BlkOk X.N X.env.scope scope own)
    (hg : ∀ (s : Shared) (H : Hp) (C : Addr) (cl : List (Str × Addr)) (fp : List Addr), PG (X.blk s H scope (compEnvC scope cl C X.env) fp) tg (liftG X.K np ws g)) (ht : ∀ (s : Shared) (H : Hp) (C : Addr) (cl : List (Str × Addr)) (fp : List Addr), PTs (X.blk s H scope (compEnvC scope cl C X.env) fp) ifs (liftT X.K np tt))
    (hk : ∀ (s : Shared) (H : Hp) (C : Addr) (cl : List (Str × Addr)) (fp : List Addr), PE (X.blk s H scope (compEnvC scope cl C X.env) fp) kx (lift X.K np tk))
    (he : ∀ (s : Shared) (H : Hp) (C : Addr) (cl : List (Str × Addr)) (fp : List Addr), PE (X.blk s H scope (compEnvC scope cl C X.env) fp) vx (lift X.K np tv)) (hw : ∀ j ∈ ws, j ∈ own.map (·.2) := by decide) (hs : ∀ x, foldedSetIterable iter X.env x = pure x := by intro _; rfl) :
    PE X (.DictComp kx vx [⟨tg, iter, ifs, 0⟩] scope pos) (lift X.K np (dKc ti g tt tk tv (own.map (·.2)))) := (pe_kc hc hN hi ok hg ht hk he hs).mo fun σ H Q h => kc_ok hw σ H Q h
end
def dInKd (neg : Bool) (t : DTE) (i : Nat) : DTE := fun ρ Q => t ρ fun r ρ1 => match r with
  | .dat x => ∃ ks o, ρ1[i]? = some (.rs (.kd ks)) ∧ koD x = some o ∧ Q (.dat (.bl (neg ^^ decide (o ∈ ks)))) ρ1
  | _ => False
section
variable {X : Cx} {a : Expr} {ta : DTE} {np : Np} {y : Str} {py pos : Pos}
theorem inKd_ok {neg : Bool} (i : Nat) (σ : Stt) (H : Hp) (Q : VK) (h : lift X.K np (dInKd neg ta i) σ H Q) : tOp (rInKd neg) (lift X.K np ta) (tVar i) σ H Q := by
  obtain ⟨B, G, ρ, Qd, hn, eo, h, k⟩ := h
  refine ⟨B, G, ρ, _, hn, eo, h, fun G1 v ra ρ1 H1 s1 f1 q1 => ?_⟩
  split at q1
  · rename_i x
    obtain ⟨ks, o, e, ho, q1⟩ := q1
    obtain ⟨ω, e1, r1⟩ := f1
    obtain ⟨u, hu, ad, rfl, hf, hh⟩ := e1.slot i _ e
    exact ⟨.ref ad, hu, o, ad, ks, koD_rp ho r1, rfl, hh, k _ _ _ _ _ s1 (e1.dat (.bl _)) q1⟩
  · exact q1.elim
theorem d_notinKdT (i : Nat) (ha : PE X a (lift X.K np ta)) (hN : X.N[i]? = some y := by rfl) (hv : Vis X.env.scope y := by first | exact Or.inl rfl | exact Or.inr (Or.inl rfl) | exact Or.inr (Or.inr rfl)) (hd : (y == ("__debug__" : Str)) = false := by decide) (hcd : (y == ("__classdict__" : Str)) = false := by decide) :
    PT X (.Compare a [.NotIn] [.Name y py] pos) (liftT X.K np (dTst (dInKd true ta i))) := (pt_cmpR op_notinKd ha (pe_var (i := i) hN hv hd hcd) rfl).mo fun σ H Q h => tst_ok (fun σ H Q h => inKd_ok i σ H Q h) σ H Q h
end
end TL
namespace TL
open PySem PySem.Spec PyProof.Rows L2
section
variable {prog : Program} {w : World} {A : Around} {E : Value → Shared → Prop} {s : Shared}
theorem set_of_list {l : Addr} {items : Array Value} {xs : List Str} {Q : Value → Shared → Prop} (calm : A.handled = none) (tup : s.heap.IsList l items) (its : PyProof.Rows.StrsAre items.toList xs) (few : xs.length + 1 < scanBound)
    (k : ∀ (h2 : Heap) (tk : Nat), h2.SetOf (PySem.strKind prog w) s.heap.objs.size (fun k => decide (k ∈ met [] xs)) (distinct xs) → (∀ b o, b < s.heap.objs.size → s.heap.get? b = some o → h2.get? b = some o) → Q (.ref s.heap.objs.size) { s with heap := h2, toks := tk }) :
    wpAny (model prog w) A (call (.type "set") [.ref l]) Q E s := by
  have size_ : xs.length = items.size := by rw [← StrsAre.len_eq its, Array.length_toList]
  obtain ⟨cl, rest, order_⟩ := PySem.F.called_set.mro
  have mk_ := PySem.F.called_set.made
  have sub_ := PySem.F.called_set.sub
  refine wpAny_call (codeAny_of_tree ?_)
  change wpAny _ _ (callAny (.type "set") _) _ _ _
  refine wpAny_pure ⟨Code.quiet_builtin _ (by decide +kernel), codeAny_builtin PySem.F.entry_type_call ?_⟩
  rw [Around.under_plain (weight_type_call_type "set" [.ref l] []) rfl]
  have a1 := PySem.F.called_set.notType
  have a2 := PySem.F.called_set.canCreate
  have a3 := PySem.F.typeCall_set_1 (.ref l)
  repeat any_goals first | assumption | wp_step
  refine codeAny_mono (code_set_new_1 (.ref l) (E := E) (Q₁ := fun new st => ∃ led : Bool, new = .ref s.heap.objs.size ∧ st = { s with heap := s.heap.push (bareSet led) }) fun led => ⟨led, rfl, rfl⟩) fun res st hr => ?_
  match res, hr with
  | .error ex, hr => exact hr
  | .ok .next, hr => exact hr.elim
  | .ok .brk, hr => exact hr.elim
  | .ok .cont, hr => exact hr.elim
  | .ok (.ret new), hr =>
    obtain ⟨led, rfl, rfl⟩ := hr
    have there : (s.heap.push (bareSet led)).get? s.heap.objs.size = some (bareSet led) := Heap.get?_push_size _ rfl
    have type_ : Shared.TypeIs { s with heap := s.heap.push (bareSet led) } (.ref s.heap.objs.size) "set" := ⟨_, there, rfl⟩
    have b1 := PySem.F.called_set.init.lookup
    have b2 := PySem.F.called_set.init.bind (.ref s.heap.objs.size)
    repeat any_goals first | assumption | wp_step
    refine codeAny_mono (codeAny_call_builtin (R := wants (fun r st2 => r = .none ∧ ∃ h2 tk, st2 = { s with heap := h2, toks := tk } ∧ h2.SetOf (PySem.strKind prog w) s.heap.objs.size (fun k => decide (k ∈ met [] xs)) (distinct xs) ∧
      (∀ b o, b < s.heap.objs.size → s.heap.get? b = some o → h2.get? b = some o)) E) PySem.F.called_set.init.plain PySem.F.entry_set_init (check_set_init_1 type_ ?_)) fun res2 st2 hr2 => ?_
    · obtain ⟨⟨ocl, odi, oda, osl⟩, found, c1, nn, c2⟩ := tup
      simp only at c1 c2
      subst c1; subst c2
      have found2 : (s.heap.push (bareSet led)).get? l = some { cls := .type "list", dict := odi, data := .seq items nn, slots := osl } := Heap.get?_push_of_some _ found
      have e1 := PySem.F.sub_list_set
      have e2 := PySem.F.sub_list_frozenset
      have e3 : (Value.type "list" == Value.type "dict") = false := by decide
      have tup2 : (s.heap.push (bareSet led)).IsList l items := ⟨_, found2, rfl, nn, rfl⟩
      unfold Builtin.«set.__init__» noKeywords Builtin.Frozenset.updateFrom
      generalize walked : pyIter = IT
      wp_walk
      subst walked
      refine wpAny_pyIter_list tup2 (wpAny_bind (wpAny_runValue ?_))
      have below : l < s.heap.objs.size := Heap.lt_size found
      have calm3 : A.in1.in1.in1.handled = none := by simp [calm]
      have sizeP : (s.heap.push (bareSet led)).objs.size = s.heap.objs.size + 1 := Heap.size_push _ _
      have apart : l ≠ (s.heap.push (bareSet led)).objs.size := by rw [sizeP]; exact Nat.ne_of_lt (Nat.lt_succ_of_lt below)
      have out_ : s.heap.objs.size ∉ [(s.heap.push (bareSet led)).objs.size, l] := by
        rw [sizeP]
        simp only [List.mem_cons, List.not_mem_nil, or_false, not_or]
        exact ⟨Nat.ne_of_lt (Nat.lt_succ_self _), Nat.ne_of_gt below⟩
      refine fill_loop ((Walks.list calm3 _ l apart items).toS) s.heap.objs.size out_ xs size_ (by rw [← size_]; exact few) (fun i v hv => SS.strs_at its i v (by rw [Array.getElem?_toList]; exact hv)) items.size 0 _ (Nat.zero_add _) ⟨⟨_, Heap.get?_push_size _ rfl, rfl, rfl⟩, (tup2.push _)⟩ ?_ ?_
      · have still : ((s.heap.push (bareSet led)).push { cls := .type "list_iterator", data := .fields #[.ref l, .int 0 0] }).get? s.heap.objs.size = some (bareSet led) := Heap.get?_push_of_some _ there
        exact SetOf_congr ((PyProof.Rows.setObjOf_fresh (knd := PySem.strKind prog w) led).setOf still (by unfold scanBound; omega)) (fun _ => rfl) rfl
      · rintro ⟨h3, g3, d3, t3, o3⟩ hm full
        obtain rfl : g3 = s.gens := hm.gens
        obtain rfl : d3 = s.drawn := hm.drawn
        obtain rfl : o3 = s.os := hm.os
        refine wpAny_pure ?_
        change wpAny _ _ (ret Value.none) _ _ _
        refine wpAny_pure ⟨rfl, h3, t3, rfl, full, fun b o hb y => hm.heap b o ?_ (Heap.get?_push_of_some _ (Heap.get?_push_of_some _ y))⟩
        rw [sizeP]
        simp only [List.mem_cons, List.not_mem_nil, or_false, not_or]
        exact ⟨Nat.ne_of_lt hb, Nat.ne_of_lt (Nat.lt_succ_of_lt hb)⟩
    · match res2, hr2 with
      | .error ex, hr2 => exact hr2
      | .ok .next, hr2 => exact hr2.elim
      | .ok .brk, hr2 => exact hr2.elim
      | .ok .cont, hr2 => exact hr2.elim
      | .ok (.ret r), hr2 =>
        obtain ⟨rfl, h3, t3, rfl, full, keep⟩ := hr2
        repeat any_goals first | assumption | wp_step
        exact k _ _ full keep
end
def dLenSet2 (t : DTE) : DTE := fun ρ Q => t ρ fun r ρ1 => match val ρ1 r with
  | some (.tup ys) => (match txs ys with
    | some xs => xs.length ≤ 4000 ∧ Q (.dat (.int (distinct xs : Nat))) ρ1
    | none => False)
  | some (.lst ys) => (match txs ys with
    | some xs => xs.length ≤ 4000 ∧ Q (.dat (.int (distinct xs : Nat))) ρ1
    | none => False)
  | _ => False
section
variable {X : Cx} {a : Expr} {ta : DTE} {np : Np} {p1 p2 p3 p4 : Pos}
theorem d_lenSet2 (calm : X.calm = true) (g1 : Gl X "len") (m1 : X.mg "len" = none) (g2 : Gl X "set") (m2 : X.mg "set" = none) (ha : PE X a (lift X.K np ta))
    (na : starEach [a] X.env = (false, eval a X.env) :: starEach [] X.env := by rfl) : PE X (.Call (.Name "len" p1) [.Call (.Name "set" p2) [a] [] p3] [] p4) (lift X.K np (dLenSet2 ta)) := by
  refine ⟨fun pins s σ H Q J h => ?_⟩
  obtain ⟨B, G, ρ, Qd, hn, eo, h, k⟩ := h
  refine Call_ (ld_blt J g1 m1 bt_len (PyProof.Rows.callWith_builtin1 (PyProof.Rows.args_cons ?_ rfl) rfl rfl))
  refine Call_ (ld_blt J g2 m2 bt_set (PyProof.Rows.callWith_type1 (PyProof.Rows.args_cons ?_ na) na rfl))
  have mid : lift X.K np ta σ H fun v H1 => ∃ (l : Addr) (xs : List Str) (G1 : Hp) (ρ1 : TL.Env), v = .ref l ∧ (SqT X.K H1 l (xs.map V.str) ∨ SqL X.K H1 l (xs.map V.str)) ∧ xs.length ≤ 4000 ∧ Same G G1 ∧ EnvOk X.K B G1 ρ1 σ H1 ∧ Qd (.dat (.int (distinct xs : Nat))) ρ1 := by
    refine ⟨B, G, ρ, _, hn, eo, h, fun G1 v r ρ1 H1 s1 f1 q1 => ?_⟩
    obtain ⟨ω, e1, rr⟩ := f1
    split at q1
    · rename_i ys hv
      split at q1
      · rename_i xs hx
        obtain rfl := txs_eq hx
        obtain ⟨l, vs, rfl, hs, rl⟩ := (e1.rd rr hv).tup
        obtain rfl := rl.strs_eq
        exact ⟨l, xs, G1, ρ1, rfl, .inl (seqT e1.gle hs), q1.1, s1, ⟨ω, e1⟩, q1.2⟩
      · exact q1.elim
    · rename_i ys hv
      split at q1
      · rename_i xs hx
        obtain rfl := txs_eq hx
        obtain ⟨l, vs, rfl, hs, rl⟩ := (e1.rd rr hv).lst e1.gle
        obtain rfl := rl.strs_eq
        exact ⟨l, xs, G1, ρ1, rfl, .inr (.of hs), q1.1, s1, ⟨ω, e1⟩, q1.2⟩
      · exact q1.elim
    · exact q1.elim
  refine thn (ha.run pins s σ H _ J mid) fun v st ⟨y, H1, J1, r1, q1⟩ => PyProof.Rows.args_nil ?_
  obtain ⟨l, xs, G1, ρ1, rfl, hs, few, s1, e1, q1⟩ := q1
  cases r1
  rcases hs with hs | hs
  · obtain ⟨its, rv, pl, hz⟩ := J1.tuple hs
    refine set_of_tuple (J1.ok.hd calm) pl (by simpa using texts_of rv) (by unfold scanBound; omega) fun h2 tk full keep => PyProof.Rows.args_nil ?_
    obtain ⟨ob, es, ep, tb, f1, f2, f3, f4, f5, f6, f7, f8⟩ := full
    have J2 : Inv X pins σ H1 { st with heap := h2, toks := tk } := J1.kept fun b o y => keep b o (Heap.lt_size y) y
    have small : distinct xs ≤ 4000 := by
      have := met_len xs []
      unfold distinct
      simp at this
      omega
    refine call_len_set f1 f2 f3 f7 (by rw [f8]; omega) ⟨.int (distinct xs : Nat), H1, J2.tok _, ⟨_, by rw [f8]⟩, ?_⟩
    exact k _ _ _ _ _ s1 (e1.dat (.int _)) q1
  · obtain ⟨its, rv, pl, hz⟩ := J1.list hs
    refine set_of_list (J1.ok.hd calm) pl.isList (by simpa using texts_of rv) (by unfold scanBound; omega) fun h2 tk full keep => PyProof.Rows.args_nil ?_
    obtain ⟨ob, es, ep, tb, f1, f2, f3, f4, f5, f6, f7, f8⟩ := full
    have J2 : Inv X pins σ H1 { st with heap := h2, toks := tk } := J1.kept fun b o y => keep b o (Heap.lt_size y) y
    have small : distinct xs ≤ 4000 := by
      have := met_len xs []
      unfold distinct
      simp at this
      omega
    refine call_len_set f1 f2 f3 f7 (by rw [f8]; omega) ⟨.int (distinct xs : Nat), H1, J2.tok _, ⟨_, by rw [f8]⟩, ?_⟩
    exact k _ _ _ _ _ s1 (e1.dat (.int _)) q1
end
end TL
namespace TL
open PySem PySem.Spec PyProof.Rows L2
theorem ite2' {c : Bool} {A B : Prop} (h1 : c = true → A) (h2 : c = false → B) : if c = true then A else B := by
  cases c with
  | true => exact iteT (h1 rfl)
  | false => exact iteF (h2 rfl)
theorem line_big : 15728640 ≤ sizeLine := by rw [sizeLine_eq]; decide
def itemsD : D → Option (List D)
  | .lst xs => some xs
  | .tup xs => some xs
  | .str z => if z.length ≤ sizeLine then some (z.cps.toList.map fun c => .str ⟨#[c]⟩) else none
  | _ => none
theorem atI_mem {α : Type} {xs : List α} {k : Int} (h0 : 0 ≤ k) (h1 : k < xs.length) : ∃ x, atI xs k = some x ∧ x ∈ xs := by
  have hk : k.toNat < xs.length := by omega
  refine ⟨xs[k.toNat], ?_, List.getElem_mem _⟩
  have := atI_nat (xs := xs) (j := k.toNat) (List.getElem?_eq_getElem hk)
  rwa [Int.toNat_of_nonneg h0] at this
theorem W2_mk {o p : Option D} {x y : D} {P : D → D → Prop} (h1 : o = some x) (h2 : p = some y) (h : P x y) : W2 o p P := by subst h1; subst h2; exact h
theorem W1_mk {o : Option D} {x : D} {P : D → Prop} (h1 : o = some x) (h : P x) : W1 o P := by subst h1; exact h
theorem gIx_lst {xs : List D} {k : Int} {x : D} {P : Rs → Prop} (e : atI xs k = some x) (h : P (.dat x)) : gIx (.lst xs) (.int k) P := by unfold gIx; simp only [e]; exact h
theorem gIx_tup {xs : List D} {k : Int} {x : D} {P : Rs → Prop} (e : atI xs k = some x) (h : P (.dat x)) : gIx (.tup xs) (.int k) P := by unfold gIx; simp only [e]; exact h
theorem gIx_str {z : Str} {k : Int} {c : Nat} {P : Rs → Prop} (e : atI z.cps.toList k = some c) (hz : z.length ≤ sizeLine) (h : P (.dat (.str ⟨#[c]⟩))) : gIx (.str z) (.int k) P := by unfold gIx; simp only [e]; exact ⟨hz, h⟩
end TL
namespace TL
open PySem PySem.Spec PyProof.Rows L2
def okS (x : Str) : Bool := x.cps.all (· < 1114112)
def okI (N : Nat) (i : Int) : Bool := decide (i.natAbs ≤ N)
def topN : Nat := 10 ^ 149
def okKey (N : Nat) : Key → Bool
  | .inl i => okI N i
  | .inr x => okS x
mutual
def okD (N : Nat) : D → Bool
  | .non => true
  | .bl _ => true
  | .int i => okI N i
  | .str x => okS x
  | .tup xs => okL N xs
  | .lst xs => okL N xs
  | .dct kvs => okK N kvs
  | .obj _ _ => false
  | .ref _ => false
  | .ty _ => false
  | .scr _ => false
def okL (N : Nat) : List D → Bool
  | [] => true
  | x :: xs => okD N x && okL N xs
def okK (N : Nat) : List (Key × D) → Bool
  | [] => true
  | (k, v) :: r => okKey N k && (okD N v && okK N r)
end
theorem okI_log {N : Nat} (hN : N ≤ topN) {i : Int} (h : okI N i = true) : i.natAbs.log2 < 1920 := by
  have h1 : i.natAbs < 10 ^ 150 := Nat.lt_of_le_of_lt (Nat.le_trans (of_decide_eq_true h) hN) (by decide)
  by_cases h0 : i.natAbs = 0
  · rw [h0]; decide
  · rw [Nat.log2_lt h0]
    exact Nat.lt_of_lt_of_le h1 (by decide)
mutual
theorem okD_plain {N : Nat} : ∀ d : D, okD N d = true → plain d = true
  | .non, _ => rfl
  | .bl _, _ => rfl
  | .int _, _ => rfl
  | .str _, _ => rfl
  | .tup xs, h => okL_plain xs h
  | .lst xs, h => okL_plain xs h
  | .dct kvs, h => okK_plain kvs h
  | .obj _ _, h => by cases h
  | .ref _, h => by cases h
  | .ty _, h => by cases h
  | .scr _, h => by cases h
theorem okL_plain {N : Nat} : ∀ xs : List D, okL N xs = true → plainL xs = true
  | [], _ => rfl
  | x :: xs, h => by
    have h' : okD N x = true ∧ okL N xs = true := by simpa [okL] using h
    show (plain x && plainL xs) = true
    rw [okD_plain x h'.1, okL_plain xs h'.2]; rfl
theorem okK_plain {N : Nat} : ∀ xs : List (Key × D), okK N xs = true → plainK xs = true
  | [], _ => rfl
  | (k, v) :: xs, h => by
    have h' : okKey N k = true ∧ okD N v = true ∧ okK N xs = true := by simpa [okK] using h
    show (plain v && plainK xs) = true
    rw [okD_plain v h'.2.1, okK_plain xs h'.2.2]; rfl
end
theorem okI_short {N : Nat} (hN : N ≤ topN) {i : Int} (h : okI N i = true) : (PyData.shown (.int i)).length ≤ 160 := by
  have h1 : i.natAbs < 10 ^ 150 := Nat.lt_of_le_of_lt (Nat.le_trans (of_decide_eq_true h) hN) (by decide)
  rw [PyData.shown_int]
  have := int_text_length_le10 (k := 150) (by decide) h1
  show (Str.ofString (toString i)).length ≤ 160
  rw [PySem.ofString_length]
  omega
theorem okS_short {x : Str} (h : okS x = true) : (x.cps.toList.all fun c => decide (c < 16 ^ 8)) = true := by
  unfold okS at h
  rw [List.all_eq_true]
  intro c hc
  have := (Array.all_eq_true_iff_forall_mem.mp h) c (Array.mem_toList_iff.mp hc)
  have h2 : c < 1114112 := by simpa using this
  exact decide_eq_true (by have : (16 : Nat) ^ 8 = 4294967296 := by decide
                           omega)
theorem okKey_short {N : Nat} (hN : N ≤ topN) {k : Key} (h : okKey N k = true) : (kD k).leavesShort 160 = true ∧ (kD k).showable = true := by
  cases k with
  | inl i => exact ⟨by show decide _ = true; exact decide_eq_true (okI_short hN h), by show decide _ = true; exact decide_eq_true (okI_log hN h)⟩
  | inr x => exact ⟨okS_short h, rfl⟩
mutual
theorem okD_fit {N : Nat} (hN : N ≤ topN) : ∀ d : D, okD N d = true → (py d).leavesShort 160 = true ∧ (py d).showable = true
  | .non, _ => ⟨rfl, rfl⟩
  | .bl _, _ => ⟨rfl, rfl⟩
  | .int i, h => ⟨by show decide _ = true; exact decide_eq_true (okI_short hN h), by show decide _ = true; exact decide_eq_true (okI_log hN h)⟩
  | .str x, h => ⟨okS_short h, rfl⟩
  | .tup xs, h => okL_fit hN xs h
  | .lst xs, h => okL_fit hN xs h
  | .dct kvs, h => okK_fit hN kvs h
  | .obj _ _, h => by cases h
  | .ref _, h => by cases h
  | .ty _, h => by cases h
  | .scr _, h => by cases h
theorem okL_fit {N : Nat} (hN : N ≤ topN) : ∀ xs : List D, okL N xs = true → PyData.leavesShortAll 160 (pyL xs) = true ∧ PyData.showableAll (pyL xs) = true
  | [], _ => ⟨rfl, rfl⟩
  | x :: xs, h => by
    have h' : okD N x = true ∧ okL N xs = true := by simpa [okL] using h
    have h1 := okD_fit hN x h'.1
    have h2 := okL_fit hN xs h'.2
    exact ⟨by show (_ && _) = true; rw [h1.1, h2.1]; rfl, by show (_ && _) = true; rw [h1.2, h2.2]; rfl⟩
theorem okK_fit {N : Nat} (hN : N ≤ topN) : ∀ xs : List (Key × D), okK N xs = true → PyData.leavesShortKv 160 (pyK xs) = true ∧ PyData.showableKv (pyK xs) = true
  | [], _ => ⟨rfl, rfl⟩
  | (k, v) :: xs, h => by
    have h' : okKey N k = true ∧ okD N v = true ∧ okK N xs = true := by simpa [okK] using h
    have h0 := okKey_short hN h'.1
    have h1 := okD_fit hN v h'.2.1
    have h2 := okK_fit hN xs h'.2.2
    exact ⟨by show (_ && _ && _) = true; rw [h0.1, h1.1, h2.1]; rfl, by show (_ && _ && _) = true; rw [h0.2, h1.2, h2.2]; rfl⟩
end
def wt (d : D) : Nat := (py d).weight
def dp (d : D) : Nat := (py d).depth
def wtL (xs : List D) : Nat := PyData.weightAll (pyL xs)
def dpL (xs : List D) : Nat := PyData.depthAll (pyL xs)
structure Fine (N w m : Nat) (d : D) : Prop where
  ok : okD N d = true
  lw : wt d ≤ w
  ld : dp d ≤ m
structure FineL (N w m : Nat) (xs : List D) : Prop where
  ok : okL N xs = true
  lw : wtL xs ≤ w
  ld : dpL xs ≤ m
theorem Fine.mono {N w m w' m' : Nat} {d : D} (h : Fine N w m d) (h1 : w ≤ w') (h2 : m ≤ m') : Fine N w' m' d := ⟨h.ok, Nat.le_trans h.lw h1, Nat.le_trans h.ld h2⟩
theorem FineL.mono {N w m w' m' : Nat} {d : List D} (h : FineL N w m d) (h1 : w ≤ w') (h2 : m ≤ m') : FineL N w' m' d := ⟨h.ok, Nat.le_trans h.lw h1, Nat.le_trans h.ld h2⟩
theorem Fine.plain {N w m : Nat} {d : D} (h : Fine N w m d) : plain d = true := okD_plain d h.ok
theorem Fine.show_ {N w m : Nat} {d : D} (h : Fine N w m d) (hN : N ≤ topN) (hw : w ≤ 100000) (hm : m ≤ 50) : ShowOk d := by
  refine ⟨h.plain, (okD_fit hN d h.ok).2, ?_, Nat.le_trans h.ld hm⟩
  have h1 := PyData.shown_le 160 (by decide) (py d) (okD_fit hN d h.ok).1
  have h2 : (py d).weight ≤ 100000 := Nat.le_trans h.lw hw
  have h3 : (160 + 2) * (py d).weight ≤ 162 * 100000 := Nat.mul_le_mul_left _ h2
  rw [sizeLine_eq]
  omega
theorem Fine.tup {N w m : Nat} {xs : List D} (h : FineL N w m xs) : Fine N w (m + 1) (.tup xs) := ⟨h.ok, h.lw, Nat.succ_le_succ h.ld⟩
theorem Fine.lst {N w m : Nat} {xs : List D} (h : FineL N w m xs) : Fine N w (m + 1) (.lst xs) := ⟨h.ok, h.lw, Nat.succ_le_succ h.ld⟩
theorem Fine.tup' {N w m : Nat} {xs : List D} (h : Fine N w m (.tup xs)) : ∃ m', m = m' + 1 ∧ FineL N w m' xs := by
  have : dpL xs + 1 ≤ m := h.ld
  exact ⟨m - 1, by omega, h.ok, h.lw, by omega⟩
theorem Fine.lst' {N w m : Nat} {xs : List D} (h : Fine N w m (.lst xs)) : ∃ m', m = m' + 1 ∧ FineL N w m' xs := by
  have : dpL xs + 1 ≤ m := h.ld
  exact ⟨m - 1, by omega, h.ok, h.lw, by omega⟩
theorem okL_iff {N : Nat} : ∀ {xs : List D}, okL N xs = true ↔ ∀ x ∈ xs, okD N x = true
  | [] => by simp [okL]
  | x :: xs => by
    have := okL_iff (N := N) (xs := xs)
    simp [okL, this]
theorem wtL_eq : ∀ xs : List D, wtL xs = (xs.map fun d => wt d + 1).sum
  | [] => rfl
  | x :: xs => by
    show PyData.weight (py x) + 1 + wtL xs = _
    rw [wtL_eq xs, List.map_cons, List.sum_cons]; rfl
theorem dpL_le : ∀ {xs : List D} {m : Nat}, dpL xs ≤ m ↔ ∀ x ∈ xs, dp x ≤ m
  | [], m => by simp [dpL, pyL, PyData.depthAll]
  | x :: xs, m => by
    have := dpL_le (xs := xs) (m := m)
    show max (dp x) (dpL xs) ≤ m ↔ _
    rw [Nat.max_le, this]
    simp
theorem wtL_append (xs ys : List D) : wtL (xs ++ ys) = wtL xs + wtL ys := by rw [wtL_eq, wtL_eq, wtL_eq, List.map_append, List.sum_append]
theorem wtL_cons (x : D) (ys : List D) : wtL (x :: ys) = wt x + 1 + wtL ys := rfl
theorem wtL_mem {x : D} : ∀ {xs : List D}, x ∈ xs → wt x + 1 ≤ wtL xs
  | y :: ys, h => by
    rw [wtL_cons]
    rcases List.mem_cons.mp h with rfl | h
    · omega
    · have := wtL_mem h
      omega
theorem wtL_length : ∀ xs : List D, xs.length ≤ wtL xs
  | [] => Nat.le_refl _
  | x :: xs => by
    rw [wtL_cons, List.length_cons]
    have := wtL_length xs
    omega
theorem FineL.mem {N w m : Nat} {xs : List D} (h : FineL N w m xs) {x : D} (hx : x ∈ xs) : Fine N w m x := ⟨okL_iff.mp h.ok x hx, by have := wtL_mem hx; have := h.lw; omega, dpL_le.mp h.ld x hx⟩
theorem FineL.of {N w m : Nat} {xs : List D} (h1 : ∀ x ∈ xs, okD N x = true ∧ TL.dp x ≤ m) (h2 : wtL xs ≤ w) : FineL N w m xs := ⟨okL_iff.mpr fun x hx => (h1 x hx).1, h2, dpL_le.mpr fun x hx => (h1 x hx).2⟩
theorem sub_sum {xs ys : List Nat} (h : ys.Sublist xs) : ys.sum ≤ xs.sum := by
  induction h with
  | slnil => exact Nat.le_refl _
  | cons a _ ih => rw [List.sum_cons]; omega
  | cons_cons a _ ih => rw [List.sum_cons, List.sum_cons]; omega
theorem FineL.sub {N w m : Nat} {xs ys : List D} (h : FineL N w m xs) (hs : ys.Sublist xs) : FineL N w m ys := by
  refine .of (fun x hx => ⟨okL_iff.mp h.ok x (hs.subset hx), dpL_le.mp h.ld x (hs.subset hx)⟩) (Nat.le_trans ?_ h.lw)
  rw [wtL_eq, wtL_eq]
  exact sub_sum (hs.map _)
theorem FineL.append {N w w' m : Nat} {xs ys : List D} (h : FineL N w m xs) (h' : FineL N w' m ys) : FineL N (w + w') m (xs ++ ys) := by
  refine .of (fun x hx => ?_) (by rw [wtL_append]; exact Nat.add_le_add h.lw h'.lw)
  rcases List.mem_append.mp hx with z | z
  · exact ⟨okL_iff.mp h.ok x z, dpL_le.mp h.ld x z⟩
  · exact ⟨okL_iff.mp h'.ok x z, dpL_le.mp h'.ld x z⟩
theorem FineL.cons {N w w' m : Nat} {x : D} {ys : List D} (h : Fine N w m x) (h' : FineL N w' m ys) : FineL N (w + 1 + w') m (x :: ys) := by
  refine .of (fun y hy => ?_) (by rw [wtL_cons]; have := h.lw; have := h'.lw; omega)
  rcases List.mem_cons.mp hy with rfl | z
  · exact ⟨h.ok, h.ld⟩
  · exact ⟨okL_iff.mp h'.ok y z, dpL_le.mp h'.ld y z⟩
theorem FineL.nil {N w m : Nat} : FineL N w m [] := ⟨rfl, Nat.zero_le _, Nat.zero_le _⟩
theorem wtL_set (y : D) : ∀ (xs : List D) (i : Nat), wtL (xs.set i y) ≤ wtL xs + wt y + 1
  | [], _ => by simp [wtL, pyL, PyData.weightAll]
  | x :: xs, 0 => by show wt y + 1 + wtL xs ≤ wt x + 1 + wtL xs + wt y + 1; omega
  | x :: xs, i + 1 => by
    have := wtL_set y xs i
    show wt x + 1 + wtL (xs.set i y) ≤ wt x + 1 + wtL xs + wt y + 1
    omega
theorem FineL.set {N w w' m : Nat} {xs : List D} {y : D} (h : FineL N w m xs) (hy : Fine N w' m y) (i : Nat) : FineL N (w + w' + 1) m (xs.set i y) := by
  refine .of (fun x hx => ?_) ?_
  · rcases List.mem_or_eq_of_mem_set hx with z | rfl
    · exact ⟨okL_iff.mp h.ok x z, dpL_le.mp h.ld x z⟩
    · exact ⟨hy.ok, hy.ld⟩
  · have := wtL_set y xs i
    have := h.lw
    have := hy.lw
    omega
theorem Fine.len_str {N w m : Nat} {x : Str} (h : Fine N w m (.str x)) : x.length ≤ w := h.lw
end TL
namespace TL
open PySem PySem.Spec PyProof.Rows L2
def letsS : Str := "abcdefghijklmnopqrstuvwxyz"
def lets : List Nat := letsS.cps.toList
theorem lets_len : lets.length = 26 := by decide +kernel
theorem lets_nodup : lets.Nodup := by decide +kernel
def wdB (z : Str) : Bool := decide (1 ≤ z.length) && (decide (z.length ≤ 8) && z.cps.toList.all fun c => decide (c ∈ lets))
def Wd (z : Str) : Prop := wdB z = true
theorem Wd.of {z : Str} (h1 : 1 ≤ z.length) (h2 : z.length ≤ 8) (h3 : ∀ c ∈ z.cps.toList, c ∈ lets) : Wd z := by
  unfold Wd wdB
  simp only [Bool.and_eq_true, decide_eq_true_eq, List.all_eq_true]
  exact ⟨h1, h2, h3⟩
theorem Wd.all {z : Str} (h : Wd z) : 1 ≤ z.length ∧ z.length ≤ 8 ∧ ∀ c ∈ z.cps.toList, c ∈ lets := by
  unfold Wd wdB at h
  simpa only [Bool.and_eq_true, decide_eq_true_eq, List.all_eq_true] using h
theorem okS_wd {z : Str} (h : Wd z) : okS z = true := by
  unfold okS
  rw [Array.all_eq_true_iff_forall_mem]
  intro c hc
  have h1 := h.all.2.2 c (Array.mem_toList_iff.mpr hc)
  have h2 : ∀ c ∈ lets, c < 123 := by decide +kernel
  have := h2 c h1
  simpa using (by omega : c < 1114112)
theorem fine_str {z : Str} {N w m : Nat} (h : okS z = true) (hl : z.length ≤ w) : Fine N w m (.str z) := ⟨h, hl, Nat.zero_le _⟩
theorem Wd.fine {z : Str} (h : Wd z) {N w m : Nat} (hw : 8 ≤ w) : Fine N w m (.str z) := fine_str (okS_wd h) (Nat.le_trans h.all.2.1 hw)
theorem strLen {z : Str} : z.cps.toList.length = z.length := Array.length_toList
theorem join_cps : ∀ cs : List Nat, (Str.join "" (cs.map fun c => (⟨#[c]⟩ : Str))).cps.toList = cs
  | [] => rfl
  | [c] => rfl
  | c :: d :: r => by
    have ih := join_cps (d :: r)
    show ((⟨#[c]⟩ : Str) ++ "" ++ Str.join "" ((d :: r).map fun c => (⟨#[c]⟩ : Str))).cps.toList = _
    show ((#[c] ++ (#[] : Array Nat)) ++ (Str.join "" ((d :: r).map fun c => (⟨#[c]⟩ : Str))).cps).toList = _
    rw [Array.toList_append, ih]
    rfl
theorem join_wd {cs : List Nat} (h1 : 1 ≤ cs.length) (h2 : cs.length ≤ 8) (h3 : ∀ c ∈ cs, c ∈ lets) : Wd (Txt.join "" (cs.map fun c => (⟨#[c]⟩ : Str))) := by
  have e : Txt.join "" (cs.map fun c => (⟨#[c]⟩ : Str)) = Str.join "" (cs.map fun c => (⟨#[c]⟩ : Str)) := StrLaws.glued_eq_join _ _
  rw [e]
  have l : (Str.join "" (cs.map fun c => (⟨#[c]⟩ : Str))).length = cs.length := by rw [← strLen, join_cps]
  exact .of (by omega) (by omega) (by rw [join_cps]; exact h3)
def cut7 (z : Str) : Str := cutS z none (some 7)
theorem cut7_cps (z : Str) : (cut7 z).cps.toList = z.cps.toList.take 7 := by
  unfold cut7 cutS
  show ((z.cps.toList.drop (HT.sIx z.length 0 none)).take (HT.sIx z.length z.length (some ((7 : Nat) : Int)) - HT.sIx z.length 0 none)) = _
  rw [HT.sIx_none, HT.sIx_nat, List.drop_zero, Nat.sub_zero]
  by_cases h : 7 ≤ z.length
  · rw [Nat.min_eq_left h]
  · rw [Nat.min_eq_right (by omega), ← strLen, List.take_length, List.take_of_length_le (by rw [strLen]; omega)]
theorem app_cps (a b : Str) : (a ++ b).cps.toList = a.cps.toList ++ b.cps.toList := by
  show (a.cps ++ b.cps).toList = _
  rw [Array.toList_append]
def nearW (z : Str) : List Str := z :: lets.map fun c => cut7 z ++ ⟨#[c]⟩
theorem near_wd {z : Str} (h : Wd z) : ∀ y ∈ nearW z, Wd y := by
  intro y hy
  rcases List.mem_cons.mp hy with rfl | hy
  · exact h
  · obtain ⟨c, hc, rfl⟩ := List.mem_map.mp hy
    have e := app_cps (cut7 z) ⟨#[c]⟩
    rw [cut7_cps] at e
    have l : (cut7 z ++ (⟨#[c]⟩ : Str)).length = (z.cps.toList.take 7).length + 1 := by
      rw [← strLen, e, List.length_append]; rfl
    rw [List.length_take] at l
    refine .of (by omega) (by omega) (fun d hd => ?_)
    rw [e] at hd
    rcases List.mem_append.mp hd with hd | hd
    · exact h.all.2.2 d (List.mem_of_mem_take hd)
    · have : d = c := by simpa using hd
      subst this
      exact hc
theorem str_ext {a b : Str} (h : a.cps.toList = b.cps.toList) : a = b := by
  obtain ⟨a⟩ := a
  obtain ⟨b⟩ := b
  exact congrArg Str.mk (Array.toList_inj.mp h)
theorem near_nodup (z : Str) : (lets.map fun c => cut7 z ++ (⟨#[c]⟩ : Str)).Nodup := by
  refine List.Pairwise.map _ ?_ lets_nodup
  intro a b hab h
  have e : (cut7 z ++ (⟨#[a]⟩ : Str)).cps.toList = (cut7 z ++ (⟨#[b]⟩ : Str)).cps.toList := congrArg (fun s => s.cps.toList) h
  rw [app_cps, app_cps] at e
  have := List.append_cancel_left e
  exact hab (by simpa using this)
theorem near_new (z : Str) (ws : List Str) (h : ws.length < 26) : ∃ y ∈ nearW z, y ∉ ws := by
  refine Classical.byContradiction fun n => ?_
  have sub : ∀ y ∈ (lets.map fun c => cut7 z ++ (⟨#[c]⟩ : Str)), y ∈ ws := fun y hy => Classical.byContradiction fun m => n ⟨y, List.mem_cons_of_mem _ hy, m⟩
  have := (List.nodup_iff_count.mp (near_nodup z))
  have hl : (lets.map fun c => cut7 z ++ (⟨#[c]⟩ : Str)).length ≤ ws.length := (near_nodup z).length_le_of_subset sub
  rw [List.length_map, lets_len] at hl
  omega
end TL
namespace TL
open PySem PySem.Spec PyProof.Rows L2
def chD (c : Nat) : D := .str ⟨#[c]⟩
theorem items_str {z : Str} (h : z.length ≤ sizeLine) : itemsD (.str z) = some (z.cps.toList.map chD) := if_pos h
theorem items_lets {Z : Str} (hZ : Z.cps.toList = lets) : itemsD (.str Z) = some (lets.map chD) := by
  rw [items_str (by rw [← strLen, hZ, lets_len]; have := line_big; omega), hZ]
theorem fin_big {n : Nat} (h : n ≤ 1000) : n < sizeLine := by have := line_big; omega
section
variable {Q : Rs → TL.Env → Prop} {ρ0 : TL.Env} {s0 m s2 pl fd k w j n l o : Sl}
theorem wl_near {z : Str} (hz : z.length ≤ 8) : ∀ (cs : List Nat) (acc : List Str) (l : Sl), acc.length + cs.length ≤ 1000 →
    Q (.nw (.ls ((acc ++ cs.map fun c => cut7 z ++ (⟨#[c]⟩ : Str)).map .str))) [s0, m, s2, pl, fd, k, .fr (.str z), j, n, frO ρ0[9]?, o] →
    dLcL (hName 9) dYes (dBin gAdd (dSlice (dVar 6) dNoP (dPart (dC (.int 7)))) (dVar 9)) [9] ρ0 (cs.map chD) (acc.map .str) [s0, m, s2, pl, fd, k, .fr (.str z), j, n, l, o] Q
  | [], acc, l, _, h => by
    have h' : Q (.nw (.ls (acc.map .str))) [s0, m, s2, pl, fd, k, .fr (.str z), j, n, frO ρ0[9]?, o] := by simpa using h
    exact h'
  | c :: cs, acc, l, hl, h => by
    have l7 : (cut7 z).length ≤ 7 := by rw [← strLen, cut7_cps, List.length_take]; omega
    refine ⟨by have := line_big; omega, ⟨by have := line_big; show (cut7 z).length + 1 ≤ sizeLine; omega, ?_⟩⟩
    refine ⟨fin_big (by rw [List.length_map]; simp at hl; omega), ?_⟩
    have := wl_near hz cs (acc ++ [cut7 z ++ (⟨#[c]⟩ : Str)]) (.fr (chD c)) (by simp at hl ⊢; omega) (by simpa using h)
    rw [List.map_append] at this
    exact this
theorem inV_str (y : Str) : ∀ ws : List Str, inV (.str y) (ws.map V.str) = decide (y ∈ ws)
  | [] => rfl
  | w :: ws => by
    have ih := inV_str y ws
    unfold inV at ih ⊢
    rw [List.map_cons, List.any_cons, ih]
    show ((w == y) || decide (y ∈ ws)) = _
    by_cases e : w = y
    · subst e; simp
    · have e2 : ¬ y = w := fun z => e z.symm
      rw [beq_eq_false_iff_ne.mpr e]
      simp [e2]
theorem gIn_lst {neg : Bool} {y : Str} {ws : List Str} {P : Rs → Prop} (h : P (.dat (.bl (neg ^^ decide (y ∈ ws))))) : gIn neg (.str y) (.lst (ws.map .str)) P := by
  unfold gIn
  show (match fvs (ws.map D.str) with | some bs => P (.dat (.bl (neg ^^ inV (.str y) bs))) | none => False)
  rw [fvs_strs]
  show P (.dat (.bl (neg ^^ inV (.str y) (ws.map V.str))))
  rw [inV_str]
  exact h
theorem tst_in {ρ : TL.Env} {R : Bool → TL.Env → Prop} {y : Str} {ws : List Str} (h1 : ρ[10]? = some (.fr (.str y))) (h4 : ρ[4]? = some (.ls (ws.map .str))) (h : R (true ^^ decide (y ∈ ws)) ρ) : dTst (dBin (gIn true) (dVar 10) (dVar 4)) ρ R := by
  unfold dTst dBin dVar
  simp only [h1, h4]
  have e1 : val ρ (stl (.dat (.str y))) = some (.str y) := rfl
  have e2 : val ρ (.sl 4) = some (.lst (ws.map .str)) := by
    show (match ρ[4]? with | some (.ls xs) => some (D.lst xs) | some (.dc xs) => some (.dct xs) | _ => none) = _
    rw [h4]
  exact W2_mk e1 e2 (gIn_lst h)
theorem wl_new {ws : List Str} : ∀ (ys acc : List Str) (o : Sl), acc.length + ys.length ≤ 1000 →
    Q (.nw (.ls ((acc ++ ys.filter fun y => !decide (y ∈ ws)).map .str))) [s0, m, s2, pl, .ls (ws.map .str), k, w, j, n, l, frO ρ0[10]?] →
    dLcL (hName 10) (dTst (dBin (gIn true) (dVar 10) (dVar 4))) (dFrz (dVar 10)) [10] ρ0 (ys.map .str) (acc.map .str) [s0, m, s2, pl, .ls (ws.map .str), k, w, j, n, l, o] Q
  | [], acc, o, _, h => by
    have h' : Q (.nw (.ls (acc.map .str))) [s0, m, s2, pl, .ls (ws.map .str), k, w, j, n, l, frO ρ0[10]?] := by simpa using h
    exact h'
  | y :: ys, acc, o, hl, h => by
    show dTst (dBin (gIn true) (dVar 10) (dVar 4)) [s0, m, s2, pl, .ls (ws.map .str), k, w, j, n, l, .fr (.str y)] fun b ρ2 => if b = true then dFrz (dVar 10) ρ2 fun r ρ3 => (match stl r with
      | .dat x => (acc.map D.str).length < sizeLine ∧ dLcL (hName 10) (dTst (dBin (gIn true) (dVar 10) (dVar 4))) (dFrz (dVar 10)) [10] ρ0 (ys.map .str) (acc.map .str ++ [x]) ρ3 Q
      | _ => False)
      else dLcL (hName 10) (dTst (dBin (gIn true) (dVar 10) (dVar 4))) (dFrz (dVar 10)) [10] ρ0 (ys.map .str) (acc.map .str) ρ2 Q
    refine tst_in (y := y) (ws := ws) rfl rfl ?_
    refine ite2' (c := (true ^^ decide (y ∈ ws))) (fun e => ?_) (fun e => ?_)
    · refine ⟨fin_big (by rw [List.length_map]; simp at hl; omega), ?_⟩
      have ef : (y :: ys).filter (fun y => !decide (y ∈ ws)) = y :: ys.filter fun y => !decide (y ∈ ws) := List.filter_cons_of_pos (by rw [Bool.true_xor] at e; exact e)
      rw [ef] at h
      have := wl_new (ws := ws) ys (acc ++ [y]) (.fr (.str y)) (by simp at hl ⊢; omega) (by simpa using h)
      rw [List.map_append] at this
      exact this
    · have ef : (y :: ys).filter (fun y => !decide (y ∈ ws)) = ys.filter fun y => !decide (y ∈ ws) := List.filter_cons_of_neg (by rw [Bool.true_xor] at e; rw [e]; simp)
      rw [ef] at h
      exact wl_new (ws := ws) ys acc (.fr (.str y)) (by simp at hl ⊢; omega) h
end
section
variable {Q : Rs → TL.Env → Prop} {s0 m s2 pl fd k w j n l o : Sl}
theorem lc_new {ws : List Str} {ys : List Str} (hl : ys.length ≤ 1000) (h : Q (.nw (.ls ((ys.filter fun y => !decide (y ∈ ws)).map .str))) [s0, m, s2, pl, .ls (ws.map .str), k, w, j, .fr (.lst (ys.map .str)), l, frO (some o)]) :
    dLc (iSeq (dFrz (dVar 8))) (hName 10) (dTst (dBin (gIn true) (dVar 10) (dVar 4))) (dFrz (dVar 10)) [10] [s0, m, s2, pl, .ls (ws.map .str), k, w, j, .ls (ys.map .str), l, o] Q :=
  wl_new (Q := Q) (ρ0 := [s0, m, s2, pl, .ls (ws.map .str), k, w, j, .fr (.lst (ys.map .str)), l, o]) (s0 := s0) (m := m) (s2 := s2) (pl := pl) (k := k) (w := w) (j := j) (n := .fr (.lst (ys.map .str))) (l := l) (ws := ws) ys [] o (by simpa using hl) h
theorem lc_near {Z z : Str} (hZ : Z.cps.toList = lets) (hz : z.length ≤ 8) (h : Q (.nw (.ls ((lets.map fun c => cut7 z ++ (⟨#[c]⟩ : Str)).map .str))) [s0, m, .fr (.str Z), pl, fd, k, .fr (.str z), j, n, frO (some l), o]) :
    dLc (TL.iStr (dVar 2)) (hName 9) dYes (dBin gAdd (dSlice (dVar 6) dNoP (dPart (dC (.int 7)))) (dVar 9)) [9] [s0, m, .fr (.str Z), pl, fd, k, .fr (.str z), j, n, l, o] Q :=
  wl_near (Q := Q) (ρ0 := [s0, m, .fr (.str Z), pl, fd, k, .fr (.str z), j, n, l, o]) (s0 := s0) (m := m) (s2 := .fr (.str Z)) (pl := pl) (fd := fd) (k := k) (j := j) (n := n) (o := o) hz Z.cps.toList [] l (by rw [hZ, lets_len]; decide) (by rw [hZ]; exact h)
end
def rd_app : DTS := dDrop (dMethF 4 mAppend (dCons (dBin gIx (dLc (iSeq (dFrz (dVar 8))) (hName 10) (dTst (dBin (gIn true) (dVar 10) (dVar 4))) (dFrz (dVar 10)) [10]) (dC (.int 0))) dNil))
def rd_tail : DTS := dSeq (dSet 2 8 (dBin gAdd (dLst (dCons (dFrz (dVar 6)) dNil)) (dLc (TL.iStr (dVar 2)) (hName 9) dYes (dBin gAdd (dSlice (dVar 6) dNoP (dPart (dC (.int 7)))) (dVar 9)) [9]))) rd_app
section
variable {E : DEnds} {m k w j n l o : Sl} {pl : Sl} {ws : List Str}
theorem head_new (z : Str) (hz : Wd z) (ws : List Str) (hw : ws.length < 26) : ∃ x r, (nearW z).filter (fun y => !decide (y ∈ ws)) = x :: r ∧ Wd x ∧ x ∉ ws := by
  obtain ⟨y, hy, hn⟩ := near_new z ws hw
  have hf : ∃ x r, (nearW z).filter (fun y => !decide (y ∈ ws)) = x :: r := by
    cases e : (nearW z).filter (fun y => !decide (y ∈ ws)) with
    | nil =>
      have : y ∈ (nearW z).filter (fun y => !decide (y ∈ ws)) := List.mem_filter.mpr ⟨hy, by simpa using hn⟩
      rw [e] at this
      cases this
    | cons x r => exact ⟨x, r, rfl⟩
  obtain ⟨x, r, hx⟩ := hf
  have hm : x ∈ (nearW z).filter (fun y => !decide (y ∈ ws)) := by rw [hx]; exact List.mem_cons_self
  obtain ⟨m1, m2⟩ := List.mem_filter.mp hm
  exact ⟨x, r, hx, near_wd hz x m1, by simpa using m2⟩
theorem app_ok {Z z : Str} {b : Nat} (hz : Wd z) (hw : ws.length < 26) (h : ∀ (y : Str) (n l o : Sl), Wd y → y ∉ ws → E.nx [.rs (.st b), m, .fr (.str Z), pl, .ls (ws.map .str ++ [.str y]), k, .fr (.str z), j, n, l, o]) :
    rd_app E [.rs (.st b), m, .fr (.str Z), pl, .ls (ws.map .str), k, .fr (.str z), j, .ls ((nearW z).map .str), l, o] := by
  obtain ⟨x, r, hx, h1, h2⟩ := head_new z hz ws hw
  refine ⟨⟨_, rfl⟩, ?_⟩
  refine lc_new (ws := ws) (ys := nearW z) (by unfold nearW; rw [List.length_cons, List.length_map, lets_len]; decide) ?_
  rw [hx]
  dsimp only [dC]
  exact W2_mk rfl rfl (gIx_lst (atI_nat (j := 0) rfl) ⟨by rw [List.length_map]; exact fin_big (by omega), h x _ _ _ h1 h2⟩)
theorem tail_ok {Z z : Str} (hZ : Z.cps.toList = lets) {b : Nat} (hz : Wd z) (hw : ws.length < 26) (h : ∀ (y : Str) (n l o : Sl), Wd y → y ∉ ws → E.nx [.rs (.st b), m, .fr (.str Z), pl, .ls (ws.map .str ++ [.str y]), k, .fr (.str z), j, n, l, o]) :
    rd_tail E [.rs (.st b), m, .fr (.str Z), pl, .ls (ws.map .str), k, .fr (.str z), j, n, l, o] := by
  refine ⟨by have := line_big; show 1 ≤ sizeLine; omega, ?_⟩
  refine lc_near (z := z) hZ hz.all.2.1 ?_
  refine ⟨?_, by decide, ?_⟩
  · simp [lets_len]
    have := line_big
    omega
  · exact app_ok (z := z) hz hw h
end
end TL
namespace TL
open PySem PySem.Spec PyProof.Rows L2
def oneS (c : Nat) : Str := ⟨#[c]⟩
theorem gJoin_ch {cs : List Nat} {P : Rs → Prop} (hl : cs.length ≤ 1000) (h : P (.dat (.str (Txt.join "" (cs.map oneS))))) : gJoin (.str "") (.lst (cs.map chD)) P := by
  have e : cs.map chD = (cs.map oneS).map D.str := by rw [List.map_map]; rfl
  have es : ∀ cs : List Nat, ((cs.map oneS).map (·.length)).sum = cs.length := fun cs => by
    induction cs with
    | nil => rfl
    | cons c cs ih => rw [List.map_cons, List.map_cons, List.sum_cons, ih, List.length_cons]; show 1 + _ = _; omega
  rw [e]
  unfold gJoin
  simp only [txs_map]
  refine ⟨?_, h⟩
  rw [es]
  show cs.length + (cs.map oneS).length * 0 ≤ 16777216
  omega
section
variable {Q : Rs → TL.Env → Prop} {E : DEnds} {m k w j n l o fd : Sl} {pl : Sl} {ws : List Str}
theorem rangeD_len (lo : Int) (n : Nat) : (rangeD lo n).length = n := by unfold rangeD; rw [List.length_map, List.length_range]
end
theorem letsZ : ("abcdefghijklmnopqrstuvwxyz" : Str).cps.toList = lets := rfl
end TL
namespace TL
open PySem PySem.Spec PyProof.Rows L2
def isWord : D → Bool
  | .str x => decide (1 ≤ x.length) && decide (x.length ≤ 8) && x.cps.toList.all fun c => decide (c ∈ lets)
  | _ => false
def Lk (d : D) : Prop := Fine topN 100000 50 d
def Sp_is_word : DSp := fun args Q => ∃ d, args = [.fr d] ∧ Lk d ∧ Q (.dat (.bl (isWord d))) [.un]
def rd_is_word : DTS := (dSeq (dIf ((dOrT ((dNotT ((dTst ((dCB gIsi (dCons ((dVar 0)) (dCons ((dC (.ty "str"))) dNil)))))))) ((dNotT ((dTst (dChain gLe gLe (dC (.int 1)) ((dCB gLen (dCons ((dVar 0)) dNil))) ((dC (.int 8)))))))))) (dRet (dC (.bl false))) dNext)
      (dRet ((dCB gAll (dCons ((dLc (iStr ((dVar 0))) (hName 1) (dYes) ((dBin (gIn false) ((dVar 1)) ((dC (.str "abcdefghijklmnopqrstuvwxyz"))))) [1])) dNil)))))
theorem lk_len {x : Str} (h : Lk (.str x)) : x.length ≤ sizeLine := by
  have := h.len_str
  have := line_big
  omega
theorem word_loop {Q : Rs → TL.Env → Prop} {s0 : Sl} {ρ0 : TL.Env} : ∀ (cs : List Nat) (acc : List Bool) (o : Sl), acc.length + cs.length ≤ 8 →
    Q (.nw (.ls ((acc ++ cs.map fun c => (false ^^ strIn ⟨#[c]⟩ "abcdefghijklmnopqrstuvwxyz")).map .bl))) [s0, frO ρ0[1]?] →
    dLcL (hName 1) dYes (dBin (gIn false) (dVar 1) (dC (.str "abcdefghijklmnopqrstuvwxyz"))) [1] ρ0 (cs.map fun c => .str ⟨#[c]⟩) (acc.map .bl) [s0, o] Q
  | [], acc, o, _, h => by
    have h' : Q (.nw (.ls (acc.map .bl))) [s0, frO ρ0[1]?] := by simpa using h
    exact h'
  | c :: cs, acc, o, hl, h => by
    refine ⟨by rw [List.length_map]; have := line_big; simp at hl; omega, ?_⟩
    have := word_loop (Q := Q) (s0 := s0) (ρ0 := ρ0) cs (acc ++ [(false ^^ strIn ⟨#[c]⟩ "abcdefghijklmnopqrstuvwxyz")]) (.fr (.str ⟨#[c]⟩)) (by simp at hl ⊢; omega) (by simpa using h)
    rw [List.map_append] at this
    exact this
theorem all_lets (cs : List Nat) : (cs.map fun c => (false ^^ strIn ⟨#[c]⟩ "abcdefghijklmnopqrstuvwxyz")).all id = cs.all fun c => decide (c ∈ lets) := by
  rw [List.all_map]
  congr 1
  funext c
  show (false ^^ strIn ⟨#[c]⟩ "abcdefghijklmnopqrstuvwxyz") = _
  rw [Bool.false_xor, strIn_one]
  rfl
theorem sz0 : 0 ≤ sizeLine := Nat.zero_le _
theorem kd_is_word : Keeps Sp_is_word 1 2 rd_is_word := by
  rintro args Q h0 ⟨d, rfl, hd, h⟩
  clear h0
  have ok := hd.ok
  cases d with
  | str x =>
    have hl := lk_len hd
    have e : (x.cps.toList.length : Int) = x.length := by rw [Array.length_toList]; rfl
    simp [rd_is_word, dSeq, dIf, dOrT, dNotT, dTst, dRet, dCB, dCons, dVar, dC, dNil, vals, val, stl, WL, WB, gIsi, tyN, isT, subT, tyOk, fin1, dEnd, TL.ownsOf, own', List.range, List.range.loop, Sl.own, dChain, W2, gLen, gLe, gOrd, hl, dNext, dLc]
    by_cases h1 : 1 ≤ x.length
    · by_cases h2 : x.length ≤ 8
      · have g1 : (1 : Int) ≤ x.length := by omega
        have g2 : ¬ (8 : Int) < x.length := by omega
        simp only [g1, g2, decide_true, if_false]
        refine word_loop x.cps.toList [] .un (by rw [Array.length_toList]; show 0 + x.length ≤ 8; omega) ?_
        show (match bls (([] ++ x.cps.toList.map fun c => (false ^^ strIn ⟨#[c]⟩ "abcdefghijklmnopqrstuvwxyz")).map .bl) with | some bs => _ | none => False)
        rw [bls_map]
        have e2 : isWord (.str x) = (x.cps.toList.map fun c => (false ^^ strIn ⟨#[c]⟩ "abcdefghijklmnopqrstuvwxyz")).all id := by
          rw [all_lets]
          show (decide (1 ≤ x.length) && decide (x.length ≤ 8) && _) = _
          rw [decide_eq_true h1, decide_eq_true h2]
          rfl
        rw [e2] at h
        exact h
      · have g1 : (1 : Int) ≤ x.length := by omega
        have g2 : (8 : Int) < x.length := by omega
        simp only [g1, g2, decide_true, if_true]
        have e2 : isWord (.str x) = false := by
          show (decide (1 ≤ x.length) && decide (x.length ≤ 8) && _) = _
          rw [decide_eq_false h2, Bool.and_false]
          rfl
        rw [e2] at h
        exact h
    · have g1 : ¬ (1 : Int) ≤ x.length := by omega
      simp only [g1, decide_false]
      have e2 : isWord (.str x) = false := by
        show (decide (1 ≤ x.length) && decide (x.length ≤ 8) && _) = _
        rw [decide_eq_false h1]
        rfl
      rw [e2] at h
      exact h
  | obj _ _ => cases ok
  | ref _ => cases ok
  | ty _ => cases ok
  | scr _ => cases ok
  | _ =>
    simp [rd_is_word, dSeq, dIf, dOrT, dNotT, dTst, dRet, dCB, dCons, dVar, dC, dNil, vals, val, stl, WL, WB, gIsi, tyN, isT, subT, tyOk, fin1, dEnd, TL.ownsOf, own', List.range, List.range.loop, Sl.own]
    exact h
theorem isT_no {d : D} (ht : ∀ xs, d ≠ .tup xs) : isT "tuple" d = false := by
  cases d with
  | tup xs => exact absurd rfl (ht xs)
  | _ => first | rfl | decide | (show subT _ _ = false; decide)
theorem tyN_some {d : D} (h : Lk d) : (tyN d).isSome = true := by
  have ok := h.ok
  cases d <;> first | rfl | cases ok
theorem tyOk_t : tyOk "tuple" = true := by decide
def badC : List Nat → List D
  | [] => []
  | c :: cs => if (true ^^ strIn ⟨#[c]⟩ "abcdefghijklmnopqrstuvwxyz") = true then .str ⟨#[c]⟩ :: badC cs else badC cs
theorem word_loop2 {Q : Rs → TL.Env → Prop} {s0 : Sl} {ρ0 : TL.Env} : ∀ (cs : List Nat) (acc : List D) (o : Sl), acc.length + cs.length ≤ 8 → Q (.nw (.ls (acc ++ badC cs))) [s0, frO ρ0[1]?] →
    dLcL (hName 1) (dTst (dBin (gIn true) (dVar 1) (dC (.str "abcdefghijklmnopqrstuvwxyz")))) (dFrz (dVar 1)) [1] ρ0 (cs.map fun c => .str ⟨#[c]⟩) acc [s0, o] Q
  | [], acc, o, hl, h => by
    have h' : Q (.nw (.ls acc)) [s0, frO ρ0[1]?] := by simpa [badC] using h
    exact h'
  | c :: cs, acc, o, hl, h => by
    refine ite2' (c := (true ^^ strIn ⟨#[c]⟩ "abcdefghijklmnopqrstuvwxyz")) (fun e => ?_) (fun e => ?_)
    · refine ⟨by have := line_big; simp at hl; omega, ?_⟩
      refine word_loop2 cs (acc ++ [.str ⟨#[c]⟩]) (.fr (.str ⟨#[c]⟩)) (by simp at hl ⊢; omega) ?_
      have eb : badC (c :: cs) = .str ⟨#[c]⟩ :: badC cs := if_pos e
      rw [eb] at h
      simpa using h
    · refine word_loop2 cs acc (.fr (.str ⟨#[c]⟩)) (by simp at hl ⊢; omega) ?_
      have eb : badC (c :: cs) = badC cs := if_neg (by rw [e]; simp)
      rw [eb] at h
      exact h
theorem badC_empty (cs : List Nat) : (badC cs).isEmpty = cs.all fun c => decide (c ∈ lets) := by
  induction cs with
  | nil => rfl
  | cons c cs ih =>
    have hc : strIn ⟨#[c]⟩ "abcdefghijklmnopqrstuvwxyz" = decide (c ∈ lets) := strIn_one c _
    rw [List.all_cons, ← hc]
    cases e : strIn ⟨#[c]⟩ "abcdefghijklmnopqrstuvwxyz" with
    | true =>
      have eb : badC (c :: cs) = badC cs := if_neg (by rw [e]; simp)
      rw [eb, ih]
      rfl
    | false =>
      have eb : badC (c :: cs) = .str ⟨#[c]⟩ :: badC cs := if_pos (by rw [e]; rfl)
      rw [eb]
      rfl
def fineB (N w m : Nat) (d : D) : Bool := okD N d && (decide (wt d ≤ w) && decide (dp d ≤ m))
theorem fine_of {N w m : Nat} {d : D} (h : fineB N w m d = true) : Fine N w m d := by
  unfold fineB at h
  simp only [Bool.and_eq_true, decide_eq_true_eq] at h
  exact ⟨h.1, h.2.1, h.2.2⟩
theorem sz {n : Nat} (h : n ≤ 1000) : n ≤ sizeLine := Nat.le_of_lt (fin_big h)
theorem cp (i j : Int) (h0 : 0 ≤ j) (h1 : j ≤ 1000) (h2 : i = 10) : CPow i j := ⟨h0, by omega, by subst h2; decide⟩
theorem wne {ws : List Str} (h : ws ≠ []) : ws.map D.str ≠ [] := fun z => h (List.map_eq_nil_iff.mp z)
theorem okI_mono {N N' : Nat} {i : Int} (h : okI N i = true) (hN : N ≤ N') : okI N' i = true := decide_eq_true (Nat.le_trans (of_decide_eq_true h) hN)
mutual
theorem okD_mono {N N' : Nat} (hN : N ≤ N') : ∀ d : D, okD N d = true → okD N' d = true
  | .non, _ => rfl
  | .bl _, _ => rfl
  | .int i, h => okI_mono h hN
  | .str x, h => h
  | .tup xs, h => okL_mono hN xs h
  | .lst xs, h => okL_mono hN xs h
  | .dct kvs, h => okK_mono hN kvs h
  | .obj _ _, h => by cases h
  | .ref _, h => by cases h
  | .ty _, h => by cases h
  | .scr _, h => by cases h
theorem okL_mono {N N' : Nat} (hN : N ≤ N') : ∀ xs : List D, okL N xs = true → okL N' xs = true
  | [], _ => rfl
  | x :: xs, h => by
    have h' : okD N x = true ∧ okL N xs = true := by simpa [okL] using h
    show (okD N' x && okL N' xs) = true
    rw [okD_mono hN x h'.1, okL_mono hN xs h'.2]; rfl
theorem okK_mono {N N' : Nat} (hN : N ≤ N') : ∀ xs : List (Key × D), okK N xs = true → okK N' xs = true
  | [], _ => rfl
  | (k, v) :: xs, h => by
    have h' : okKey N k = true ∧ okD N v = true ∧ okK N xs = true := by simpa [okK] using h
    have hk : okKey N' k = true := by
      cases k with
      | inl i => exact okI_mono h'.1 hN
      | inr x => exact h'.1
    show (okKey N' k && (okD N' v && okK N' xs)) = true
    rw [hk, okD_mono hN v h'.2.1, okK_mono hN xs h'.2.2]; rfl
end
theorem Fine.big {N N' w m : Nat} {d : D} (h : Fine N w m d) (hN : N ≤ N') : Fine N' w m d := ⟨okD_mono hN d h.ok, h.lw, h.ld⟩
theorem FineL.big {N N' w m : Nat} {d : List D} (h : FineL N w m d) (hN : N ≤ N') : FineL N' w m d := ⟨okL_mono hN d h.ok, h.lw, h.ld⟩
theorem lk_of {N w m : Nat} {d : D} (h : Fine N w m d) (hN : N ≤ topN) (hw : w ≤ 100000) (hm : m ≤ 50) : Lk d := (h.big hN).mono hw hm
end TL
namespace TL
variable {np : Np}
open PySem PySem.Spec PyProof.Rows L2
def dTbL (w : World) (g : DTG) (tt : DTT) (tk tv : DTE) (vs : List Nat) (ρ0 : Env) : List D → List (D × Option Int) → Env → (Rs → Env → Prop) → Prop
  | [], ks, ρ, Q => Q (.nw (.rs (.tb w ks))) (resto ρ0 ρ vs)
  | d :: ds, ks, ρ, Q => g d (wipeE ρ vs) fun ρ1 => tt ρ1 fun b ρ2 => if b = true then tk ρ2 fun r ρ3 => (match r with
      | .dat x => tv ρ3 fun r2 ρ4 => (match r2 with
        | .dat y => (match koD y with
          | some o => KyOk x ∧ nkD x ∉ ks.map (fun y => nkD y.1) ∧ ks.length < sizeLine ∧ dTbL w g tt tk tv vs ρ0 ds (ks ++ [(x, o)]) ρ4 Q
          | none => False)
        | _ => False)
      | _ => False)
    else dTbL w g tt tk tv vs ρ0 ds ks ρ2 Q
def dTb (w : World) (ti : DTI) (g : DTG) (tt : DTT) (tk tv : DTE) (vs : List Nat) : DTE := fun ρ Q => ti ρ fun ds ρ1 => dTbL w g tt tk tv vs ρ1 ds [] ρ1 Q
theorem EnvW.ownD {K : PySem.W.Frag} {B : Bs} {G : Hp} {ω : Own} {ρ : Env} {σ : Stt} {H : Hp} (er : EnvW K B G ω ρ σ H) {D : Addr} (hω : ω D = none) (hg : G D = none) (hD : H D ≠ none) (d0 : B.A0 D ∨ B.H0 D = none) : EnvW K B G (tagd ω D σ.length) ρ σ H := by
  refine ⟨er.gle, er.g0, er.keep, fun a j q => ?_, er.len, fun j s q => ?_, er.pin⟩
  · unfold tagd at q
    split at q
    · rename_i ha
      subst ha
      cases q
      exact ⟨hg, hD, d0⟩
    · split at q
      · cases q
      · exact er.own a j q
  · refine (er.slot j s q).mono (.refl _) fun a z => ⟨?_, rfl⟩
    have hj : j < ρ.length := (List.getElem?_eq_some_iff.mp q).1
    have := er.len
    have ha : a ≠ D := fun w => by
      subst w
      rw [hω] at z
      cases z
    unfold tagd
    rw [if_neg ha, if_neg (fun w => by rw [z] at w; have := Option.some.inj w; omega)]
    exact z
section
variable {X : Cx} {tg iter kx vx : Expr} {ifs : List Expr} {scope : Scope} {own : List (Str × Nat)} {ti : DTI} {g : DTG} {tt : DTT} {tk tv : DTE} {ws : List Nat} {np : Np} {pos pos' : Pos}
theorem tb_ok' (hw : ∀ j ∈ ws, j ∈ own.map (·.2)) (σ : Stt) (H : Hp) (Q : VK) (h : lift X.K np (dTb X.w ti g tt tk tv (own.map (·.2))) σ H Q) :
    tTb X (liftI X.K np ti) (liftG X.K np ws g) (liftT X.K np tt) (lift X.K np tk) (lift X.K np tv) (own.map (·.2)) σ H Q := by
  obtain ⟨B, G, ρ, Qd, hn, eo, h, k⟩ := h
  refine ⟨B, G, ρ, _, hn, eo, h, fun G1 ds ρ1 H1 J s1 e1 it q1 D hD => ?_⟩
  generalize hvs : own.map (·.2) = vs at *
  obtain ⟨ω1, e1⟩ := e1
  have d0 : B.A0 D ∨ B.H0 D = none := e1.gone hD
  have hg1 : G1 D = none := Same.none e1.gle hD
  have hw1 : ω1 D = none := by
    cases q : ω1 D with
    | none => rfl
    | some i => exact absurd hD (e1.own D i q).2.1
  refine ⟨fun i m H => ∃ G' ω' ρ' xs ks, Same G1 G' ∧ EnvW X.K B G' ω' (wipeE ρ' vs) (wipe σ vs) H ∧ ω' D = none ∧ G' D = none ∧ H D = some (.ext (TbP X.w D xs)) ∧ TbR X.K G' xs ks ∧ m = ds.length - i ∧ i ≤ ds.length ∧ dTbL X.w g tt tk tv vs ρ1 (ds.drop i) ks ρ' Qd,
    ⟨ds.length, G1, ω1, ρ1, [], [], .refl _, (e1.poke (o := .ext (TbP X.w D [])) hw1 hg1 d0).wipe (.refl vs σ), hw1, hg1, upd_same, .nil, by simp, Nat.zero_le _, by rw [List.drop_zero]; exact q1⟩, ?_⟩
  rintro i m H2 ⟨G', ω', ρ', xs, ks, s', e', hw', hg', hD', tr, rfl, hi', q'⟩
  have ss := s1.trans s'
  by_cases hlt : i < ds.length
  · rw [List.drop_eq_getElem_cons hlt] at q'
    have gd : ds[i]? = some ds[i] := List.getElem?_eq_getElem hlt
    obtain ⟨hgo, hy⟩ := it.go i H2 ds[i] (fun a o q => e'.gle a o (s' a o q)) gd
    refine .inr ⟨hgo, fun H3 => ∃ G' ω' ρ' xs ks, Same G1 G' ∧ EnvW X.K B G' ω' (wipeE ρ' vs) (wipe σ vs) H3 ∧ ω' D = none ∧ G' D = none ∧ H3 D = some (.ext (TbP X.w D xs)) ∧ TbR X.K G' xs ks ∧ dTbL X.w g tt tk tv vs ρ1 (ds.drop (i + 1)) ks ρ' Qd,
      fun H3 ⟨G3, ω3, ρ3, xs3, ks3, s3, e3, z1, z2, z3, z4, q3⟩ => ⟨ds.length - (i + 1), by omega, G3, ω3, ρ3, xs3, ks3, s3, e3, z1, z2, z3, z4, rfl, hlt, q3⟩, fun x H3 y => ?_⟩
    have go : ∀ G3 ω3, Same G' G3 → EnvW X.K B G3 ω3 (wipeE ρ' vs) (wipe σ vs) H3 → Rp X.K G3 x ds[i] → ω3 D = none → G3 D = none → H3 D = some (.ext (TbP X.w D xs)) → liftG X.K np ws g x (wipe σ vs) H3 fun σ2 H4 => wipe σ2 vs = wipe σ vs ∧ liftT X.K np tt σ2 H4 fun b H5 =>
        if b = true then lift X.K np tk σ2 H5 fun y H6 => lift X.K np tv σ2 H6 fun z H7 => ∃ xs k b o, y = .ref b ∧ z = kvO o ∧ H7 D = some (.ext (TbP X.w D xs)) ∧ xs.length < sizeLine ∧ TbG X.K H7 xs ∧ NkH X.K H7 k (.ref b) ∧ k.depth ≤ 8 ∧ k ∉ xs.map (·.1) ∧
          (∃ G' ω' ρ' xs' ks', Same G1 G' ∧ EnvW X.K B G' ω' (wipeE ρ' vs) (wipe σ vs) (upd H7 D (.ext (TbP X.w D (xs ++ [(k, b, o)])))) ∧ ω' D = none ∧ G' D = none ∧ (upd H7 D (.ext (TbP X.w D (xs ++ [(k, b, o)])))) D = some (.ext (TbP X.w D xs')) ∧ TbR X.K G' xs' ks' ∧ dTbL X.w g tt tk tv vs ρ1 (ds.drop (i + 1)) ks' ρ' Qd)
        else ∃ G' ω' ρ' xs ks, Same G1 G' ∧ EnvW X.K B G' ω' (wipeE ρ' vs) (wipe σ vs) H5 ∧ ω' D = none ∧ G' D = none ∧ H5 D = some (.ext (TbP X.w D xs)) ∧ TbR X.K G' xs ks ∧ dTbL X.w g tt tk tv vs ρ1 (ds.drop (i + 1)) ks ρ' Qd := fun G3 ω3 s3 e3 r3 hw3 hg3 hD3 => by
      refine ⟨reB B G3 ω3 (wipeE ρ' vs).length H3, G3, wipeE ρ' vs, ds[i], _, hn.re e3, ⟨_, e3.rebase⟩, r3, q', fun ρ4 σ4 e4 o4 q4 => ?_⟩
      have ow : wipe σ4 vs = wipe σ vs := by
        rw [(o4.mono hw).wipe]
        apply List.ext_getElem?
        intro j
        rw [wipe_get, wipe_length, wipe_get]
        split <;> rfl
      refine ⟨ow, reB B G3 ω3 (wipeE ρ' vs).length H3, G3, ρ4, _, hn.re e3, e4, q4, fun G5 b ρ5 H5 s5 e5 q5 => ?_⟩
      cases b with
      | false =>
        obtain ⟨ω5, e5⟩ := e5
        obtain ⟨z1, z2, z3⟩ := e5.still hD3 hw3 hg3
        exact iteF ⟨G5, ω5, ρ5, xs, ks, (s'.trans s3).trans s5, (e3.back e5).wipe2 ow, z2, z3, z1, tr.mono (s3.trans s5), q5⟩
      | true =>
        refine iteT ⟨reB B G3 ω3 (wipeE ρ' vs).length H3, G5, ρ5, _, hn.re e3, e5, q5, fun G6 u r ρ6 H6 s6 f6 q6 => ?_⟩
        split at q6
        · rename_i dd
          obtain ⟨ω6, e6, r6⟩ := f6
          refine ⟨reB B G3 ω3 (wipeE ρ' vs).length H3, G6, ρ6, _, hn.re e3, ⟨ω6, e6⟩, q6, fun G7 u7 r7 ρ7 H7 s7 f7 q7 => ?_⟩
          split at q7
          · rename_i dv
            split at q7
            · rename_i o ho
              obtain ⟨ky, fresh, lz, q7⟩ := q7
              obtain ⟨ω7, e7, rr7⟩ := f7
              obtain ⟨z1, z2, z3⟩ := e7.still hD3 hw3 hg3
              have s37 := ((s3.trans s5).trans s6).trans s7
              have r6' : Rp X.K G7 u dd := Rp.mono s7 r6
              have tr7 := tr.mono s37
              obtain ⟨a, rfl⟩ : ∃ a, u = .ref a := by
                obtain ⟨ds', rfl⟩ := ky.tup
                cases r6' with
                | tup _ _ => exact ⟨_, rfl⟩
              exact ⟨xs, nkD dd, a, o, rfl, koD_rp ho rr7, z1, by rw [tr.len]; exact lz, tr7.good e7.gle, nk_rp e7.gle r6' ky.ky, ky.dp, by rw [tr.keys]; exact fresh,
                G7, ω7, ρ7, _, _, s'.trans s37, ((e3.back e7).poke z2 z3 d0).wipe2 ow, z2, z3, upd_same, tr7.app (.cons r6' ky .nil), q7⟩
            · exact q7.elim
          · exact q7.elim
        · exact q6.elim
    have hD2 : ∀ T, H2 T = none → D ≠ T := fun T hT z => by subst z; rw [hD'] at hT; cases hT
    rcases hy x H3 y with ⟨rfl, r2⟩ | ⟨T, wt, es, hT, rfl, rfl, ed, rr⟩ | ⟨T2, wt, fs, T, j, hT2, hT, rfl, rfl, ed, rr⟩
    · exact go G' ω' (.refl _) e' (r2.mono s') hw' hg' hD'
    · obtain ⟨sg, e2⟩ := e'.newG (o := .tup wt) hT
      exact go _ ω' sg e2 (by rw [ed]; exact .tup (.inl (.inl upd_same)) ((rr.mono s').mono sg)) hw' (by rw [upd_ne (hD2 T hT)]; exact hg') (by rw [upd_ne (hD2 T hT)]; exact hD')
    · obtain ⟨sg, e2⟩ := e'.newG (o := .tup wt) hT2
      obtain ⟨sg2, e3⟩ := e2.newG (o := .tup [.int j, .ref T2]) hT
      have n2 := hD2 T2 hT2
      have n1 : D ≠ T := fun z => by rw [← z, upd_ne n2, hD'] at hT; cases hT
      have n3 : T2 ≠ T := fun z => by rw [← z, upd_same] at hT; cases hT
      exact go _ ω' (sg.trans sg2) e3 (by rw [ed]; exact .tup (.inl (.inl upd_same)) (.cons (.int _) (.cons ((Rp.tup (.inl (.inl upd_same)) ((rr.mono s').mono sg)).mono sg2) .nil))) hw' (by rw [upd_ne n1, upd_ne n2]; exact hg') (by rw [upd_ne n1, upd_ne n2]; exact hD')
  · have ei : i = ds.length := by omega
    subst ei
    rw [List.drop_length] at q'
    refine .inl ⟨it.stop _ _ (fun a o q => e'.gle a o (s' a o q)) (Nat.le_refl _), ?_⟩
    have er := EnvW.resto (vs := vs) e1 s' e'
    have er2 : TL.resto ρ1 (wipeE ρ' vs) vs = TL.resto ρ1 ρ' vs := by
      apply List.ext_getElem?
      intro j
      rw [resto_get, resto_get, wipeE_get, wipeE_length]
      split
      · rfl
      · rfl
    rw [er2] at er
    obtain ⟨ωr, er, hωr⟩ : ∃ ωr, EnvW X.K B G' ωr (TL.resto ρ1 ρ' vs) σ H2 ∧ ωr D = none := ⟨_, er, by rw [hw']⟩
    exact k _ _ (.nw (.rs (.tb X.w ks))) _ _ ss ⟨tagd ωr D σ.length, er.ownD hωr hg' (by rw [hD']; simp) d0, rfl, .ref D, rfl, D, xs, rfl, tagd_same, hD', tr⟩ q'
theorem d_tb {kk : Nat} (hc : X.calm = true) (hu : X.A.units + 64 < cLine) (hN : X.N.Nodup) (hi : PI X tg iter (liftI X.K np ti)) (ok : BlkOk X.N X.env.scope scope own)
    (hg : ∀ (s : Shared) (H : Hp) (C : Addr) (cl : List (Str × Addr)) (fp : List Addr), PG (X.blk s H scope (compEnvC scope cl C X.env) fp) tg (liftG X.K np ws g)) (ht : ∀ (s : Shared) (H : Hp) (C : Addr) (cl : List (Str × Addr)) (fp : List Addr), PTs (X.blk s H scope (compEnvC scope cl C X.env) fp) ifs (liftT X.K np tt))
    (hk : ∀ (s : Shared) (H : Hp) (C : Addr) (cl : List (Str × Addr)) (fp : List Addr), PE (X.blk s H scope (compEnvC scope cl C X.env) fp) kx (lift X.K np tk))
    (he : ∀ (s : Shared) (H : Hp) (C : Addr) (cl : List (Str × Addr)) (fp : List Addr), PE (X.blk s H scope (compEnvC scope cl C X.env) fp) vx (lift X.K np tv)) (hw : ∀ j ∈ ws, j ∈ own.map (·.2) := by decide) (hs : ∀ x, foldedSetIterable iter X.env x = pure x := by intro _; rfl) :
    PE X (.DictComp kx vx [⟨tg, iter, ifs, 0⟩] scope pos) (lift X.K np (dTb X.w ti g tt tk tv (own.map (·.2)))) := (pe_tb hc hu hN hi ok hg ht hk he hs).mo fun σ H Q h => tb_ok' hw σ H Q h
end
section
variable {X : Cx} {tg iter kx vx : Expr} {ifs : List Expr} {scope : Scope} {own : List (Str × Nat)} {ti : DTI} {g : DTG} {tt : DTT} {tk tv : DTE} {ws : List Nat} {np : Np} {pos pos' : Pos} {x : Str} {xp apos cpos p : Pos}
theorem d_tbW (w : World) (e : X.w = w) (hc : X.calm = true) (hu : X.A.units + 64 < cLine) (hN : X.N.Nodup) (hi : PI X tg iter (liftI X.K np ti)) (ok : BlkOk X.N X.env.scope scope own)
    (hg : ∀ (s : Shared) (H : Hp) (C : Addr) (cl : List (Str × Addr)) (fp : List Addr), PG (X.blk s H scope (compEnvC scope cl C X.env) fp) tg (liftG X.K np ws g)) (ht : ∀ (s : Shared) (H : Hp) (C : Addr) (cl : List (Str × Addr)) (fp : List Addr), PTs (X.blk s H scope (compEnvC scope cl C X.env) fp) ifs (liftT X.K np tt))
    (hk : ∀ (s : Shared) (H : Hp) (C : Addr) (cl : List (Str × Addr)) (fp : List Addr), PE (X.blk s H scope (compEnvC scope cl C X.env) fp) kx (lift X.K np tk))
    (he : ∀ (s : Shared) (H : Hp) (C : Addr) (cl : List (Str × Addr)) (fp : List Addr), PE (X.blk s H scope (compEnvC scope cl C X.env) fp) vx (lift X.K np tv)) (hw : ∀ j ∈ ws, j ∈ own.map (·.2) := by decide) (hs : ∀ x, foldedSetIterable iter X.env x = pure x := by intro _; rfl) :
    PE X (.DictComp kx vx [⟨tg, iter, ifs, 0⟩] scope pos) (lift X.K np (dTb w ti g tt tk tv (own.map (·.2)))) := by subst e; exact d_tb (kk := 0) hc hu hN hi ok hg ht hk he hw hs
end
theorem kbn_mkN {K : PySem.W.Frag} {fx qual : Str} {st : Stmt} {f : Addr} {fd : FuncData} {ps ks : List Str} (n : Nat) (π : List Nat) (F : Fun K fx qual st f fd)
    (h : ∀ (kV doc pm : Value) (an : Option Addr) (cdv ct : Value) (us ws : List Value), us.length = n → ws.length = ks.length → bindArgs (PySem.W.fnOf fx qual (defArgs st) (defBody st) (defScope st) .none kV doc pm an cdv ct) ⟨us, ks.zip ws⟩ = pure (ps.zip (us ++ sel π ws))) :
    KBn K fd ps n ks (fun us ws => us ++ sel π ws) (fun us ws => us ++ sel π ws) := by
  obtain ⟨oc, od, kV, doc, pm, an, cdv, ct, osl, rfl, lk, hcd⟩ := F.ex
  exact ⟨fun s us ws _ l1 l2 => .of_eq (h kV doc pm an cdv ct us ws l1 l2), fun r1 r2 => r1.append (vals_sel r2 π)⟩
end TL
namespace SL
end SL
namespace SL
open PySem PySem.Spec PyProof.Rows L2 PySem.Calls
section
variable {X : Cx} {pins : List (Addr × Obj)} {σ : L2.St} {H : Hp} {s : Shared}
def Grew (P : Addr) (q : Str) (ps : Array Value) (c : Addr) (H H1 : Hp) : Prop :=
  (H1 = H ∧ ∃ pos, codeAmong pos ps.toList = some (.ref c)) ∨ ∃ qs : Array Value, H c = none ∧ H1 = upd (upd H P (.tbl qs)) c (LamX.CodeO c q) ∧ TriplesOk qs.toList ∧ ∀ pos cv, codeAmong pos qs.toList = some cv → codeAmong pos ps.toList = some cv ∨ cv = .ref c
end
theorem Grew.same {P : Addr} {q : Str} {ps : Array Value} {c : Addr} {H H1 : Hp} (g : Grew P q ps c H H1) {b : Addr} {o : HO} (hb : H b = some o) (hP : b ≠ P) : H1 b = some o := by
  rcases g with ⟨rfl, _⟩ | ⟨qs, hc, rfl, _⟩
  · exact hb
  · rw [upd_ne (ne_of_none hb hc), upd_ne hP]; exact hb
theorem Grew.ne {P : Addr} {q : Str} {ps : Array Value} {c : Addr} {H H1 : Hp} (g : Grew P q ps c H H1) (hP : H P = some (.tbl ps)) {b : Addr} {o : HO} (hb : H b = some o) (ho : ∀ ps, o ≠ .tbl ps) : H1 b = some o :=
  g.same hb fun z => by rw [z, hP] at hb; exact ho ps (Option.some.inj hb).symm
end SL
namespace TL
open PySem PySem.Spec PyProof.Rows L2 SL
section
variable {K : PySem.W.Frag} {B : Bs} {G : Hp} {ω : Own} {ρ : Env} {σ : Stt} {H H1 : Hp} {P c : Addr} {q : Str} {ps : Array Value}
theorem EnvW.grew (e : EnvW K B G ω ρ σ H) (hT : (P, q) ∈ B.T) (hu : ∀ p ∈ B.T, p.1 = P → p.2 = q) (known : ∀ pos cv, codeAmong pos ps.toList = some cv → ∃ c, cv = .ref c ∧ G c = some (LamX.CodeO c q)) (gr : Grew P q ps c H H1) : ∃ G', Same G G' ∧ EnvW K B G' ω ρ σ H1 := by
  rcases gr with ⟨rfl, _⟩ | ⟨qs, hc, rfl, tri, more⟩
  · exact ⟨G, .refl _, e⟩
  · obtain ⟨gP, wP, pp, hP⟩ := e.tab (a := P) ⟨q, hT⟩
    have gc := Same.none e.gle hc
    have sg : Same G (upd G c (LamX.CodeO c q)) := same_upd gc
    have cP : P ≠ c := fun z => by rw [z, hc] at hP; cases hP
    have at_ : ∀ a, a ≠ P → a ≠ c → upd (upd H P (.tbl qs)) c (LamX.CodeO c q) a = H a := fun a h1 h2 => by rw [upd_ne h2, upd_ne h1]
    have owned : ∀ {a : Addr} {i : Nat}, ω a = some i → a ≠ P ∧ a ≠ c := fun {a i} w => by
      refine ⟨fun z => ?_, fun z => (e.own a i w).2.1 (by rw [z]; exact hc)⟩
      rw [z, wP] at w
      cases w
    refine ⟨_, sg, ⟨fun a o w => ?_, fun a o w => ?_, ⟨fun a o w n t => ?_, e.keep.tin, fun r hr => ?_⟩, fun a i w => ?_, e.len, fun i s w => ?_, e.pin⟩⟩
    · by_cases ha : a = c
      · subst ha; rw [upd_same] at w ⊢; exact w
      · rw [upd_ne ha] at w
        rw [at_ a (fun z => by rw [z, gP] at w; cases w) ha]
        exact e.gle _ _ w
    · by_cases ha : a = c
      · subst ha
        rcases e.gone hc with z | z
        · exact .inr (.inr z)
        · exact .inr (.inl z)
      · rw [upd_ne ha] at w; exact e.g0 _ _ w
    · have ho := e.keep.old a o w n t
      rw [at_ a (fun z => t ⟨q, z ▸ hT⟩) (fun z => by rw [z, hc] at ho; cases ho)]
      exact ho
    · by_cases hr1 : r.1 = P
      · have hq := hu r hr hr1
        rw [hr1, hq]
        refine ⟨qs, by rw [upd_ne cP, upd_same], tri, fun pos cv z => ?_⟩
        rcases more pos cv z with z | z
        · obtain ⟨d, e1, e2⟩ := known pos cv z
          exact ⟨d, e1, sg _ _ e2⟩
        · exact ⟨c, z, upd_same⟩
      · obtain ⟨_, _, p2, h2⟩ := e.tab (a := r.1) ⟨r.2, hr⟩
        exact (e.keep.tabs r hr).mono sg (at_ r.1 hr1 fun z => by rw [z, hc] at h2; cases h2)
    · obtain ⟨n1, n2⟩ := owned w
      obtain ⟨h1, h2, h3⟩ := e.own a i w
      exact ⟨by rw [upd_ne n2]; exact h1, by rw [at_ a n1 n2]; exact h2, h3⟩
    · refine (e.slot i s w).mono sg fun a z => ?_
      obtain ⟨n1, n2⟩ := owned z
      exact ⟨z, at_ a n1 n2⟩
end
end TL
namespace TLH
open PySem PySem.Spec PyProof.Rows L2 TL
abbrev Fr := PySem.W.Frag
abbrev HeapF := Addr → Option Obj
def codeAt (K : Fr) (a : Addr) : Addr := match K.lookup a with
  | some ⟨_, _, .func fd, _⟩ => (match fd.code with
    | .ref c => c
    | _ => 0)
  | _ => 0
def tabAt (K : Fr) (a : Addr) : Addr := He.tabOf K (codeAt K a)
def tabsFine (g : HeapF) (ts : List (Fr → Addr)) (K : Fr) : Bool := ts.all fun t => PySem.W.codeHdIn K (codeAt K (t K)) (tabAt K (t K)) && ((g (tabAt K (t K))).map He.emptyTab).getD false
def seenY (fa : List He.Fa) (fn : List He5.DefA) (ts : List (Fr → Addr)) (ex : Fr → Bool) (g : HeapF) (K : Fr) : Bool × List He.FnW :=
  ((fa.all fun f => f.ok K) && ((fn.all fun d => d.ok K) && (ex K && tabsFine g ts K)), fn.map fun d => He5.fnA K (d.at_ K))
def dueY (fn : List He5.DefA) : Bool × List He.FnW := (true, fn.map He5.DefA.val)
structure SaysY (fa : List He.Fa) (fn : List He5.DefA) (ts : List (Fr → Addr)) (ex : Fr → Bool) (h : Heap) (K : Fr) : Prop where
  facts : ∀ f ∈ fa, f.ok K = true
  defs : ∀ d ∈ fn, ∃ fd, FunD K d.name d.qual d.params d.body d.scope (d.dvs K) (d.kws K) (d.at_ K) fd
  more : ex K = true
  codes : ∀ t ∈ ts, PySem.W.codeHdIn K (codeAt K (t K)) (tabAt K (t K)) = true
  apart : ∀ t ∈ ts, K.lookup (tabAt K (t K)) = none
  empty : ∀ t ∈ ts, h.get? (tabAt K (t K)) = some { cls := .none, data := .fields #[] }
theorem two {a b : Bool} (h : (a && b) = true) : a = true ∧ b = true := Bool.and_eq_true_iff.mp h
def getter (C m : Str) (K : Fr) : Addr := match PySem.W.recIn K (He.ma K (He.ga K C) m) "property" with
  | some (.ref g :: _) => g
  | _ => 0
def propB (K : Fr) (C m : Str) : Bool := decide (PySem.W.findIn K (.ref (He.ga K C)) m = some (some (.ref (He.ma K (He.ga K C) m)))) && (decide (PySem.W.specialIn K (.ref (He.ma K (He.ga K C) m)) "__get__" = some (some (.builtin "property.__get__"))) && (decide (PySem.W.takesIn K (.ref (He.ma K (He.ga K C) m)) = some true) &&
  (match PySem.W.recIn K (He.ma K (He.ga K C) m) "property" with
    | some (.ref _ :: _) => true
    | _ => false)))
theorem prop_of {K : Fr} {C m : Str} (h : propB K C m = true) : PropOf K (He.ga K C) m (He.ma K (He.ga K C) m) (getter C m K) := by
  obtain ⟨h1, h2⟩ := two h
  obtain ⟨h2, h3⟩ := two h2
  obtain ⟨h3, h4⟩ := two h3
  refine ⟨of_decide_eq_true h1, of_decide_eq_true h2, of_decide_eq_true h3, ?_⟩
  unfold getter
  split at h4
  · rename_i g rest q; rw [q]; exact ⟨rest, rfl⟩
  · cases h4
def mth (C m : Str) (K : Fr) : Addr := He.ma K (He.ga K C) m
mutual
def datB (K : Fr) : Nat → D → Value → Bool
  | 0, _, _ => false
  | _ + 1, .non, .none => true
  | _ + 1, .bl b, .bool c => b == c
  | _ + 1, .int i, .int j _ => decide (i = j)
  | _ + 1, .str x, .str y _ => decide (x = y)
  | n + 1, .tup ds, .ref a => match K.lookup a with
    | some ⟨.type c, none, .seq its _, _⟩ => decide (c = "tuple") && (decide (its.size ≤ sizeLine) && datsB K n ds its.toList)
    | _ => false
  | _ + 1, _, _ => false
def datsB (K : Fr) : Nat → List D → List Value → Bool
  | _, [], [] => true
  | n, d :: ds, u :: us => datB K n d u && datsB K n ds us
  | _, _, _ => false
end
mutual
theorem dat_of {K : Fr} : ∀ {n : Nat} {d : D} {u : Value}, datB K n d u = true → ∃ v, RelV v u ∧ ∀ G, Rp K G v d
  | 0, _, _, h => by unfold datB at h; cases h
  | n + 1, d, u, h => by
    unfold datB at h
    split at h
    · cases ‹_ = _›
    · exact ⟨.non, rfl, fun _ => .non⟩
    · rename_i b c _ _ _; rw [beq_iff_eq.mp h]; exact ⟨.bl _, rfl, fun _ => .bl _⟩
    · rename_i i j t _ _ _; rw [of_decide_eq_true h]; exact ⟨.int _, ⟨_, rfl⟩, fun _ => .int _⟩
    · rename_i x y t _ _ _; rw [of_decide_eq_true h]; exact ⟨.str _, ⟨_, rfl⟩, fun _ => .str _⟩
    · rename_i m ds a hm
      split at h
      · rename_i c its k sl q
        obtain ⟨h1, h0⟩ := two h
        obtain ⟨h2, h3⟩ := two h0
        have hm' : n = m := Nat.succ.inj hm
        subst hm'
        obtain ⟨vs, r1, r2⟩ := dats_of h3
        exact ⟨.ref a, rfl, fun G => .tup (.inr ⟨_, its, k, q, congrArg Value.type (of_decide_eq_true h1), rfl, of_decide_eq_true h2, r1⟩) (r2 G)⟩
      · cases h
    · cases h
theorem dats_of {K : Fr} : ∀ {n : Nat} {ds : List D} {us : List Value}, datsB K n ds us = true → ∃ vs, Vals vs us ∧ ∀ G, RpL K G vs ds
  | _, [], [], _ => ⟨[], .nil, fun _ => .nil⟩
  | n, d :: ds, u :: us, h => by
    unfold datsB at h
    obtain ⟨h1, h2⟩ := two h
    obtain ⟨v, r1, r2⟩ := dat_of h1
    obtain ⟨vs, r3, r4⟩ := dats_of h2
    exact ⟨v :: vs, .cons r1 r3, fun G => .cons (r2 G) (r4 G)⟩
  | _, [], _ :: _, h => by unfold datsB at h; cases h
  | _, _ :: _, [], h => by unfold datsB at h; cases h
end
def cstB (K : Fr) (x : Str) (d : D) : Bool := datB K 6 d (.ref (He.ga K x))
theorem cst_of {K : Fr} {x : Str} {d : D} (h : cstB K x d = true) : ∀ G, Rp K G (.ref (He.ga K x)) d := by
  obtain ⟨v, r, q⟩ := dat_of h
  cases v with
  | ref a => cases (show _ = Value.ref a from r); exact q
  | _ => first | (cases (show _ = _ from r); done) | (obtain ⟨_, z⟩ := r; cases z; done)
end TLH
namespace TLH
open PySem PySem.Spec PyProof.Rows L2 TL
abbrev Cd := Addr × Addr × Str
def tabsOf (cs : List Cd) : List (Addr × Str) := cs.map (·.2)
def isTb (cs : List Cd) (b : Addr) : Prop := ∃ t ∈ cs, t.2.1 = b
theorem entry {K : Fr} {cs : List Cd} {S : DSp} {H : Hp} {a : Addr} {ns : List Int} (sq : SqL K H a (ns.map V.int)) (na : ¬ isTb cs a) (tb : ∀ t ∈ cs, H t.2.1 = some (.tbl #[])) (h : S [.fr (.scr ns)] fun r _ => r = .dat (.bl true)) :
    toSp K (tabsOf cs) 1 S [.ref a] H (fun v _ => v = .bl true) fun _ _ _ => False := by
  classical
  let G : Hp := fun b => if isTb cs b then none else H b
  have gO : ∀ {b : Addr}, ¬ isTb cs b → G b = H b := fun n => if_neg n
  have gT : ∀ {b : Addr}, isTb cs b → G b = none := fun n => if_pos n
  have gle : Same G H := fun b o z => by
    by_cases t : isTb cs b
    · rw [gT t] at z; cases z
    · rw [gO t] at z; exact z
  have sqG : SqL K G a (ns.map V.int) := by
    rcases sq with (z | ⟨o, z⟩) | z
    · exact .inl (.inl ((gO na).trans z))
    · exact .inl (.inr ⟨o, (gO na).trans z⟩)
    · exact .inr z
  have tab : ∀ b, (∃ q, (b, q) ∈ tabsOf cs) → isTb cs b := fun b ⟨q, m⟩ => by
    obtain ⟨t, ht, e⟩ := List.mem_map.mp m
    exact ⟨t, ht, by rw [e]⟩
  refine ⟨G, fun _ => none, [.fr (.scr ns)], _, rfl, ⟨gle, fun _ _ z => .inl z, ⟨fun _ _ z _ _ => z, fun b t => ?_, fun p hp => ?_⟩, (fun b i z => by cases (show (none : Option Nat) = some i from z)), rfl, fun i s z => ?_, fun i s v z o p => ?_⟩, h, fun G' ω' v r args' H' s e rr _ q => ?_⟩
  · obtain ⟨t', ht, e⟩ := tab b t
    exact ⟨gT ⟨t', ht, e⟩, fun z => z rfl, #[], by rw [← e]; exact tb t' ht⟩
  · obtain ⟨t, ht, rfl⟩ := List.mem_map.mp hp
    refine ⟨#[], tb t ht, trivial, fun pos cv z => ?_⟩
    have z' : codeAmong pos [] = some cv := z
    simp [codeAmong] at z'
  · cases i with
    | zero => cases z; exact ⟨_, rfl, .scr sqG⟩
    | succ i => cases z
  · cases i with
    | zero => cases z; cases o
    | succ i => cases z
  · subst q
    cases rr
    rfl
section
variable {P : Program} {w : World} {K : Fr} {mg : Str → Option Value}
theorem law_callY {mb : Str → Option Value} {CX : CXT} {k : Nat} {fa a : Addr} {fd : FuncData} {x : Str} {S : DSp} {s1 : Shared} {vs : List Value} {ns : List Int} {cs : List Cd}
    (inK : K.In s1.heap) (nsM : s1.heap.Ns mainGlobals mg) (nsB : s1.heap.Ns builtinsNs mb) (agree : ∀ y : Str, y ≠ "__name__" → mb y = bootBuiltins y) (free : s1.heap.NoLimit) (bareG : s1.gens = #[])
    (emp : ∀ t ∈ cs, s1.heap.get? t.2.1 = some { cls := .none, data := .fields #[] }) (off : ∀ t ∈ cs, K.lookup t.2.1 = none) (cod : ∀ t ∈ cs, PySem.W.CodeHd s1.heap t.1 t.2.1)
    (bmod : ∃ (bm : Addr) (ob : Obj), mg "__builtins__" = some (.ref bm) ∧ bm ≠ builtinsNs ∧ s1.heap.get? bm = some ob ∧ ob.cls = .type "module" ∧ ob.dict = some builtinsNs ∧ ob.data = .plain)
    (at_ : s1.heap.get? a = some { cls := .type "list", data := .seq vs.toArray }) (ints_ : IntsAre vs ns) (few : ns.length ≤ sizeLine) (room : Room k callerA)
    (F : ∀ base : Heap, K.In base → base.Ns mainGlobals mg → (∀ t ∈ cs, LamX.TabB base mg t.1 t.2.1) → FnG P w K mg base CX k fa fd [x] (toSp K (tabsOf cs) 1 S)) (bt : ∀ (s : Shared) (u : Value), BindsTo s fd ⟨[u], []⟩ [(x, u)])
    (law : S [.fr (.scr ns)] fun r _ => r = .dat (.bl true)) (noX : ∀ H e s', CX [] H s1 (fun _ _ _ => False) e s' → False) :
    codeAny (model P w) callerA (.call (.ref fa) ⟨[.ref a], []⟩) (fun r s' => r = .ok (.ret (.bool true)) ∧ OldK s1.heap s'.heap ∧ s'.os = s1.os ∧ AllBare s'.gens) s1 := by
  classical
  have rel := vals_ints ints_
  have same := ints_.length
  have empB : ∀ {b : Addr}, isTb cs b → s1.heap.get? b = some { cls := .none, data := .fields #[] } := fun ⟨t, ht, e⟩ => by rw [← e]; exact emp t ht
  have na : ¬ isTb cs a := fun t => by
    have z := empB t
    rw [at_] at z
    cases congrArg Obj.data (Option.some.inj z)
  have main : ∀ H : Hp, (∀ t ∈ cs, H t.2.1 = some (.tbl #[])) → (∀ b, H b = none ∨ isTb cs b ∨ ∃ o xs, H b = some (.frz o (.lst xs))) → SqL K H a (ns.map V.int) → HOk P w H s1.heap → (∀ b, H b ≠ none → b = a ∨ isTb cs b) → (H a ≠ none → K.lookup a = none) →
      codeAny (model P w) callerA (.call (.ref fa) ⟨[.ref a], []⟩) (fun r s' => r = .ok (.ret (.bool true)) ∧ OldK s1.heap s'.heap ∧ s'.os = s1.os ∧ AllBare s'.gens) s1 := by
    intro H tbl only sq hok lone hid
    have up : ∀ {b : Addr} {o : Obj}, s1.heap.get? b = some o → H b = none → (hidT s1.heap H).get? b = some o := fun y z => hidT_get y z
    have offD : ∀ {b : Addr} {o : Obj}, s1.heap.get? b = some o → (∀ us n, o.data ≠ .seq us n) → o.data ≠ .fields #[] → H b = none := fun {b o} y d1 d2 => by
      cases z : H b with
      | none => rfl
      | some u =>
        rcases lone b (by rw [z]; simp) with rfl | t
        · rw [at_] at y; cases y; exact absurd rfl (d1 _ _)
        · rw [empB t] at y; cases y; exact absurd rfl d2
    have nsH : ∀ {b : Addr} {m : Str → Option Value}, s1.heap.Ns b m → (hidT s1.heap H).Ns b m := fun ⟨o, es, ep, y, dd, z⟩ =>
      ⟨o, es, ep, up y (offD y (fun _ _ q => by rw [dd] at q; cases q) fun q => by rw [dd] at q; cases q), dd, z⟩
    have inH : K.In (hidT s1.heap H) := fun b o y => up (inK b o y) (by
      cases z : H b with
      | none => rfl
      | some u =>
        rcases lone b (by rw [z]; simp) with rfl | ⟨t, ht, e⟩
        · rw [hid (by rw [z]; simp)] at y; cases y
        · rw [← e, off t ht] at y; cases y)
    have md : Mod K mg (hidT s1.heap H) := ⟨inH, nsH nsM, ⟨mb, nsH nsB, agree⟩, let ⟨mc, z1, z2⟩ := free; ⟨mc, nsH z1, z2⟩⟩
    have tbs : ∀ t ∈ cs, LamX.TabB (hidT s1.heap H) mg t.1 t.2.1 := fun t ht => by
      have here := emp t ht
      refine ⟨?_, ?_, fun z => ?_⟩
      · obtain ⟨o, us, file, tf, flags, tg, inF, text, tt, y, r1, r2, r3, r4, r5, r6, r7, r8, hne⟩ := cod t ht
        refine ⟨o, us, file, tf, flags, tg, inF, text, tt, up y (offD y (fun _ _ q => by rw [r2] at q; cases q) fun q => ?_), r1, r2, r3, r4, r5, r6, r7, r8, hne⟩
        rw [r2] at q
        cases q
        simp at r3
      · obtain ⟨bm, ob, b1, b2, b3, b4, b5, b6⟩ := bmod
        refine ⟨bm, ob, b1, b2, fun q => ?_, fun q => ?_, up b3 (offD b3 (fun _ _ q => by rw [b6] at q; cases q) fun q => by rw [b6] at q; cases q), b4, b5, b6⟩
        · obtain ⟨o, es, ep, y, dd, _⟩ := nsM
          rw [q, y] at b3
          cases b3
          rw [dd] at b6; cases b6
        · rw [q, here] at b3
          cases b3
          cases b6
      · obtain ⟨o, es, ep, y, dd, _⟩ := nsM
        rw [z, here] at y
        cases y
        cases dd
    have en : Env0 P w K mg (hidT s1.heap H) callerA [] s1 H :=
      ⟨rfl, md, fun b o y => of_hidT y, Nat.le_of_eq (hidT_size _ _), trivial, fun b hb => absurd (show b ∈ ([] : List Addr) from hb) (by simp), hok, .of_eq bareG⟩
    refine codeAny_mono ((F _ inH (nsH nsM) tbs).go callerA [] s1 H ⟨[.ref a], []⟩ [.ref a] [.ref a] _ _ rfl room en (bt s1 (.ref a)) (.cons rfl .nil) (entry sq na tbl law)) fun r s2 z => ?_
    cases r with
    | error ex => exact (noX H ex s2 z).elim
    | ok fl =>
      cases fl with
      | next => exact z.elim
      | brk => exact z.elim
      | cont => exact z.elim
      | ret u =>
        obtain ⟨v, H2, osq, bareq, unq, hok2, rv, hv⟩ := z
        obtain rfl : v = .bl true := hv
        obtain rfl : u = Value.bool true := rv
        have old : ∀ b o, ¬ isTb cs b → s1.heap.get? b = some o → s2.heap.get? b = some o := fun b o nt y => by
          cases z : H b with
          | none => exact unq.keep b o y z (by intro u; exact absurd (show b ∈ ([] : List Addr) from u) (by simp)) (by simp)
          | some u =>
            rcases only b with y2 | y2 | ⟨ob, xs, y2⟩
            · rw [z] at y2; cases y2
            · exact absurd y2 nt
            · have y3 := unq.frzs b ob _ y2
              obtain ⟨e1, _⟩ := hok b _ y2
              obtain ⟨e2, _⟩ := hok2 b _ y3
              rw [y] at e1
              cases e1
              exact e2
        have grown : ∀ t ∈ cs, ∃ more : Array Value, s2.heap.get? t.2.1 = some { cls := .none, data := .fields more } := fun t ht => by
          obtain ⟨more, q⟩ := unq.tbls t.2.1 #[] (tbl t ht)
          exact ⟨_, hok2 t.2.1 _ q⟩
        refine ⟨rfl, ⟨fun b o y => ?_, fun b o y => ?_⟩, osq, bareq⟩
        · by_cases t : isTb cs b
          · obtain ⟨u, hu, rfl⟩ := t
            obtain ⟨more, q⟩ := grown u hu
            rw [emp u hu] at y
            cases y
            exact .inr (.inl ⟨((cod u hu).tab (emp u hu)).isCodeTable, rfl, #[], more, rfl, by rw [Array.empty_append]; exact q⟩)
          · exact .inl (old b o t y)
        · by_cases t : isTb cs b
          · obtain ⟨u, hu, rfl⟩ := t
            obtain ⟨more, q⟩ := grown u hu
            exact ⟨_, q⟩
          · exact ⟨o, old b o t y⟩
  have tbI : ∀ t ∈ cs, isTb cs t.2.1 := fun t ht => ⟨t, ht, rfl⟩
  let T0 : Hp := fun b => if isTb cs b then some (.tbl #[]) else none
  cases inMod : K.lookup a with
  | some o =>
    have y := inK a o inMod
    rw [at_] at y
    cases y
    refine main T0 (fun t ht => if_pos (tbI t ht)) (fun b => ?_) (.inr ⟨_, vs.toArray, _, inMod, rfl, rfl, rfl, by rw [List.size_toArray, same]; exact few, by simpa using rel⟩) (fun b u z => ?_) (fun b z => ?_) fun z => absurd (if_neg na) z
    · by_cases t : isTb cs b
      · exact .inr (.inl t)
      · exact .inl (if_neg t)
    · by_cases t : isTb cs b
      · cases (if_pos t).symm.trans z; exact empB t
      · cases (if_neg t).symm.trans z
    · by_cases t : isTb cs b
      · exact .inr t
      · exact absurd (if_neg t) z
  | none =>
    let H1 : Hp := fun b => if b = a then some (.frz { cls := .type "list", data := .seq vs.toArray } (.lst (ns.map V.int))) else T0 b
    have off1 : ∀ {b : Addr}, b ≠ a → H1 b = T0 b := fun n => if_neg n
    have on1 : H1 a = some (.frz { cls := .type "list", data := .seq vs.toArray } (.lst (ns.map V.int))) := if_pos rfl
    refine main H1 (fun t ht => ?_) (fun b => ?_) (.inl (.inr ⟨_, on1⟩)) (fun b u z => ?_) (fun b z => ?_) fun _ => inMod
    · exact (off1 fun e => na (e ▸ tbI t ht)).trans (if_pos (tbI t ht))
    · by_cases e : b = a
      · subst e; exact .inr (.inr ⟨_, _, on1⟩)
      · by_cases t : isTb cs b
        · exact .inr (.inl t)
        · exact .inl ((off1 e).trans (if_neg t))
    · by_cases e : b = a
      · subst e
        rw [on1] at z
        cases z
        exact ⟨at_, by rw [List.length_map]; exact few, vs, _, rel, at_⟩
      · rw [off1 e] at z
        by_cases t : isTb cs b
        · cases (if_pos t).symm.trans z; exact empB t
        · cases (if_neg t).symm.trans z
    · by_cases e : b = a
      · exact .inl e
      · rw [off1 e] at z
        by_cases t : isTb cs b
        · exact .inr t
        · exact absurd (if_neg t) z
end
structure LawAt (l : PySem.W.OpenLaw) (w : World) (CX : CXT) (k n : Nat) (x : Str) (mg : Str → Option Value) (fa : Addr) (h : Heap) (K : Fr) (fd : FuncData) (cs : List Cd) (S : DSp) : Prop where
  emp : ∀ t ∈ cs, h.get? t.2.1 = some { cls := .none, data := .fields #[] }
  off : ∀ t ∈ cs, K.lookup t.2.1 = none
  cod : ∀ t ∈ cs, PySem.W.CodeHd h t.1 t.2.1
  bt : ∀ (s : Shared) (u : Value), BindsTo s fd ⟨[u], []⟩ [(x, u)]
  law : ∀ ns : List Int, ns.length ≤ n → S [.fr (.scr ns)] fun r _ => r = .dat (.bl true)
  F : ∀ base : Heap, K.In base → base.Ns mainGlobals mg → (∀ t ∈ cs, LamX.TabB base mg t.1 t.2.1) → FnG l.prog w K mg base CX k fa fd [x] (toSp K (tabsOf cs) 1 S)
theorem walk_ofY {l : PySem.W.OpenLaw} {n k : Nat} {q : Program} {loose : List Str} {XP : (Str → Option Value) → Heap → Prop} {YP : World → Heap → Prop} {d : DefRec} {CX : World → CXT} {x : Str}
    (most : l.most = some n) (fits : n ≤ sizeLine) (plainD : d.params.defaults = []) (room : Room k callerA)
    (F : ∀ (w : World) (mg : Str → Option Value) (fa : Addr) (h : Heap), YP w h → h.Ns mainGlobals mg → mg d.name = some (.ref fa) → ∃ (K : Fr) (fd : FuncData) (cs : List Cd) (S : DSp), K.In h ∧ LawAt l w (CX w) k n x mg fa h K fd cs S)
    (noX : ∀ (w : World) (H : Hp) (s : Shared) (e : Value) (s' : Shared), CX w [] H s (fun _ _ _ => False) e s' → False) :
    PySem.W.WalkO q loose XP YP l.row.toRowW d [] (fun f vs => PySem.call f vs) := by
  refine Att.attach_call most plainD fun w s0 s1 mg mb fa o pm cd doc a vs ns G Y ho hd hcd at_mg obj_ ints_ len_ bareG => ?_
  obtain ⟨K, fd, cs, S, inK, Z⟩ := F w mg fa _ Y G.T.g at_mg
  exact law_callY inK G.T.g G.T.b G.T.builtins G.T.nolimit bareG Z.emp Z.off Z.cod G.T.bmain obj_ ints_ (Nat.le_trans len_ fits) room Z.F Z.bt (Z.law ns len_) fun H e s2 => noX w H s1 e s2
theorem law_binds {K : Fr} {x qual : Str} {st : Stmt} {f : Addr} {fd : FuncData} {a : Str} (F : Fun K x qual st f fd)
    (h : ∀ (kV doc pm : Value) (an : Option Addr) (cdv ct : Value) (u : Value), bindArgs (PySem.W.fnOf x qual (defArgs st) (defBody st) (defScope st) .none kV doc pm an cdv ct) ⟨[u], []⟩ = pure [(a, u)]) (s : Shared) (v : Value) : BindsTo s fd ⟨[v], []⟩ [(a, v)] := by
  obtain ⟨oc, od, kV, doc, pm, an, cdv, ct, osl, rfl, lk, hcd⟩ := F.ex
  exact .of_eq (h kV doc pm an cdv ct v)
theorem codeAt_eq {K : Fr} {f c : Addr} {oc : Value} {od : Option Addr} {osl : Array (Option Value)} {fd : FuncData} (lk : K.lookup f = some ⟨oc, od, .func fd, osl⟩) (e : fd.code = .ref c) : codeAt K f = c := by
  unfold codeAt
  rw [lk]
  show (match fd.code with | .ref c => c | _ => 0) = c
  rw [e]
end TLH
namespace TLH
open PySem PySem.Spec PyProof.Rows L2 TL
theorem saysZ {fa : List He.Fa} {fn : List He5.DefA} {ts : List (Fr → Addr)} {ex : Fr → Bool} {h : Heap} {as : List Addr} (e : seenY fa fn ts ex h.get? (He.frT h.get? as) = dueY fn) : SaysY fa fn ts ex h (He.frT h.get? as) := by
  generalize hK : He.frT h.get? as = K at e
  have e1 := congrArg Prod.fst e
  have e2 := congrArg Prod.snd e
  obtain ⟨b1, b2⟩ := two e1
  obtain ⟨b3, b4⟩ := two b2
  obtain ⟨b5, b6⟩ := two b4
  have tb : ∀ t ∈ ts, PySem.W.codeHdIn K (codeAt K (t K)) (tabAt K (t K)) = true ∧ ∃ o, h.get? (tabAt K (t K)) = some o ∧ He.emptyTab o = true := fun t ht => by
    obtain ⟨z1, z2⟩ := two (List.all_eq_true.mp b6 t ht)
    refine ⟨z1, ?_⟩
    cases q : h.get? (tabAt K (t K)) with
    | none => rw [q] at z2; cases z2
    | some o => rw [q] at z2; exact ⟨o, rfl, z2⟩
  refine ⟨List.all_eq_true.mp b1, fun d hd => ?_, b5, fun t ht => (tb t ht).1, fun t ht => ?_, fun t ht => ?_⟩
  · obtain ⟨i, hi, rfl⟩ := List.mem_iff_getElem.mp hd
    have z : (fn.map fun d => He5.fnA K (d.at_ K))[i]? = (fn.map He5.DefA.val)[i]? := congrArg (fun l => l[i]?) e2
    rw [List.getElem?_map, List.getElem?_map, List.getElem?_eq_getElem hi] at z
    exact He5.DefA.funD (Option.some.inj z) (List.all_eq_true.mp b3 _ hd)
  · obtain ⟨_, o, q, z⟩ := tb t ht
    rw [← hK] at q ⊢
    exact He.frT_none q z
  · obtain ⟨_, o, q, z⟩ := tb t ht
    rw [q, He.emptyTab_eq z]
def hookZ (as : List Addr) (fa : List He.Fa) (fn : List He5.DefA) (ts : List (Fr → Addr)) (ex : Fr → Bool) : PySem.W.Hook where
  α := Bool × List He.FnW
  obs := fun s => seenY fa fn ts ex s.heap.get? (He.frT s.heap.get? as)
  val := fun _ => dueY fn
  says := fun _ h => ∃ K : Fr, K.In h ∧ SaysY fa fn ts ex h K
  of := fun _ _ e => ⟨_, He.frT_in, saysZ e⟩
  keeps := fun _ _ _ ⟨K, inK, c⟩ up => ⟨K, inK.keeps up, c.facts, c.defs, c.more, c.codes, c.apart, fun t ht => up _ _ (c.empty t ht)⟩
def seenZ (as : List Addr) (fa : List He.Fa) (fn : List He5.DefA) (ts : List (Fr → Addr)) (ex : Fr → Bool) (s : PySem.W.SharedT) : Bool × List He.FnW := seenY fa fn ts ex (HandSHeadRun.getT s) (He.frT (HandSHeadRun.getT s) as)
theorem seenZ_eq {as : List Addr} {fa : List He.Fa} {fn : List He5.DefA} {ts : List (Fr → Addr)} {ex : Fr → Bool} (s : PySem.W.SharedT) : seenZ as fa fn ts ex s = (hookZ as fa fn ts ex).obs s.abs := by
  have e : HandSHeadRun.getT s = s.abs.heap.get? := funext (HandSHeadRun.getT_eq s)
  unfold seenZ
  rw [e]
  rfl
end TLH
namespace L2
end L2
namespace TL
variable {np : Np}
open PySem PySem.Spec PyProof.Rows L2
def isMut : D → Bool
  | .lst _ => true
  | .dct _ => true
  | _ => false
def gOIn (neg : Bool) (C : Addr) (S : DSp) : DOp2 := fun x y P => match y with
  | .obj C' gs => C' = C ∧ isMut x = false ∧ S [.fr (.obj C gs), .fr x] fun r _ => ∃ c : Bool, r = .dat (.bl c) ∧ P (.dat (.bl (neg ^^ c)))
  | _ => False
def valD (kvs : List (Key × D)) (k : Key) : Option D := (kvs.find? fun kv => decide (kv.1 = k)).map (·.2)
def putKD (kvs : List (Key × D)) (k : Key) (d : D) : List (Key × D) :=
  if (kvs.any fun kv => decide (kv.1 = k)) = true then kvs.map (fun kv => if kv.1 = k then (kv.1, d) else kv) else kvs ++ [(k, d)]
def mergeD (kvs more : List (Key × D)) : List (Key × D) := more.foldl (fun acc kv => putKD acc kv.1 kv.2) kvs
inductive OpR2 (K : PySem.W.Frag) (G : Hp) : Option V → Option D → Prop
  | none : OpR2 K G none none
  | some {v : V} {d : D} : Rp K G v d → OpR2 K G (some v) (some d)
section
variable {K : PySem.W.Frag} {G : Hp}
theorem RpK.val (k : Key) : ∀ {kvs : List (Key × V)} {ds : List (Key × D)}, RpK K G kvs ds → OpR2 K G (valV kvs k) (valD ds k)
  | _, _, .nil => .none
  | _, _, .cons (k := k') (v := v) (d := d) (kvs := kvs) (ds := ds) h r => by
    by_cases e : k' = k
    · rw [valV_pos e, show valD ((k', d) :: ds) k = some d from by simp [valD, List.find?_cons, e]]
      exact .some h
    · rw [valV_neg e, show valD ((k', d) :: ds) k = valD ds k from by simp [valD, List.find?_cons, e]]
      exact r.val k
theorem RpK.any (k : Key) : ∀ {kvs : List (Key × V)} {ds : List (Key × D)}, RpK K G kvs ds → (kvs.any fun kv => decide (kv.1 = k)) = ds.any fun kv => decide (kv.1 = k)
  | _, _, .nil => rfl
  | _, _, .cons h r => by rw [List.any_cons, List.any_cons, r.any k]
theorem RpK.repl (k : Key) {v : V} {d : D} (h0 : Rp K G v d) : ∀ {kvs : List (Key × V)} {ds : List (Key × D)}, RpK K G kvs ds → RpK K G (kvs.map fun kv => if kv.1 = k then (kv.1, v) else kv) (ds.map fun kv => if kv.1 = k then (kv.1, d) else kv)
  | _, _, .nil => .nil
  | _, _, .cons (k := k') (v := v') (d := d') (kvs := kvs) (ds := ds) h r => by
    rw [List.map_cons, List.map_cons]
    by_cases e : k' = k
    · rw [if_pos e, if_pos e]
      exact .cons h0 (r.repl k h0)
    · rw [if_neg e, if_neg e]
      exact .cons h (r.repl k h0)
theorem RpK.snoc {k : Key} {v : V} {d : D} (h0 : Rp K G v d) : ∀ {kvs : List (Key × V)} {ds : List (Key × D)}, RpK K G kvs ds → RpK K G (kvs ++ [(k, v)]) (ds ++ [(k, d)])
  | _, _, .nil => .cons h0 .nil
  | _, _, .cons h r => .cons h (r.snoc h0)
theorem RpK.put (k : Key) {v : V} {d : D} (h0 : Rp K G v d) {kvs : List (Key × V)} {ds : List (Key × D)} (r : RpK K G kvs ds) : RpK K G (putK kvs k v) (putKD ds k d) := by
  unfold putK putKD
  rw [r.any k]
  split
  · exact r.repl k h0
  · exact r.snoc h0
end
def gKy : DOp2 := fun x y P => match x, y with
  | .dct kvs, .str k => (match valD kvs (.inr k) with | some d => P (.dat d) | none => False)
  | _, _ => False
end TL
namespace L2
end L2
namespace TL
variable {np : Np}
open PySem PySem.Spec PyProof.Rows L2
theorem OpR2.getD {K : PySem.W.Frag} {G : Hp} {o : Option V} {o' : Option D} {v : V} {d : D} (z : OpR2 K G o o') (r : Rp K G v d) : Rp K G (o.getD v) (o'.getD d) := by
  cases z with
  | none => exact r
  | some z => exact z
def dDGet (i : Nat) (t : DTA) : DTE := fun ρ Q => (∃ xs, ρ[i]? = some (.dc xs)) ∧ t ρ fun rs ρ1 => match ρ1[i]?, datL rs with
  | some (.dc kvs), some [.str k, x] => Q (.dat ((valD kvs (.inr k)).getD x)) ρ1
  | _, _ => False
def dDUpd (i : Nat) (t : DTA) : DTE := fun ρ Q => (∃ xs, ρ[i]? = some (.dc xs)) ∧ t ρ fun rs ρ1 => match ρ1[i]?, datL rs with
  | some (.dc xs), some [.dct ys] => xs.length + ys.length ≤ sizeLine ∧ Q (.dat .non) (ρ1.set i (.dc (mergeD xs ys)))
  | _, _ => False
end TL
namespace HT
end HT
namespace L2
end L2
namespace TL
variable {np : Np}
open PySem PySem.Spec PyProof.Rows L2
section
variable {X : Cx} {e : Expr} {t : DTE} {pos : Pos}
def gTwo : DOp1 := fun x P => match x with
  | .tup [a, _, c] => P (.dat (.tup [a, c]))
  | _ => False
end
def dApp (n : Nat) (π : List Nat) (m : Nat) (t u : DTA) : DTA := fun ρ Q => t ρ fun rs ρ1 => u ρ1 fun zs ρ2 => rs.length = n ∧ zs.length = m ∧ Q (rs ++ sel π zs) ρ2
section
variable {X : Cx} {CX : CXT} {kk n m : Nat} {C f : Addr} {fd : FuncData} {ps ks : List Str} {S : DSp} {E : XK} {x : Str} {p pos : Pos} {e : Expr} {es : List Expr} {kws : List Keyword} {t u : DTA} {π : List Nat}
theorem ArgsOk.monoG {K : PySem.W.Frag} {G G' : Hp} {σ : Stt} (s : Same G G') : ∀ {vs : List V} {rs : List Rs}, ArgsOk K G σ vs rs → ArgsOk K G' σ vs rs
  | _, _, .nil => .nil
  | _, _, .cons a r => .cons (by cases a with | dat h => exact .dat (h.mono s) | sl h => exact .sl h) (ArgsOk.monoG s r)
theorem ArgsOk.appd {K : PySem.W.Frag} {G : Hp} {σ : Stt} : ∀ {vs ws : List V} {rs zs : List Rs}, ArgsOk K G σ vs rs → ArgsOk K G σ ws zs → ArgsOk K G σ (vs ++ ws) (rs ++ zs)
  | _, _, _, _, .nil, z => z
  | _, _, _, _, .cons a r, z => .cons a (ArgsOk.appd r z)
theorem liftA_app {K : PySem.W.Frag} {σ : Stt} {H : Hp} {R : List V → Hp → Prop} (h : liftA K np (dApp n π m t u) σ H R) : liftA K np t σ H fun vs H1 => liftA K np u σ H1 fun zs H2 => vs.length = n ∧ zs.length = m ∧ R (vs ++ sel π zs) H2 := by
  obtain ⟨B, G, ρ, Qd, hn, eo, h, k⟩ := h
  refine ⟨B, G, ρ, _, hn, eo, h, fun G1 vs rs ρ1 H1 s1 e1 ar q => ⟨B, G1, ρ1, _, hn, e1, q, fun G2 ws zs ρ2 H2 s2 e2 ar2 q2 => ?_⟩⟩
  obtain ⟨l1, l2, q2⟩ := q2
  exact ⟨by rw [ar.length]; exact l1, by rw [ar2.length]; exact l2, k _ _ _ _ _ (s1.trans s2) e2 (ArgsOk.appd (ArgsOk.monoG s2 ar) (ar2.sel π)) q2⟩
end
end TL
namespace ZE
open PySem PySem.Spec PyProof.Rows
open Builtin.SmallTypes (ownedTupleIsFree ownedTupleHandOut nextOf)
def Si (b : Bool) (h : Heap) (a : Addr) (items : Array Value) : Prop := match b with
  | true => h.IsList a items
  | false => h.IsTuple a items
def Ii (b : Bool) (h : Heap) (i a : Addr) (k : Nat) : Prop := match b with
  | true => h.IsListIter i a k
  | false => h.IsTupleIter i a k
def Oi (b : Bool) (a : Addr) : Obj := match b with
  | true => { cls := .type "list_iterator", data := .fields #[.ref a, .int 0 0] }
  | false => { cls := .type "tuple_iterator", data := .fields #[.ref a, .int 0 0] }
theorem Si.ext {b : Bool} {h h' : Heap} {a : Addr} {items : Array Value} (x : Si b h a items) (k : ∀ o, h.get? a = some o → h'.get? a = some o) : Si b h' a items := by
  cases b
  · exact Heap.IsTuple.at (show h.IsTuple a items from x) k
  · exact Heap.IsList.at (show h.IsList a items from x) k
theorem Ii.ext {b : Bool} {h h' : Heap} {i a : Addr} {k : Nat} (x : Ii b h i a k) (e : ∀ o, h.get? i = some o → h'.get? i = some o) : Ii b h' i a k := by
  cases b
  · exact Heap.IsTupleIter.at (show h.IsTupleIter i a k from x) e
  · exact Heap.IsListIter.at (show h.IsListIter i a k from x) e
theorem Si.lt {b : Bool} {h : Heap} {a : Addr} {items : Array Value} (x : Si b h a items) : a < h.objs.size := by
  cases b
  · obtain ⟨o, ho, _⟩ := (show h.IsTuple a items from x)
    exact Heap.lt_size ho
  · obtain ⟨o, ho, _⟩ := (show h.IsList a items from x)
    exact Heap.lt_size ho
theorem Ii.first {b : Bool} {h : Heap} {i a : Addr} (e : h.get? i = some (Oi b a)) : Ii b h i a 0 := by
  cases b
  · exact ⟨_, e, rfl, rfl⟩
  · exact ⟨_, e, rfl, rfl⟩
end ZE
namespace ZE
end ZE
namespace L2
open PySem PySem.Spec PyProof.Rows ZE
def Sq (b : Bool) (K : PySem.W.Frag) (H : Hp) (a : Addr) (xs : List V) : Prop := match b with
  | true => SqL K H a xs
  | false => SqT K H a xs
section
variable {X : Cx} {pins : List (Addr × Obj)} {σ : St} {H : Hp} {s : Shared} {b : Bool} {a : Addr} {xs ys : List V}
theorem Sq.at_ (I : Inv X pins σ H s) (h : Sq b X.K H a xs) : ∃ its : List Value, Vals xs its ∧ Si b s.heap a its.toArray := by
  cases b
  · obtain ⟨its, rv, p, _⟩ := I.tuple h
    exact ⟨its, rv, p⟩
  · obtain ⟨its, rv, p, _⟩ := I.list h
    exact ⟨its, rv, p.isList⟩
theorem Sq.inj (I : Inv X pins σ H s) (h : Sq b X.K H a xs) (h' : Sq b X.K H a ys) : xs = ys := by
  cases b
  · exact I.tuple_inj h h'
  · exact I.list_inj h h'
end
end L2
namespace ZE
end ZE
namespace L2
end L2
namespace TL
end TL
namespace L2
end L2
namespace TL
end TL
namespace TL
open PySem PySem.Spec PyProof.Rows L2
section
variable {K : PySem.W.Frag} {B : Bs} {G : Hp} {ω : Own} {ρ : Env} {σ : Stt} {H : Hp}
theorem Fin.more {v : V} {r : Rs} (f : Fin K B G ρ σ H v r) {p : Addr} {o : HO} (hp : H p = none) : Fin K B G ρ σ (upd H p o) v r := by
  obtain ⟨ω, e, h⟩ := f
  have e' : EnvW K B G ω ρ σ (upd H p o) := e.grow (.refl _) (same_upd hp) (fun b u z => same_upd hp _ _ (e.gle _ _ z)) fun b u z => .inl z
  refine ⟨ω, e', ?_⟩
  cases r with
  | dat d => exact h
  | sl i => exact h
  | nw s =>
    refine ⟨h.1, h.2.mono (.refl _) fun a z => ⟨z, ?_⟩⟩
    have := (e.own a _ z).2.1
    exact upd_ne (fun w => this (by rw [w]; exact hp))
end
end TL
namespace TX
open PySem PySem.Spec PyProof.Rows L2
open TL (exv)
theorem exv_ok {P : Program} {w : World} {H : Hp} {h : Heap} {a : Addr} {cls : Value} {d : Option Addr} {oe : Obj} {vs : Array Value} (e : h.get? a = some oe) (z : Zc cls d oe) (hd : oe.data = .fields vs) : ObjOk P w H h a (exv a cls d) :=
  ⟨⟨oe, vs, e, z, hd⟩, ⟨oe, e⟩, fun _ _ ⟨o, v, q, r⟩ k => ⟨o, v, k o q, r⟩⟩
theorem exv_at {P : Program} {w : World} {H : Hp} {h : Heap} {a : Addr} {cls : Value} {d : Option Addr} (hok : HOk P w H h) (he : H a = some (exv a cls d)) : ∃ (oe : Obj) (vs : Array Value), h.get? a = some oe ∧ Zc cls d oe ∧ oe.data = .fields vs := by
  have x : ObjOk P w H h a (.ext fun h => ∃ (oe : Obj) (vs : Array Value), h.get? a = some oe ∧ Zc cls d oe ∧ oe.data = .fields vs) := hok a _ he
  exact x.1
section
variable {X : Cx} {pins : List (Addr × Obj)} {σ : L2.St} {H : Hp} {s : Shared}
theorem unsuite {a : Addr} {q : Addr × Obj} {pn' : List (Addr × Obj)} (I : Inv (X.suite a (q :: (X.pn ++ pins))) pn' σ H s) (ok : X.Ok) : Inv X (q :: pins) σ H s :=
  ⟨ok, I.os, I.bare, I.base, I.loc, I.cell, I.free, I.freeC, fun p hp => I.pin p (List.mem_append_left _ (by
    rcases List.mem_append.mp hp with h | h
    · exact List.mem_cons_of_mem _ (List.mem_append_left _ h)
    · rcases List.mem_cons.mp h with h | h
      · rw [h]; exact List.mem_cons_self
      · exact List.mem_cons_of_mem _ (List.mem_append_right _ h))), I.hok, I.len⟩
theorem untry {q : Addr × Obj} (I : Inv X (q :: pins) σ H s) : Inv X pins σ H s :=
  ⟨I.ok, I.os, I.bare, I.base, I.loc, I.cell, I.free, I.freeC, fun p hp => I.pin p (by
    rcases List.mem_append.mp hp with h | h
    · exact List.mem_append_left _ h
    · exact List.mem_append_right _ (List.mem_cons_of_mem _ h)), I.hok, I.len⟩
theorem keepX {a : Addr} {oe : Obj} {cls : Value} {d : Option Addr} {vs : Array Value} (I : Inv X ((a, oe) :: pins) σ H s) (z : Zc cls d oe) (hd : oe.data = .fields vs) (h0 : X.s_0.heap.get? a = none) (hx : ∀ p ∈ X.pn ++ pins, p.1 ≠ a) : Inv X pins σ (upd H a (exv a cls d)) s := by
  obtain ⟨ha, na, nL, nF, nc⟩ := I.pin (a, oe) (List.mem_append_right _ List.mem_cons_self)
  have ha : s.heap.get? a = some oe := ha
  have na : H a = none := na
  have ne0 : ∀ b o, X.s_0.heap.get? b = some o → b ≠ a := fun b o e z => by rw [z, h0] at e; cases e
  have ncell : ∀ x c, X.env.cells.lookup x = some c → c ≠ a := fun x c e z => by
    obtain ⟨v, o, ho, hc⟩ := I.cell x c e
    rw [z, ha] at ho
    cases ho
    exact nc v hc
  refine ⟨I.ok, I.os, I.bare, ⟨I.base.keep, I.base.slot, fun b o e n hb => ?_, I.base.there, fun b xs e => ?_, fun b o u e => ?_, fun b ps e => ?_⟩, I.loc, I.cell, ?_, fun x c e => ?_, fun p hp => ?_, fun b o e => ?_, I.len⟩
  · rw [upd_ne (ne0 b o e)]
    exact I.base.free b o e n hb
  · have q := I.base.tups b xs e
    rw [upd_ne (fun z => by rw [z, na] at q; cases q)]
    exact q
  · have q := I.base.frzs b o u e
    rw [upd_ne (fun z => by rw [z, na] at q; cases q)]
    exact q
  · obtain ⟨m, q⟩ := I.base.tbls b ps e
    exact ⟨m, by rw [upd_ne (fun z => by rw [z, na] at q; cases q)]; exact q⟩
  · rw [upd_ne (Ne.symm nL)]
    exact I.free
  · rw [upd_ne (ncell x c e)]
    exact I.freeC x c e
  · obtain ⟨h1, h2, h3⟩ := (untry I).pin p hp
    exact ⟨h1, by rw [upd_ne (hx p hp)]; exact h2, h3⟩
  · by_cases hb : b = a
    · subst hb
      rw [upd_same] at e
      cases e
      exact exv_ok ha z hd
    · rw [upd_ne hb] at e
      exact (I.hok b o e).stay (fun c v _ q => q) (fun c q => by rw [upd_ne (ne_of_none q na)]; exact q) fun c xs q => by rw [upd_ne (ne_of_none q na)]; exact q
end
def wAsK (K : PySem.W.Frag) (c : Value) (i : Nat) (ts : Addr → Value → Option Addr → TS) (Wout : WX) (D : Ends) : WX := fun cls d σ H => ∃ b, PySem.W.exmOne K cls c = some b ∧
  (b = true → ∀ a, H a = none → ts a cls d { nx := fun σ' H' => D.nx (σ'.set i none) (upd H' a (exv a cls d)), rt := fun v H' => D.rt v (upd H' a (exv a cls d)), bk := fun σ' H' => D.bk (σ'.set i none) (upd H' a (exv a cls d)), ct := fun σ' H' => D.ct (σ'.set i none) (upd H' a (exv a cls d)) } (σ.set i (some (.ref a))) H) ∧ (b = false → Wout cls d σ H)
section
variable {X : Cx} {pins : List (Addr × Obj)} {σ : L2.St} {H : Hp} {s s' : Shared}
theorem toTry (I : Inv X pins σ H s) (xe : Value → Shared → Prop) : Inv (X.tr (X.pn ++ pins) xe) [] σ H s := I.toTry xe
theorem ofTry {pn' : List (Addr × Obj)} {xe : Value → Shared → Prop} (I : Inv (X.tr (X.pn ++ pins) xe) pn' σ H s) (ok : X.Ok) : Inv X pins σ H s := I.ofTry ok
end
section
variable {X : Cx} {x n : Str} {c : Value} {i : Nat} {body suite9 : List Stmt} {b₀ : Stmt} {np pos pos' : Pos} {tb : WX → TS} {ts : Addr → Value → Option Addr → TS} {Wout : WX}
theorem ps_try_keep (hx : X.ex = []) (hs : X.stack = X.env :: X.outer) (hf : X.env.frame = some X.env.locals) (hN : X.N.Nodup)
    (hi : X.N[i]? = some n) (hln : X.env.kindOf n = some .local) (hc : Names X x c) (tk : Takes X Wout)
    (hb : ∀ (W : WX) (pn : List (Addr × Obj)) (xe : Value → Shared → Prop), Takes (X.tr pn xe) W → PassesOwn (model X.prog X.w) X.A X.env xe →
      PSs (X.tr pn xe) body (tb W))
    (hsu : ∀ (a : Addr) (oe : Obj) (cls : Value) (d : Option Addr) (pn : List (Addr × Obj)), Zc cls d oe → (∃ vs, oe.data = .fields vs) →
      PSs (X.suite a ((a, oe) :: pn)) (b₀ :: suite9) (ts a cls d)) :
    PS X (.Try body [.ExceptHandler (some (.Name x np)) (some n) (b₀ :: suite9) pos'] [] [] pos) (fun D σ H => tb (wAsK X.K c i ts Wout D) D σ H) := by
  refine ⟨fun ps0 s σ H D I h => ?_⟩
  have okX := I.ok
  have hfs : X.A.frames = some (X.env :: X.outer) := by rw [okX.frames, hs]
  have hlc : Loc X.env.scope n := .inl hln
  refine wpAny_Try_except ?_
  refine wpAny_mono ((hb (wAsK X.K c i ts Wout D) (X.pn ++ ps0) (fun e s₁ => wpAny (model X.prog X.w) X.A (noteFrame e X.env) (fun _ s₂ => wpAny (model X.prog X.w) X.A (setFlight e none) (fun _ s₃ =>
    wpAny (model X.prog X.w) X.A (handleBy e X.env [.ExceptHandler (some (.Name x np)) (some n) (b₀ :: suite9) pos']) (SP X ps0 D) X.xe s₃) X.xe s₂) X.xe s₁) (fun u s' hxx => ?_) PassesOwn.looking).run [] s σ H D (toTry I _) h) (fun f s1 hq9 => ?_) (fun e s1 he => he)
  ·
    obtain ⟨a, B, sI, pins', σ', H', cls, d, rfl, J', nb, up, sk, na, os, ag, b, hb1, hyes, hno⟩ := hxx
    have J : Inv X ps0 σ' H' sI := ofTry J' okX
    have sk1 : Sky B (X.env :: X.outer) a (Zc cls d) X.env.locals s'.heap := by rw [← hs]; exact sk
    show wpAny (model X.prog X.w) X.A (noteFrame (.ref a) X.env) _ _ _
    refine Sky.land Zc.steady hfs hf sk1 fun h3 fly3 ut3 => ?_
    have I3 : Inv X ps0 σ' H' { s' with heap := h3 } := J.landed nb fly3.1 (up.trans ut3) os ag
    obtain ⟨oe3, vs3, ge3, gz3, gd3⟩ := fly3.there
    have noFr : ∀ {h : Heap} {o : Obj} {vs : Array Value}, h.FunFrames B (X.env :: X.outer) → h.get? a = some o → o.data = .fields vs → a ∉ frs (X.env :: X.outer) := fun {h o vs} ff e dd hm => by
      obtain ⟨_, o', e', hnf⟩ := ff.mem hm
      rw [e] at e'; cases e'
      exact hnf _ dd
    have nfq := noFr fly3.2.2.1 ge3 gd3
    have noL : a ≠ X.env.locals := fun z => nfq (List.mem_filterMap.mpr ⟨X.env, List.mem_cons_self, by rw [hf, z]⟩)
    have noF : a ∉ X.fs := fun hm => by
      obtain ⟨e, he, q⟩ := List.mem_filterMap.mp hm
      exact nfq (List.mem_filterMap.mpr ⟨e, List.mem_cons_of_mem _ he, q⟩)
    have U3 := I3.suite ge3 gd3 na noL noF
    refine wpAny_handleBy_cons (codeAny_handlers_test ?_) (by intro q; cases q)
    have lookT : PySem.W.Looks (model X.prog X.w) h3 (typeOf (.ref a)) cls := fun A Q E s k q => wpAny_typeOf_ref (k _ _ ge3) (by rw [gz3.1]; exact q)
    have lookM := PySem.W.exm_one (M := model X.prog X.w) (I3.kIn) lookT hb1
    have told : ∀ {Q : Value → Shared → Prop} {E : Value → Shared → Prop}, Q c { s' with heap := h3 } → wpAny (model X.prog X.w) (X.A.mark (some (.ref a))) (eval (.Name x np) X.env) Q E { s' with heap := h3 } := fun {Q E} q => by
      obtain ⟨hg, hdbg, hm | ⟨hm, hv, hnn⟩⟩ := hc
      · exact ld_glob (X := X.suite a ((a, oe3) :: (X.pn ++ ps0))) U3 hg hm q hdbg
      · exact ld_blt (X := X.suite a ((a, oe3) :: (X.pn ++ ps0))) U3 hg hm hv q hnn hdbg
    refine told (lookM.here ?_)
    cases b with
    | true =>
      refine codeAny_handlers_suite_as ?_
      refine HandSPX.lands_againZ fly3 fun h4 fly4 ut4 => ?_
      have I4 : Inv X ps0 σ' H' { s' with heap := h4 } := J.landed nb fly4.1 ((up.trans ut3).trans ut4) os ag
      obtain ⟨oe4, vs4, ge4, gz4, gd4⟩ := fly4.there
      have U4 := I4.suite ge4 gd4 na noL noF
      have nI : sI.heap.get? a = none := by
        cases e : sI.heap.get? a with
        | none => rfl
        | some o =>
          have z := nb a o e (by rw [hs]; exact nfq)
          rw [fly4.2.1] at z
          cases z
      have n0 : X.s_0.heap.get? a = none := by
        cases e : X.s_0.heap.get? a with
        | none => rfl
        | some o =>
          obtain ⟨o', z⟩ := J.base.there a o e (by rw [hx]; exact fun z => nomatch z)
          rw [nI] at z
          cases z
      have nP : ∀ p ∈ X.pn ++ ps0, p.1 ≠ a := fun p hp z => by
        have q := (J.pin p hp).1
        rw [z, nI] at q
        cases q
      refine store_ok (X := X.suite a ((a, oe4) :: (X.pn ++ ps0))) (v := .ref a) U4 hN hi hlc rfl (fun s5 U5 => ?_) (.inr hln)
      refine wpAny_mono ((hsu a oe4 cls d (X.pn ++ ps0) gz4 ⟨_, gd4⟩).run [] s5 _ H' _ U5 (hyes rfl a na)) (fun f z6 hq9 => ?_) (fun _ _ z => False.elim z)
      have fin_ : ∀ {τ6 : L2.St} {G6 : Hp} {Q : Shared → Prop}, Inv (X.suite a ((a, oe4) :: (X.pn ++ ps0))) [] τ6 G6 z6 → (∀ z7, Inv X ps0 (τ6.set i none) (upd G6 a (exv a cls d)) z7 → Q z7) →
          wpAny (model X.prog X.w) X.A (do bindName X.env n .none; unbindBehindTheSuite X.env n pos') (fun _ z7 => Q z7) X.xe z6 := fun {τ6 G6 Q} U6 hq => gone_ok (unsuite U6 okX) hN hi hln fun z7 I7 => hq z7 (keepX I7 gz4 gd4 n0 nP)
      cases f with
      | next =>
        obtain ⟨τ6, G6, U6, q6⟩ := hq9
        exact fin_ U6 fun z7 I7 => ⟨_, _, I7, q6⟩
      | brk =>
        obtain ⟨τ6, G6, U6, q6⟩ := hq9
        exact fin_ U6 fun z7 I7 => ⟨_, _, I7, q6⟩
      | cont =>
        obtain ⟨τ6, G6, U6, q6⟩ := hq9
        exact fin_ U6 fun z7 I7 => ⟨_, _, I7, q6⟩
      | ret u =>
        obtain ⟨v6, τ6, G6, U6, r6, q6⟩ := hq9
        exact fin_ U6 fun z7 I7 => ⟨_, _, _, I7, r6, q6⟩
    | false =>
      show wpAny _ X.A (handleBy (.ref a) X.env []) _ _ _
      refine wpAny_handleBy_nil ?_
      obtain ⟨k1, k2, k3, oe, vs, T, oT, ts', he, hz, hd, h1, hr⟩ := id fly3
      unfold PySem.passOn
      refine wpAny_bind (wpAny_field he hd h1 ?_)
      rw [if_neg (show ¬ ((Value.ref T == Value.none) = true) from by simp)]
      have fin : wpAny (model X.prog X.w) X.A (setFlight (.ref a) X.env.frame) (fun _ s4 => wpAny (model X.prog X.w) X.A (throw (.ref a) : Sem Flow) (SP X ps0 D) X.xe s4) X.xe { s' with heap := h3 } := by
        rw [hf]
        refine HandSPX.setFlight_upZ fly3 fun h4 hh4 ut4 => wpAny_throw (tk _ _ ?_)
        exact ⟨a, B, sI, ps0, σ', H', cls, d, rfl, J, nb, (up.trans ut3).trans ut4, .inr (.inr (by rw [hs]; exact hh4)), na, os, ag, hno rfl⟩
      first
        | exact wpAny_bind (wpAny_pure (wpAny_bind fin))
        | exact wpAny_bind fin
  · cases f with
    | next =>
      obtain ⟨σ', H', J', q⟩ := hq9
      exact wpAny_execs_nil ⟨σ', H', ofTry J' okX, q⟩
    | brk =>
      obtain ⟨σ', H', J', q⟩ := hq9
      exact ⟨σ', H', ofTry J' okX, q⟩
    | cont =>
      obtain ⟨σ', H', J', q⟩ := hq9
      exact ⟨σ', H', ofTry J' okX, q⟩
    | ret u =>
      obtain ⟨v, σ', H', J', r, q⟩ := hq9
      exact ⟨v, σ', H', ofTry J' okX, r, q⟩
end
end TX
namespace TXW
open PySem PySem.Spec PySem.Calls PyProof.Rows PySem.W
section
variable {prog : Program} {w : World} {A : Around} {E : Value → Shared → Prop} {s : Shared} {K : Frag} {x D : Addr} {ox : Obj}
theorem findObj_dataX {C : Addr} {od : Option Obj} {name : Str} {a g : Value} (cC : (clsIn K C).isSome = true) (aA : findIn K (.ref C) name = some (some a)) (gG : specialIn K a "__get__" = some (some g)) (tT : takesIn K a = some true) : findObj K C od name = some (.bind g a) := by
  obtain ⟨cd, cC⟩ := Option.isSome_iff_exists.mp cC
  unfold findObj
  rw [cC, Option.bind_some, aA, Option.bind_some]
  simp [gG, tT]
theorem kin_classX {od : Option Obj} {Q : Option Value → Shared → Prop} (gA : findIn K (.ref D) "__getattribute__" = some (some (.builtin "BaseException.__getattribute__"))) (gT : findIn K (.ref D) "__getattr__" = some none) (sB : subIn K (.ref D) (.type "BaseException") = some true)
    (dT : hasDictIn K D = true) (aA : findIn K (.ref D) "__class__" = some (some (.builtin "object.__class__")))
    (nG : specialIn K (.builtin "object.__class__") "__get__" = some (some (.builtin "getset_descriptor.__get__"))) (tK : takesIn K (.builtin "object.__class__") = some true) (mO : mroIn K D (.type "object") = some true)
    (X : K.In s.heap) (I : InstAt s.heap x ox D od) (h : Q (some (.ref D)) { s with toks := s.toks + 1 }) : wpAny (model prog w) A (getAttr? (.ref x) "__class__") Q E s := by
  have fO : findObj K D od "__class__" = some (.bind (.builtin "getset_descriptor.__get__") (.builtin "object.__class__")) := findObj_dataX (by obtain ⟨cd, cC, _⟩ := any_some dT; rw [cC]; rfl) aA nG tK
  obtain ⟨hp, g, d, t, os⟩ := s
  have K0 := I.type (M := model prog w)
  have K1 := looks_findIn (M := model prog w) X gA
  have K2 := looks_findIn (M := model prog w) X gT
  have K3 := looks_find (M := model prog w) X I fO
  have sbT : Looks (model prog w) hp (isInstance (.ref x) (.type "BaseException")) true := K0.andThen (looks_subIn X sB)
  have x0 : (false && onTheHeap (Value.builtin "BaseException.__getattribute__")) = false := rfl
  have x2 : (Value.builtin "BaseException.__getattribute__" == Value.builtin "object.__getattribute__") = false := by decide +kernel
  have x1 : (onTheHeap (Value.ref D) && Value.builtin "BaseException.__getattribute__" == Value.builtin "object.__getattribute__") = false := by rw [x2]; rfl
  unfold getAttr? getAttrBy? getAttrBy
  refine wpAny_bind (wpAny_mkText (wpAny_bind (wpAny_attempt (wpAny_holding (wpAny_bind (K0.at (wpAny_bind (K1.at ?_))))))))
  show wpAny _ _ (if (onTheHeap (Value.ref D) && Value.builtin "BaseException.__getattribute__" == Value.builtin "object.__getattribute__") = true then _ else _) _ _ _
  rw [x1, if_neg Bool.false_ne_true]
  unfold getAttrByItsOwn hookBefore
  refine wpAny_bind ?_
  rw [if_pos (show onTheHeap (Value.ref D) = true from rfl)]
  refine K2.at ?_
  refine wpAny_bind (wpAny_attempt (wpAny_holding ?_))
  unfold callGetattribute
  rw [x0, if_neg Bool.false_ne_true]
  unfold boundAndCalled
  rw [PySem.F.excAttr_ValueError.ga.bind (.ref x)]
  refine wpAny_bind (wpAny_pure ?_)
  show wpAny _ _ (call (.builtin "BaseException.__getattribute__") [.ref x, .str "__class__" t]) _ _ _
  refine wpAny_call (codeAny_call_builtin PySem.F.excAttr_ValueError.ga.plain PySem.F.entry_bexc_ga ?_)
  refine @check_slot (model prog w) _ _ ⟨hp, g, d, t + 1, os⟩ "BaseException.__getattribute__" "BaseException" "__getattribute__" (.ref x) [.str "__class__" t] [] _ (by decide +kernel) (by decide +kernel) sbT (PySem.F.args_bexc_ga (.ref x) (.str "__class__" t)) ?_
  unfold Builtin.«object.__getattribute__»
  refine wpAny_bind (wpAny_of_eq (a := ((Value.ref x : Value), [Value.str "__class__" t])) (by first | rfl | (simp only [slotArgs]; rfl)) ?_)
  refine wpAny_bind (wpAny_pure (wpAny_bind (K0.at (wpAny_bind (K3.at ?_)))))
  show wpAny _ _ (holding [Value.builtin "object.__class__"] (call (.builtin "getset_descriptor.__get__") [.builtin "object.__class__", .ref x, .ref D]) >>= ret) _ _ _
  refine wpAny_bind (wpAny_holding (wpAny_call (class_get (s := ⟨hp, g, d, t + 1, os⟩) (ox := ox) (od := od) X I mO ?_)))
  refine wpAny_pure ?_
  show wpAny _ _ (handedOut (.ref D)) _ _ _
  rw [handedOut_of (v := .ref D) rfl]
  first
    | exact wpAny_pure (wpAny_pure h)
    | exact wpAny_pure h
    | exact wpAny_pure (wpAny_bind (wpAny_pure (wpAny_pure h)))
theorem kitx_excX {od : Option Obj} (gA : findIn K (.ref D) "__getattribute__" = some (some (.builtin "BaseException.__getattribute__"))) (gT : findIn K (.ref D) "__getattr__" = some none) (sB : subIn K (.ref D) (.type "BaseException") = some true) (dT : hasDictIn K D = true) (aA : findIn K (.ref D) "__class__" = some (some (.builtin "object.__class__")))
    (nG : specialIn K (.builtin "object.__class__") "__get__" = some (some (.builtin "getset_descriptor.__get__"))) (tK : takesIn K (.builtin "object.__class__") = some true) (mO : mroIn K D (.type "object") = some true) :
    KitX K (.ref x) (.ref D) (fun h => InstAt h x ox D od) where
  ty := fun _ _ _ I => I.type
  it := fun _ _ X _ => by
    obtain ⟨cdE, cE, _⟩ := any_some dT
    unfold clsIn at cE
    split at cE
    · rename_i c' d' cd' sl' ho
      intro A' Q' E' s' k q
      unfold isType loadHead
      exact wpAny_bind (wpAny_loadPart (k _ _ (X _ _ ho)) (wpAny_pure q))
    · cases cE
  ne := fun h tp dd its n sl X pT => by
    obtain ⟨cdE, cE, _⟩ := any_some dT
    refine Bool.eq_false_iff.mpr fun q => ?_
    have e : D = tp := Value.ref.inj (beq_iff_eq.mp q)
    subst e
    unfold clsIn at cE
    split at cE
    · rename_i c' d' cd' sl' ho
      have z := (X _ _ ho).symm.trans pT
      cases z
    · cases cE
  ca := fun X I k => kin_classX gA gT sB dT aA nG tK mO X I k
end
end TXW
namespace TX
open PySem PySem.Spec PyProof.Rows L2
open TL (exv)
def DOk (H : Hp) (d : Option Addr) : Prop := ∀ dd, d = some dd → ∃ fs, H dd = some (.xd fs)
theorem inst_at {P : Program} {w : World} {H : Hp} {h : Heap} {a D : Addr} {d : Option Addr} (hok : HOk P w H h) (e : H a = some (exv a (.ref D) d)) (hd : DOk H d) : ∃ oe od, PySem.W.InstAt h a oe D od := by
  obtain ⟨oe, vs, g, z, f⟩ := exv_at hok e
  cases d with
  | none =>
    refine ⟨oe, none, g, z.1, ?_, ?_⟩
    · unfold PySem.W.notCls
      rw [f]
    · rw [z.2]
      trivial
  | some dd =>
    obtain ⟨fs, e2⟩ := hd dd rfl
    have hx : ObjOk P w H h dd (.xd fs) := hok dd _ e2
    obtain ⟨mA, hns, hr⟩ := hx
    obtain ⟨od, ho, hl⟩ := lookIn_ns hns
    refine ⟨oe, some od, g, z.1, ?_, ?_⟩
    · unfold PySem.W.notCls
      rw [f]
    · rw [z.2]
      exact ho
def rIsX (K : PySem.W.Frag) : List V → Hp → VK → Prop := fun xs H Q => ∃ (a D : Addr) (d : Option Addr) (c : V) (cv : Value) (b : Bool), xs = [.ref a, c] ∧ H a = some (exv a (.ref D) d) ∧ DOk H d ∧ ExcC K D ∧ (∀ u, RelV c u → u = cv) ∧ PySem.W.kitOne K (.ref D) cv = some b ∧ Q (.bl b) H
theorem call_isX {X : Cx} : CallR X (.builtin "isinstance") (rIsX X.K) := by
  intro pins s σ H xs us Q I r h
  obtain ⟨a, D, d, c, cv, b, rfl, ea, hd, C, hcv, e, q⟩ := h
  cases r with
  | cons rx rr =>
    cases rr with
    | cons rt rr =>
      cases rr
      cases rx
      have ec := hcv _ rt
      subst ec
      obtain ⟨oe, od, J⟩ := inst_at I.hok ea hd
      exact PySem.W.kia_one (TXW.kitx_excX C.hg C.hk C.hs C.hd C.ha C.hn C.ht C.hm) I.kIn J e (fun z => nomatch z) fun tk => ⟨.bl b, H, I.kept (t' := tk) fun _ _ z => z, rfl, q⟩
def tXg (K : PySem.W.Frag) (f : Str) (te : TE) : TE := fun σ H Q => te σ H fun x H1 => ∃ (a C dd : Addr) (fs : List (Str × V)) (v : V), x = .ref a ∧ H1 a = some (exv a (.ref C) (some dd)) ∧ H1 dd = some (.xd fs) ∧ XfC K C ∧ PySem.W.findIn K (.ref C) f = some none ∧ fs.lookup f = some v ∧ Q v H1
theorem pe_xg {X : Cx} {e : Expr} {te : TE} {pos : Pos} {n : Str} (he : PE X e te) (hb : attributeBase e n X.env (eval e X.env) = eval e X.env := by rfl) : PE X (.Attribute e n pos) (tXg X.K n te) := by
  refine ⟨fun pins s σ H Q I h => ?_⟩
  refine attr_of hb (thn (he.run pins s σ H _ I h) fun u s1 hh => ?_)
  obtain ⟨x, H1, I1, rx, a, C, dd, fs, v, ex, ea, ed, T, hno, l, q⟩ := hh
  subst ex
  obtain rfl : u = Value.ref a := rx
  obtain ⟨oe, vs, g, z, f⟩ := exv_at I1.hok ea
  have hx : ObjOk X.prog X.w H1 s1.heap dd (.xd fs) := I1.hok dd _ ed
  obtain ⟨mA, hns, hr⟩ := hx
  obtain ⟨od, ho, hl⟩ := lookIn_ns hns
  obtain ⟨y, hu, ru⟩ := RelO.some_of (v := v) (o := mA n) (by rw [← l]; exact hr n)
  have J : PySem.W.InstAt s1.heap a oe C (some od) := ⟨g, z.1, by unfold PySem.W.notCls; rw [f] <;> rfl, by rw [z.2]; exact ho⟩
  exact HandSPX.exc_get I1.kIn J T.ga T.gg T.exC (PySem.W.findObj_own T.hdC hno rfl (by rw [hl, hu])) (handed_of ru) ⟨v, H1, I1.tok _, ru, q⟩
end TX
namespace TX
open PySem PySem.Spec PyProof.Rows L2
structure BaseC (K : PySem.W.Frag) (B : Addr) : Prop where
  rd : PySem.W.readsIn K B (.type "type") = true
  fc : PySem.W.findCls K (.ref B) (.type "type") "__init__" = some (.val (.builtin "ValueError.__init__"))
  sp : PySem.W.specialIn K (.ref B) "__getattribute__" = some (some (.builtin "type.__getattribute__"))
section
variable {X : Cx} {e : Expr} {es : List Expr} {ta : TA} {p1 p2 pos : Pos} {x : Str} {B : Addr}
theorem pe_binit {pl : Sem Bool} (hg : Gl X x) (hm : X.mg x = some (.ref B)) (hB : BaseC X.K B) (ha : PA X (e :: es) ta) (hdb : (x == ("__debug__" : Str)) = false := by decide)
    (hc : eval (.Call (.Attribute (.Name x p1) "__init__" p2) (e :: es) [] pos) X.env = (do
      let ov ← eval (.Name x p1) X.env
      standAt p2.atName
      let (f, first) ← holding [ov] (getMethod ov "__init__" pl)
      callWith pos f first (backTo pos (starEach (e :: es) X.env)) (backToKw pos (keywordEach [] X.env))) := by rfl)
    (hs : starEach (e :: es) X.env = (false, eval e X.env) :: starEach es X.env := by rfl) (hpl : (backTo pos (starEach es X.env)).any (·.1) = false := by rfl) :
    PE X (.Call (.Attribute (.Name x p1) "__init__" p2) (e :: es) [] pos) (tVeI X.K ta) := by
  refine ⟨fun pins s σ H Q I h => ?_⟩
  refine PySem.W.methodCall_KW (ld_glob I hg hm ?_ hdb) hc
  refine PySem.W.method_cls I.kIn hB.sp (PySem.W.cls_value I.kIn hB.rd hB.fc (by decide +kernel) ?_)
  show wpAny _ _ (callWith pos (Value.builtin "ValueError.__init__") [] (backTo pos (starEach (e :: es) X.env)) []) _ _ _
  refine PyProof.Rows.callWith_method1 (thn (ha.run pos pins _ σ H _ (I.tok _) h) fun us s1 hh => ?_) hs hpl
  obtain ⟨vs, H1, I1, r1, a, C, ws, ev, hl, T, ea, q⟩ := hh
  subst ev
  cases r1 with
  | @cons _ u0 _ ur ra rw' =>
    obtain rfl : u0 = Value.ref a := ra
    have hlen : ur.length ≤ sizeLine := by
      rw [← Paired.length rw', sizeLine_eq]
      omega
    exact oinit_ok T I1 ea hlen fun s' J => ⟨.non, H1, J, rfl, q⟩
end
end TX
namespace TX
open PySem PySem.Spec PyProof.Rows L2
def spInit (C : Addr) (f : Str) : Sp := fun vs H Q _ => ∃ (a : Addr) (v : V), vs = [.ref a, v] ∧ H a = some (exo a C none) ∧ ∀ dx, H dx = none → dx ≠ a → Q .non (upd (upd H dx (exd dx [(f, v)])) a (exo a C (some dx)))
def tInit (K : PySem.W.Frag) (f m : Str) : TS := tSeq (tDrop (tVeI K (tCons (tVar 0) (tCons (tC (.str m)) tNil)))) (tOst K f (tVar 0) (tVar 1))
section
variable {P : Program} {w : World} {K : PySem.W.Frag} {mg : Str → Option Value} {base : Heap}
theorem ok_init {qual f p m : Str} {st : Stmt} {fI C : Addr} {fd : FuncData} (F : Fun K "__init__" qual st fI fd) (S : FnScope ["self", p] ["self", p] (defScope st)) (T : OexC K C) (hno : PySem.W.findIn K (.ref C) f = some none)
    (hb : ∀ (cdv : Value) (A : Around) (outer : List PySem.Env) (s : Shared) (H : Hp) (E : XK), PSs (cxOf CX0 P w K mg base ["self", p] qual (defScope st) fI cdv A outer s H E).nox (defBody st) (tInit K f m)) : FnOk P w K mg base CX0 1 fI fd ["self", p] (spInit C f) := by
  refine F.ok (k := 0) (N := ["self", p]) S (fun vs H Q E h => ?_) fun cdv A outer s H vs Q E hr h => ?_
  · obtain ⟨a, v, rfl, _⟩ := h
    rfl
  · obtain ⟨a, v, rfl, ha, k⟩ := h
    refine ⟨_, hb cdv A outer s H E, ?_⟩
    refine ⟨_, rfl, ?_⟩
    refine ⟨a, C, [.str m], rfl, (by show 1 ≤ 1000; omega), T, ha, ?_⟩
    refine ⟨_, rfl, _, rfl, a, C, rfl, T, hno, .inl ⟨ha, fun dx h1 h2 => k dx h1 h2⟩⟩
end
end TX
namespace TL
open PySem PySem.Spec PyProof.Rows L2
abbrev DSpX := List Sl → (Rs → List Sl → Prop) → (Addr → List (Str × D) → List Sl → Prop) → Prop
abbrev XCont := Addr → List (Str × D) → Env → Prop
def toSpX (K : PySem.W.Frag) (T : List (Addr × Str)) (n : Nat) (S : DSpX) : Sp := fun vs H Q E => ∃ G ω args Qd Xd, vs.length = n ∧ EnvW K (baseOf T G H ω vs) G ω args (vs.map some) H ∧ S args Qd Xd ∧
  (∀ G' ω' v r args' H', Same G G' → EnvW K (baseOf T G H ω vs) G' ω' args' (vs.map some) H' → RsOk K G' H' ω' (vs.map some) v r → (∀ j, r ≠ .sl j) → Qd r args' → Q v H') ∧
  (∀ G' ω' args' H' C d fs, Same G G' → EnvW K (baseOf T G H ω vs) G' ω' args' (vs.map some) H' → RpX K G' d fs → Xd C fs args' → E (.ref C) d H')
def npX (K : PySem.W.Frag) (T : List (Addr × Str)) (n : Nat) (X : XCont) (E : XK) : Np := ⟨n, T, fun B0 => ∀ (G : Hp) (ω : Own) (ρ : Env) (σ : Stt) (H : Hp) (C : Addr) (d : Option Addr) (fs : List (Str × D)), EnvW K B0 G ω ρ σ H → RpX K G d fs → X C fs ρ → E (.ref C) d H⟩
def KeepsX (S : DSpX) (n N : Nat) (t : XCont → DTS) : Prop := ∀ args Qd Xd, args.length = n → S args Qd Xd → t (fun C fs ρ => Xd C fs (ownsOf n ρ)) (dEnd n Qd) (args ++ List.replicate (N - n) .un)
theorem EnvW.both {K : PySem.W.Frag} {T : List (Addr × Str)} {G H G' H' : Hp} {ω ω' : Own} {vs : List V} {args ρ : Env} {σ σ' : Stt} (e : EnvW K (baseOf T G H ω vs) G ω args σ H) (f : EnvW K (baseOf T G H ω vs) G' ω' ρ σ' H') :
    ∃ G2, Same G G2 ∧ Same G' G2 ∧ EnvW K (baseOf T G H ω vs) G2 ω' ρ σ' H' := by
  have here : ∀ a o, G a = some o → H' a = some o := fun a o g => by
    have ha := e.gle a o g
    refine f.keep.old a o ha (fun z => ?_) fun t => ?_
    · have z : ω a ≠ none := z
      cases w : ω a with
      | none => exact z w
      | some i =>
        have := (e.own a i w).1
        rw [g] at this
        cases this
    · have := (e.tab t).1
      rw [g] at this
      cases this
  obtain ⟨G2, hG⟩ : ∃ G2 : Hp, G2 = fun a => match G' a with | some o => some o | none => G a := ⟨_, rfl⟩
  have g1 : ∀ a o, G' a = some o → G2 a = some o := fun a o g => by rw [hG]; show (match G' a with | some o => some o | none => G a) = some o; rw [g]
  have g2 : ∀ a, G' a = none → G2 a = G a := fun a g => by rw [hG]; show (match G' a with | some o => some o | none => G a) = G a; rw [g]
  have s1 : Same G G2 := fun a o g => by
    cases w : G' a with
    | none => rw [g2 a w]; exact g
    | some o' =>
      have h1 := f.gle a o' w
      have h2 := here a o g
      rw [h1] at h2
      rw [g1 a o' w]
      exact h2
  refine ⟨G2, s1, g1, ⟨fun a o g => ?_, fun a o g => ?_, f.keep.mono g1 (.refl _), fun a i q => ?_, f.len, fun i s q => (f.slot i s q).mono g1 fun a z => ⟨z, rfl⟩, f.pin⟩⟩
  · cases w : G' a with
    | none => rw [g2 a w] at g; exact here a o g
    | some o' =>
      rw [g1 a o' w] at g
      cases g
      exact f.gle a _ w
  · cases w : G' a with
    | none => rw [g2 a w] at g; exact .inl g
    | some o' =>
      rw [g1 a o' w] at g
      cases g
      exact f.g0 a _ w
  · obtain ⟨h1, h2, h3⟩ := f.own a i q
    refine ⟨?_, h2, h3⟩
    rw [g2 a h1]
    rcases h3 with z | z
    · have z : ω a ≠ none := z
      cases w : ω a with
      | none => exact absurd w z
      | some j => exact (e.own a j w).1
    · exact Same.none e.gle z
section
variable {P : Program} {w : World} {K : PySem.W.Frag} {mg : Str → Option Value} {base : Heap} {T : List (Addr × Str)}
theorem bodyX_ok {S : DSpX} {n : Nat} {N : List Str} {t : XCont → DTS} {vs : List V} {H : Hp} {Q : VK} {E : XK} (hS : KeepsX S n N.length t) (h : toSpX K T n S vs H Q E) :
    ∃ XC, liftS K (npX K T n XC E) (t XC) { nx := fun _ H' => Q .non H', rt := Q } (L2.start N vs) H := by
  obtain ⟨G, ω, args, Qd, Xd, hn, e, hs, k, kx⟩ := h
  have la : args.length = n := by rw [e.len, List.length_map]; exact hn
  subst hn
  refine ⟨fun C fs ρ => Xd C fs (ownsOf vs.length ρ), baseOf T G H ω vs, G, args ++ List.replicate (N.length - vs.length) .un, dEnd vs.length Qd, .mk' (by show (vs.map some).length = vs.length; rw [List.length_map]) rfl ?_, ⟨ω, ?_⟩, hS args Qd Xd la hs, ?_, ?_, fun _ _ _ _ _ _ z => z.elim, fun _ _ _ _ _ _ z => z.elim⟩
  · intro G1 ω1 ρ1 σ1 H1 C d fs f r x
    obtain ⟨G2, s1, s2, f2⟩ := e.both f
    refine kx G2 _ _ H1 C d fs s1 (f2.leave (q := σ1.length) fun i s w _ _ z => ?_) (r.mono s2) x
    have := (List.getElem?_eq_some_iff.mp w).1
    have := f2.len
    omega
  · unfold L2.start
    exact e.ext (Nat.le_refl _) _
  · exact fun G' ρ' σ' H' s eo z => fin_ok rfl s (eo.dat .non) z k
  · exact fun G' v r ρ' σ' H' s f z => fin_ok rfl s f z k
theorem okX2_tree {x qual : Str} {st : Stmt} {f : Addr} {fd : FuncData} {N ps : List Str} {k : Nat} {S : DSpX} {t : XCont → DTS} (F : Fun K x qual st f fd) (sc : FnScope N ps (defScope st))
    (hb : ∀ (cdv : Value) (A : Around) (outer : List PySem.Env) (s : Shared) (H : Hp) (E : XK) (XC : XCont), Room k (A.deeper (envOfC qual (defScope st) s.heap.objs.size f cdv)) →
      PSs (cxOf (L2.CX P w) P w K mg base N qual (defScope st) f cdv A outer s H E) (defBody st) (liftS K (npX K T ps.length XC E) (t XC)))
    (hS : KeepsX S ps.length N.length t) : FnOk P w K mg base (L2.CX P w) (k + 1) f fd ps (toSpX K T ps.length S) :=
  F.okX sc (fun vs H Q E ⟨_, _, _, _, _, h, _⟩ => h) fun cdv A outer s H vs Q E hr h => by
    obtain ⟨XC, z⟩ := bodyX_ok hS h
    exact ⟨_, hb cdv A outer s H E XC hr, z⟩
def calmS (S : DSpX) : DSp := fun args Q => S args Q fun _ _ _ => False
theorem FnOk.calm {f : Addr} {fd : FuncData} {ps : List Str} {k n : Nat} {S : DSpX} (F : FnOk P w K mg base (L2.CX P w) k f fd ps (toSpX K T n S)) : FnOk P w K mg base (L2.CX P w) k f fd ps (toSp K T n (calmS S)) :=
  F.imp fun vs H Q E ⟨G, ω, args, Qd, h1, h2, h3, h4⟩ => ⟨G, ω, args, Qd, fun _ _ _ => False, h1, h2, h3, h4, fun _ _ _ _ _ _ _ _ _ _ z => z.elim⟩
end
end TL
namespace TL
open PySem PySem.Spec PyProof.Rows L2
open TX (spInit)
def dRaise (XC : XCont) (C : Addr) (f : Str) (te : DTE) : DTS := fun _ ρ => dCons te dNil ρ fun rs ρ1 => match rs with
  | [.dat d] => XC C [(f, d)] ρ1
  | _ => False
theorem heap_exc {H : Hp} {a dx C : Addr} {fs : List (Str × V)} (ha : H a = none) (ne : dx ≠ a) : upd (del (upd (upd (upd H a (exo a C none)) dx (exd dx fs)) a (exo a C (some dx))) a) dx (.xd fs) = upd H dx (.xd fs) := by
  funext b
  by_cases hb : b = dx
  · rw [hb, upd_same, upd_same]
  · rw [upd_ne hb, upd_ne hb]
    by_cases h2 : b = a
    · rw [h2, del_same, ha]
    · rw [del_ne h2, upd_ne h2, upd_ne hb, upd_ne h2]
section
variable {X : Cx} {x f p : Str} {e : Expr} {te : DTE} {C fI : Addr} {fd : FuncData} {k n : Nat} {T : List (Addr × Str)} {XC : XCont} {E : XK} {p1 p2 pos : Pos}
theorem ds_raise (hc : X.calm = true) (TC : OexC X.K C) (iC : PySem.W.findIn X.K (.ref C) "__init__" = some (some (.ref fI))) (tI : PySem.W.typeIn X.K (.ref fI) = some (.type "function"))
    (F1 : FnOk X.prog X.w X.K X.mg X.base CX0 k fI fd ["self", p] (spInit C f)) (hr : Room (k + 1) X.A) (hb : Binds X.K fd ["self", p] []) (hg : Gl X x) (hm : X.mg x = some (.ref C)) (tk : Takes X (fun cls d _ H => E cls d H))
    (ha : PA X [e] (liftA X.K (npX X.K T n XC E) (dCons te dNil))) (hdb : (x == ("__debug__" : Str)) = false := by decide) (he : starEach [e] X.env = (false, eval e X.env) :: starEach [] X.env := by rfl) (hpl : (backTo p2 (starEach [] X.env)).any (·.1) = false := by rfl) :
    PS X (.Raise (some (.Call (.Name x p1) [e] [] p2)) none pos) (liftS X.K (npX X.K T n XC E) (dRaise XC C f te)) := by
  refine (ps_raise hc tk (pmk_oex TC iC tI F1 hr hb .nil (fun _ _ _ _ _ _ _ z => z.elim) hg hm ha hdb he hpl)).mo fun D σ H h => ?_
  obtain ⟨B, G, ρ, Dd, hn, eo, h, _⟩ := h
  refine ⟨B, G, ρ, _, hn, eo, h, fun G1 vs rs ρ1 H1 s1 e1 ar q => ?_⟩
  obtain ⟨d, rfl, xc⟩ : ∃ d, rs = [.dat d] ∧ XC C [(f, d)] ρ1 := by
    match rs, q with
    | [.dat d], q => exact ⟨d, rfl, q⟩
  obtain ⟨v, rfl, rv⟩ : ∃ v, vs = [v] ∧ Rp X.K G1 v d := by
    cases ar with
    | cons a r =>
      cases r
      cases a with
      | dat h => exact ⟨_, rfl, h⟩
  refine ⟨by show 1 ≤ 1000; omega, fun a na => ⟨a, v, rfl, upd_same, fun dx hd ne => ⟨rfl, dx, [(f, v)], upd_same, ?_, ?_, ?_⟩⟩⟩
  · rw [upd_ne ne, upd_same]
  · rw [upd_ne ne] at hd
    exact hd
  · rw [upd_ne ne] at hd
    rw [heap_exc na ne]
    obtain ⟨ω, e1⟩ := e1
    obtain ⟨sg, e2⟩ := e1.newG (p := dx) (o := .xd [(f, v)]) hd
    obtain ⟨B0, cl, back⟩ := hn.c
    exact cl _ _ _ _ _ C (some dx) [(f, d)] (back _ _ _ _ _ _ e2) (.inr ⟨dx, _, rfl, upd_same, .cons (rv.mono sg) .nil⟩) xc
end
def dCallX (n : Nat) (S : DSpX) (XC : XCont) (t : DTA) : DTE := fun ρ Q => t ρ fun rs ρ1 => rs.length = n ∧ slNd rs = true ∧ match slotsOf ρ1 rs with
  | some args => S args (fun r ss => Q r (backE ρ1 rs ss)) fun C fs ss => XC C fs (backE ρ1 rs ss)
  | none => False
theorem callX_ok {K : PySem.W.Frag} {T : List (Addr × Str)} {n0 n : Nat} {S : DSpX} {t : DTA} {XC : XCont} {E : XK} (σ : Stt) (H : Hp) (Q : VK) (h : lift K (npX K T n0 XC E) (dCallX n S XC t) σ H Q) : liftA K (npX K T n0 XC E) t σ H fun vs H1 => toSpX K T n S vs H1 Q E := by
  obtain ⟨B, G, ρ, Qd, hn, eo, h, k⟩ := h
  refine ⟨B, G, ρ, _, hn, eo, h, fun G1 vs rs ρ1 H1 s1 e1 ar q1 => ?_⟩
  obtain ⟨ω1, e1⟩ := e1
  obtain ⟨hl, nd, q1⟩ := q1
  have hT : B.T = T := hn.T
  split at q1
  · rename_i args hs
    refine ⟨G1, inW ω1 rs, args, _, _, by rw [ar.length]; exact hl, by rw [← hT]; exact e1.enter ar nd hs, q1, fun G' ω' v r ss H' s f rr nsl q => ?_, fun G' ω' ss H' C d fs s f rx q => ?_⟩
    · rw [← hT] at f
      have e2 := e1.back2 ar nd hs s f
      refine k _ _ _ _ _ (s1.trans s) ⟨_, e2, ?_⟩ q
      cases r with
      | dat d => exact rr
      | sl j => exact absurd rfl (nsl j)
      | nw sl =>
        refine ⟨rr.1, rr.2.mono (.refl _) fun a z => ⟨?_, rfl⟩⟩
        rw [List.length_map] at z
        exact outW_tag ar.length.symm z
    · rw [← hT] at f
      have e2 := e1.back2 ar nd hs s f
      obtain ⟨B0, cl, back⟩ := hn.c
      exact cl _ _ _ _ _ C d fs (back _ _ _ _ _ _ e2) rx q
  · exact q1.elim
section
variable {X : Cx} {k n n0 : Nat} {f : Addr} {fd : FuncData} {ps : List Str} {S : DSpX} {XC : XCont} {E : XK} {x : Str} {p pos : Pos} {e : Expr} {es : List Expr} {t : DTA} {T : List (Addr × Str)}
theorem d_callX (F : FnOk X.prog X.w X.K X.mg X.base (L2.CX X.prog X.w) k f fd ps (toSpX X.K T n S)) (hr : Room k X.A) (hg : Gl X x) (hm : X.mg x = some (.ref f)) (hk : PySem.W.keepIn X.K (.ref f) = true) (hb : Binds X.K fd ps []) (tk : Takes X (fun cls d _ H => E cls d H))
    (ha : PA X (e :: es) (liftA X.K (npX X.K T n0 XC E) t)) (hdb : (x == ("__debug__" : Str)) = false := by decide) (he : starEach (e :: es) X.env = (false, eval e X.env) :: starEach es X.env := by rfl) (hpl : (backTo pos (starEach es X.env)).any (·.1) = false := by rfl) :
    PE X (.Call (.Name x p) (e :: es) [] pos) (lift X.K (npX X.K T n0 XC E) (dCallX n S XC t)) := by
  refine (pe_call F hr hg hm hk hb .nil (passes_call tk fun _ _ _ _ z => z) ha hdb he hpl).mo fun σ H Q h => ?_
  have := callX_ok (E := E) σ H Q h
  obtain ⟨B, G, ρ, Qd, a, b, c, d⟩ := this
  exact ⟨B, G, ρ, Qd, a, b, c, fun G' vs rs ρ' H' s e ar q => by show toSpX X.K T n S (vs ++ []) H' Q E; rw [List.append_nil]; exact d _ _ _ _ _ s e ar q⟩
end
end TL
namespace TX
end TX
namespace TX
open PySem PySem.Spec PyProof.Rows L2 LamX
open TL (exv)
theorem un_trans {fs fs2 : List Addr} {H H2 H3 : Hp} {h h2 h3 : Heap} (a : Un fs [] H H2 h h2) (b : Un fs2 [] H2 H3 h2 h3) (k1 : ∀ x o, h.get? x = some o → x ∈ fs2 → x ∈ fs) (k2 : ∀ x ∈ fs, x ∈ fs2) : Un fs [] H H3 h h3 where
  keep := fun x o e n hf hx => b.keep x o (a.keep x o e n hf hx) (a.free x o e n hx) (fun z => hf (k1 x o e z)) hx
  slot := fun x o e n hf hx => by
    obtain ⟨sl, q⟩ := a.slot x o e n hf hx
    obtain ⟨sl2, q2⟩ := b.slot x _ q (a.free x o e n hx) (k2 x hf) hx
    exact ⟨sl2, q2⟩
  free := fun x o e n hx => by
    by_cases hf : x ∈ fs
    · obtain ⟨sl, q⟩ := a.slot x o e n hf hx
      exact b.free x _ q (a.free x o e n hx) hx
    · exact b.free x o (a.keep x o e n hf hx) (a.free x o e n hx) hx
  there := fun x o e hx => by
    obtain ⟨o2, q⟩ := a.there x o e hx
    exact b.there x o2 q hx
  tups := fun x xs e => b.tups x xs (a.tups x xs e)
  frzs := fun x o u e => b.frzs x o u (a.frzs x o u e)
  tbls := fun x ps e => by
    obtain ⟨m, q⟩ := a.tbls x ps e
    obtain ⟨m2, q2⟩ := b.tbls x _ q
    exact ⟨m ++ m2, by rw [← Array.append_assoc]; exact q2⟩
section
variable {X : Cx} {pins : List (Addr × Obj)} {σ : L2.St} {H HZ : Hp} {s s1 : Shared}
theorem pe_actN {A2 : Around} {stack2 : List Env} {s2 : Shared} {H2 : Hp} {CXg : CXT} {Eg : XK} {Ng : List Str} {qg : Str} {sg : Scope} {g f c' : Addr} {cdg pm ctv : Value} {params : Arguments} {body : Expr} {scope : Scope} {k i : Nat} {a : Str} {pn : List (Addr × Obj)} {xe : Value → Shared → Prop} {W : WX} {E : XK} {tb : TE} {p1 p2 : Pos}
    (I : Inv X pins σ H s) (L : LamS X.env.scope scope) (hU : Un (frs X.stack) [] H H2 s.heap s2.heap) (hst : ∀ b o, s.heap.get? b = some o → b ∈ frs stack2 → b ∈ frs X.stack) (hst2 : ∀ b ∈ frs X.stack, b ∈ frs stack2)
    (hf : s.heap.get? f = some (PySem.W.kla_obj "<lambda>" (X.env.qual ++ "<lambda>") params body scope (cloFrom X.env.cells scope.names []) pm c' ctv)) (hfn : H f = none) (hfr : f ∉ frs X.stack)
    (hbind : bindArgs (PySem.W.kla_fn "<lambda>" (X.env.qual ++ "<lambda>") params body scope (cloFrom X.env.cells scope.names []) pm (.ref c') ctv) ⟨[], []⟩ = pure [])
    (tk : Takes ((cxOf CXg X.prog X.w X.K X.mg X.base Ng qg sg g cdg A2 stack2 s2 H2 Eg).tr pn xe) W) (hW : ∀ cls d σ' H', E cls d H' → W cls d σ' H') (hr : Room (k + 1) (A2.deeper (envOfC qg sg s2.heap.objs.size g cdg)))
    (hbody : ∀ (A : Around) (outer : List Env) (s : Shared) (H : Hp), Room k (A.deeper (lamEnv X scope s.heap.objs.size f c')) → PE (lamCx X A outer s H E scope f c') body tb)
    (hN : Ng[i]? = some a) (hv : Vis sg a) (hd : (a == ("__debug__" : Str)) = false := by decide) (hcd : (a == ("__classdict__" : Str)) = false := by decide) :
    PE ((cxOf CXg X.prog X.w X.K X.mg X.base Ng qg sg g cdg A2 stack2 s2 H2 Eg).tr pn xe) (.Call (.Name a p1) [] [] p2)
      (fun σZ HZ Q => σZ[i]? = some (some (.ref f)) ∧ HZ c' = some (CodeO c' (X.env.qual ++ "<lambda>")) ∧ tb σ HZ Q) := by
  refine ⟨fun pnZ tZ τZ HZ Q JZ h => ?_⟩
  obtain ⟨hsl, hco, hbd⟩ := h
  refine wpAny_Call_Name_kw (thn ((pe_var (pos := p1) (i := i) hN hv hd hcd).run pnZ tZ τZ HZ (fun v H1 => v = .ref f ∧ H1 = HZ) JZ ⟨.ref f, hsl, rfl, rfl⟩) fun u s1 ⟨v, H1, I1, r1, q1⟩ => ?_)
  obtain ⟨ev, eH⟩ := q1
  subst ev
  rw [eH] at I1
  obtain rfl : u = Value.ref f := r1
  have hUn : Un (frs X.stack) [] H HZ s.heap s1.heap := un_trans hU I1.base hst hst2
  have fo1 : s1.heap.get? f = some (PySem.W.kla_obj "<lambda>" (X.env.qual ++ "<lambda>") params body scope (cloFrom X.env.cells scope.names []) pm c' ctv) := hUn.keep f _ hf hfn hfr (fun z => nomatch (show f ∈ ([] : List Addr) from z))
  refine PySem.W.callWith_F0 ⟨_, _, _, _, fo1⟩ ?_
  obtain ⟨⟨oc, vs, t, goc, gdc, gvc⟩, _, _⟩ := I1.hok c' _ hco
  have run1 : codeAny (model X.prog X.w) (A2.deeper (envOfC qg sg s2.heap.objs.size g cdg)) (.call (.ref f) ⟨[], []⟩) (CR (L2.CX X.prog X.w) (envOfC qg sg s2.heap.objs.size g cdg :: stack2) X.prog X.w HZ s1 Q E) s1 := by
    refine PySem.W.kla_callFunE hr.depth fo1 rfl L.co L.gen rfl ⟨c', oc, vs, t, rfl, goc, gdc, gvc⟩ ?_
    rw [hbind]
    refine wpAny_pure (wpAny_newFunctionEnv (fun y hy => (L.own y hy).2) (fun y hy => absurd hy (by simp)) (fun h₁ hnq hsq => ⟨I1.nolimit.fresh _ hsq, ?_⟩) L.kind)
    show codeAny _ _ (.expr body (lamEnv X scope s1.heap.objs.size f c')) _ _
    have kpt : ∀ b o, s1.heap.get? b = some o → h₁.get? b = some o := fun b o e => hsq.extBut b o (Nat.ne_of_lt (Heap.lt_size e)) (Heap.get?_push_of_some _ e)
    have J : Inv (lamCx X (A2.deeper (envOfC qg sg s2.heap.objs.size g cdg)) (envOfC qg sg s2.heap.objs.size g cdg :: stack2) s1 HZ E scope f c') [] σ HZ { s1 with heap := h₁, toks := s1.toks + ([] : List (Str × Value)).length } :=
      lam_start2 I L I1.env0 hr.hd hUn hnq kpt
    refine PySem.W.kla_codeExpr (wpAny_mono ((hbody _ _ s1 HZ (hr.deeper _)).run [] _ _ HZ Q J hbd) (fun v s' hq => ?_) fun e s' hq => hq)
    obtain ⟨w', H', J', rv, q⟩ := hq
    exact ⟨w', H', J'.os, J'.bare, J'.base, J'.hok, rv, q⟩
  have hpx : Passes (L2.CX X.prog X.w) ((cxOf CXg X.prog X.w X.K X.mg X.base Ng qg sg g cdg A2 stack2 s2 H2 Eg).tr pn xe) E := passes_call tk hW
  refine wpAny_call (codeAny_mono run1 fun r s' hq => ?_)
  cases r with
  | error e => exact hpx pnZ τZ HZ s1 e s' I1 hq
  | ok fl =>
    cases fl with
    | ret u => exact I1.after hq
    | next => exact False.elim hq
    | brk => exact False.elim hq
    | cont => exact False.elim hq
end
end TX
namespace TX
open PySem PySem.Spec PyProof.Rows L2 LamX
open TL (exv)
def ActN (X : Cx) (f c' : Addr) (q : Str) (s : Shared) (H : Hp) (k : Nat) (tl : XK → Hp → VK → Prop) : Prop :=
  ∀ (A2 : Around) (stack2 : List Env) (s2 : Shared) (H2 : Hp) (Ng : List Str) (qg : Str) (sg : Scope) (g : Addr) (cdg : Value) (i : Nat) (a : Str) (pn : List (Addr × Obj)) (xe : Value → Shared → Prop) (W : WX) (E : XK) (p1 p2 : Pos),
    Un (frs X.stack) [] H H2 s.heap s2.heap → (∀ b o, s.heap.get? b = some o → b ∈ frs stack2 → b ∈ frs X.stack) → (∀ b ∈ frs X.stack, b ∈ frs stack2) →
    Takes ((cxOf C8.CX0 X.prog X.w X.K X.mg X.base Ng qg sg g cdg A2 stack2 s2 H2 C8.E0).tr pn xe) W → (∀ cls d σ' H', E cls d H' → W cls d σ' H') → Room (k + 1) (A2.deeper (envOfC qg sg s2.heap.objs.size g cdg)) →
    Ng[i]? = some a → Vis sg a → (a == ("__debug__" : Str)) = false → (a == ("__classdict__" : Str)) = false →
    PE ((cxOf C8.CX0 X.prog X.w X.K X.mg X.base Ng qg sg g cdg A2 stack2 s2 H2 C8.E0).tr pn xe) (.Call (.Name a p1) [] [] p2) (fun σZ HZ Q => σZ[i]? = some (some (.ref f)) ∧ HZ c' = some (CodeO c' q) ∧ tl E HZ Q)
def GivesN (X : Cx) (k j : Nat) (Ng : List Str) (x : Str) (sg : Scope) (g : Addr) (cdg : Value) (bg : List Stmt) (q : Str) (TT : Addr → (XK → Hp → VK → Prop) → Hp → VK → Prop) : Prop :=
  ∀ (f c' : Addr) (s : Shared) (H : Hp) (Q : VK) (tl : XK → Hp → VK → Prop), ActN X f c' q s H k tl → H c' = some (CodeO c' q) → TT f tl H Q → Room j (X.A.deeper (envOfC x sg s.heap.objs.size g cdg)) →
    ∃ t, PSs (cxOf C8.CX0 X.prog X.w X.K X.mg X.base Ng x sg g cdg X.A X.stack s H C8.E0).nox bg t ∧ t { nx := fun _ H' => Q .non H', rt := Q } (L2.start Ng [.ref f]) H
end TX
namespace TX
end TX
namespace TX
open PySem PySem.Spec PyProof.Rows L2 LamX SL PySem.Calls
open TL (exv)
section
variable {X : Cx} {pins : List (Addr × Obj)} {σ : L2.St} {H : Hp} {s : Shared}
theorem lam_new2 {c P : Addr} {lps : Arguments} {body : Expr} {lsc : Scope} {pos : Pos} {E : Value → Shared → Prop} {Q : Value → Shared → Prop} {ps : Array Value} (I : Inv X pins σ H s) (tb : LamX.TabB X.base X.mg c P) (code : X.env.code = .ref c)
    (isT : H P = some (.tbl ps)) (tri : TriplesOk ps.toList) (known : ∀ pos cv, codeAmong pos ps.toList = some cv → ∃ c, cv = .ref c ∧ H c = some (LamX.CodeO c (X.env.qual ++ "<lambda>"))) (nodef : defaultsOf lps X.env = ([], []))
    (frees : ∀ y ∈ lsc.names, y.2 = .free → ∃ c, X.env.cells.lookup y.1 = some c)
    (q : ∀ (f cc : Addr) (pm ctv : Value) (H1 : Hp) (s1 : Shared), Inv X pins σ H1 s1 → s1.heap.get? f = some (PySem.W.kla_obj "<lambda>" (X.env.qual ++ "<lambda>") lps body lsc (cloFrom X.env.cells lsc.names []) pm cc ctv) →
      H1 f = none → f ∉ frs X.stack → H1 cc = some (LamX.CodeO cc (X.env.qual ++ "<lambda>")) → Grew P (X.env.qual ++ "<lambda>") ps cc H H1 → Q (.ref f) s1) :
    wpAny (model X.prog X.w) X.A (eval (.Lambda lps body lsc pos) X.env) Q E s := by
  refine PySem.W.kla_eval nodef ?_
  have atB := tb.bm.keeps I.bk
  have obj : s.heap.get? P = some { cls := .none, data := .fields ps } := I.hok P _ isT
  have nofr : ∀ f, s.heap.objs.size ≤ f → f ∉ frs X.stack := fun f hf z => by
    rcases List.mem_cons.mp (I.stkSub _ z) with e | e
    · have h1 := I.lt
      rw [← e] at h1
      exact absurd (Nat.lt_of_lt_of_le h1 hf) (Nat.lt_irrefl _)
    · exact I.nofs hf e
  cases among : codeAmong pos ps.toList with
  | some cv =>
    obtain ⟨cc, rfl, is⟩ := known pos cv among
    refine PySem.W.kla_makeFunctionHit (ps := ps) (P := P) (c := c) (mg := X.mg) (closure_ok frees) I.ok.glob (I.mod.glob.keeps I.bk) code (tb.code.keeps I.bk) obj tri among atB fun ctv h1 tk keeps big => ?_
    exact q _ cc _ ctv H _ (I.kept fun b o e => Heap.get?_push_of_some _ (keeps b o e)) (Heap.get?_push_size _ rfl) (I.hok.fresh big) (nofr _ big) is (.inl ⟨rfl, pos, among⟩)
  | none =>
    refine PySem.W.kla_makeFunction (ps := ps) (P := P) (c := c) (mg := X.mg) (closure_ok frees) I.ok.glob (I.mod.glob.keeps I.bk) code (tb.code.keeps I.bk) obj tri among tb.gP atB fun cc ctv h1 tk keeps ge lt rec_ tab => ?_
    obtain ⟨_, oc, vs, t, z, g1, g2, g3⟩ := rec_
    cases z
    have new : H cc = none := I.hok.fresh ge
    have lists : (ps ++ #[rawInt pos.line, rawInt pos.col, Value.ref cc]).toList = ps.toList ++ [rawInt pos.line, rawInt pos.col, Value.ref cc] := by simp
    have J := LamX.inv_table (q := X.env.qual ++ "<lambda>") (t' := tk) (more := #[rawInt pos.line, rawInt pos.col, .ref cc]) I isT (h' := h1.push (PySem.W.kla_obj "<lambda>" (X.env.qual ++ "<lambda>") lps body lsc (cloFrom X.env.cells lsc.names []) ((X.mg "__name__").getD .none) cc ctv))
      (fun b o n e => Heap.get?_push_of_some _ (keeps b o n e)) (Heap.get?_push_of_some _ tab) ge ⟨oc, vs, t, Heap.get?_push_of_some _ g1, g2, g3⟩
    have big : s.heap.objs.size ≤ h1.objs.size := Nat.le_trans ge (Nat.le_of_lt lt)
    have n1 : h1.objs.size ≠ cc := Nat.ne_of_gt lt
    have n2 : h1.objs.size ≠ P := Nat.ne_of_gt (Nat.lt_of_lt_of_le (Heap.lt_size obj) big)
    refine q _ cc _ ctv _ _ J (Heap.get?_push_size _ rfl) (by rw [upd_ne n1, upd_ne n2]; exact I.hok.fresh big) (nofr _ big) upd_same (.inr ⟨_, new, rfl, by rw [lists]; exact PySem.TriplesOk_snoc _ _ _ _ tri, fun p cv z => ?_⟩)
    rw [lists] at z
    exact LamX.among_app _ tri z
end
def tLamG (P : Addr) (q : Str) (TT : Addr → (XK → Hp → VK → Prop) → Hp → VK → Prop) (t : XK → TE) : TE := fun σ H Q => ∃ ps : Array Value, H P = some (.tbl ps) ∧ TriplesOk ps.toList ∧
  (∀ pos cv, codeAmong pos ps.toList = some cv → ∃ c, cv = .ref c ∧ H c = some (CodeO c q)) ∧ ∀ H1 f cc, Grew P q ps cc H H1 → H1 cc = some (CodeO cc q) → TT f (fun E H' Q' => t E σ H' Q') H1 Q
section
variable {X : Cx}
theorem pe_lamcallG {TT : Addr → (XK → Hp → VK → Prop) → Hp → VK → Prop} {x a : Str} {g c P : Addr} {k j : Nat} {pg : Arguments} {bg : List Stmt} {sg : Scope} {dV kV doc pm cdv ct oc : Value} {an od : Option Addr} {osl : Array (Option Value)} {Ng : List Str}
    {params : Arguments} {body : Expr} {scope : Scope} {t : XK → TE} {p lpos pos : Pos} (hg : Gl X x) (hm : X.mg x = some (.ref g)) (hk : PySem.W.keepIn X.K (.ref g) = true)
    (lk : X.K.lookup g = some ⟨oc, od, .func (PySem.W.fnOf x x pg bg sg dV kV doc pm an cdv ct), osl⟩) (hcg : PySem.W.codeIn X.K cdv x = true) (hb : L2.Binds X.K (PySem.W.fnOf x x pg bg sg dV kV doc pm an cdv ct) [a] []) (Sg : FnScope Ng [a] sg)
    (hG : GivesN X k j Ng x sg g cdv bg (X.env.qual ++ "<lambda>") TT)
    (TB : TabB X.base X.mg c P) (hcode : X.env.code = .ref c) (hr : Room (j + 1) X.A) (L : LamS X.env.scope scope) (hdef : defaultsOf params X.env = ([], []))
    (hbind : ∀ (q : Str) (cl : List (Str × Addr)) (pm cv ctv : Value), bindArgs (PySem.W.kla_fn "<lambda>" q params body scope cl pm cv ctv) ⟨[], []⟩ = pure [])
    (hbody : ∀ (A : Around) (outer : List Env) (s : Shared) (H : Hp) (E : XK) (f c' : Addr), Room k (A.deeper (lamEnv X scope s.heap.objs.size f c')) → PE (lamCx X A outer s H E scope f c') body (t E))
    (hdb : (x == ("__debug__" : Str)) = false := by decide) :
    PE X (.Call (.Name x p) [.Lambda params body scope lpos] [] pos) (tLamG P (X.env.qual ++ "<lambda>") TT t) := by
  refine ⟨fun pins s σ H Q I ht0 => ?_⟩
  obtain ⟨ps, hP, tri, known, ht1⟩ := ht0
  refine wpAny_Call_Name_kw (ld_glob I hg hm ?_ hdb)
  refine PySem.W.callWith_K (h₀ := X.base) I.ok.mod.kin hk ?_ (by rfl) (by rfl)
  show wpAny _ _ (spliced ((false, eval (.Lambda params body scope lpos) X.env) :: backTo pos (starEach [] X.env))) _ _ s
  refine Calls.spliced_cons (lam_new2 I TB hcode hP tri known hdef (L.has I.ok) fun f c' pm2 ct2 H1 z1 I1 hf hfn hfr hco gr => ?_)
  refine Calls.spliced_nil ⟨I1.kIn, ?_⟩
  have run1 : codeAny (model X.prog X.w) X.A (.call (.ref g) ⟨[.ref f], []⟩) (CR C8.CX0 X.stack X.prog X.w H1 z1 Q C8.E0) z1 := by
    refine run_ofS (N := Ng) (ps := [a]) (us := [.ref f]) (vs := [.ref f]) lk hcg Sg hr I1.env0 (hb z1 [.ref f] I1.kIn rfl) (.cons rfl .nil) rfl fun hr2 => ?_
    obtain ⟨t2, ht2, hq2⟩ := hG f c' z1 H1 Q (fun E H' Q' => t E σ H' Q') (fun A2 stack2 s2 H2 Ng2 qg2 sg2 g2 cdg2 i2 a2 pn xe W E p1 p2 hU hst hst2 tk hW hr3 hN2 hv2 hd2 hcd2 =>
      pe_actN I1 L hU hst hst2 hf hfn hfr (hbind _ _ _ _ _) tk hW hr3 (fun A outer s H hr4 => hbody A outer s H E f c' hr4) hN2 hv2 hd2 hcd2) hco (ht1 H1 f c' gr hco) hr2
    exact ⟨t2, ht2.nox, hq2⟩
  refine wpAny_call (codeAny_mono run1 fun r z2 hq3 => ?_)
  cases r with
  | error e => exact (show False from hq3).elim
  | ok fl =>
    cases fl with
    | ret u => exact I1.after hq3
    | next => exact False.elim hq3
    | brk => exact False.elim hq3
    | cont => exact False.elim hq3
end
end TX
namespace TX
end TX
namespace TL
open PySem PySem.Spec PyProof.Rows L2
def npL (K : PySem.W.Frag) (T : List (Addr × Str)) (n : Nat) (σ0 : Stt) (X : XCont) (E : XK) : Np := ⟨n, T, fun B0 => ∀ (G : Hp) (ω : Own) (ρ : Env) (H : Hp) (C : Addr) (d : Option Addr) (fs : List (Str × D)), EnvW K B0 G ω ρ σ0 H → RpX K G d fs → X C fs ρ → E (.ref C) d H⟩
def liftL (K : PySem.W.Frag) (np : Np) (σ0 : Stt) (t : DTE) : TE := fun σ H Q => σ = σ0 ∧ lift K np t σ H Q
theorem callX_okG {K : PySem.W.Frag} {np : Np} {n : Nat} {S : DSpX} {t : DTA} {XC : XCont} {E : XK} (σ : Stt) (H : Hp) (Q : VK)
    (hcl : ∀ B, np.ok B → ∀ (G : Hp) (ω : Own) (ρ : Env) (H : Hp) (C : Addr) (d : Option Addr) (fs : List (Str × D)), EnvW K B G ω ρ σ H → RpX K G d fs → XC C fs ρ → E (.ref C) d H)
    (h : lift K np (dCallX n S XC t) σ H Q) : liftA K np t σ H fun vs H1 => toSpX K np.T n S vs H1 Q E := by
  obtain ⟨B, G, ρ, Qd, hn, eo, h, k⟩ := h
  refine ⟨B, G, ρ, _, hn, eo, h, fun G1 vs rs ρ1 H1 s1 e1 ar q1 => ?_⟩
  obtain ⟨ω1, e1⟩ := e1
  obtain ⟨hl, nd, q1⟩ := q1
  have hT : B.T = np.T := hn.T
  split at q1
  · rename_i args hs
    refine ⟨G1, inW ω1 rs, args, _, _, by rw [ar.length]; exact hl, by rw [← hT]; exact e1.enter ar nd hs, q1, fun G' ω' v r ss H' s f rr nsl q => ?_, fun G' ω' ss H' C d fs s f rx q => ?_⟩
    · rw [← hT] at f
      have e2 := e1.back2 ar nd hs s f
      refine k _ _ _ _ _ (s1.trans s) ⟨_, e2, ?_⟩ q
      cases r with
      | dat d => exact rr
      | sl j => exact absurd rfl (nsl j)
      | nw sl =>
        refine ⟨rr.1, rr.2.mono (.refl _) fun a z => ⟨?_, rfl⟩⟩
        rw [List.length_map] at z
        exact outW_tag ar.length.symm z
    · rw [← hT] at f
      have e2 := e1.back2 ar nd hs s f
      exact hcl B hn _ _ _ _ C d fs e2 rx q
  · exact q1.elim
section
variable {X : Cx} {k n n0 : Nat} {f : Addr} {fd : FuncData} {ps : List Str} {S : DSpX} {XC : XCont} {E : XK} {σ0 : Stt} {x : Str} {p pos : Pos} {e : Expr} {es : List Expr} {t : DTA} {T : List (Addr × Str)}
theorem d_callXL (F : FnOk X.prog X.w X.K X.mg X.base (L2.CX X.prog X.w) k f fd ps (toSpX X.K T n S)) (hr : Room k X.A) (hg : Gl X x) (hm : X.mg x = some (.ref f)) (hk : PySem.W.keepIn X.K (.ref f) = true) (hb : Binds X.K fd ps []) (tk : Takes X (fun cls d _ H => E cls d H))
    (ha : PA X (e :: es) (liftA X.K (npL X.K T n0 σ0 XC E) t)) (hdb : (x == ("__debug__" : Str)) = false := by decide) (he : starEach (e :: es) X.env = (false, eval e X.env) :: starEach es X.env := by rfl) (hpl : (backTo pos (starEach es X.env)).any (·.1) = false := by rfl) :
    PE X (.Call (.Name x p) (e :: es) [] pos) (liftL X.K (npL X.K T n0 σ0 XC E) σ0 (dCallX n S XC t)) := by
  refine (pe_call F hr hg hm hk hb .nil (passes_call tk fun _ _ _ _ z => z) ha hdb he hpl).mo fun σ H Q h => ?_
  obtain ⟨eσ, h⟩ := h
  subst eσ
  have := callX_okG (E := E) σ H Q (fun B hn G ω ρ H C d fs ew rx xc => by
    obtain ⟨B0, cl, back⟩ := hn.c
    exact cl _ _ _ _ C d fs (back _ _ _ _ _ _ ew) rx xc) h
  obtain ⟨B, G, ρ, Qd, a, b, c, d⟩ := this
  exact ⟨B, G, ρ, Qd, a, b, c, fun G' vs rs ρ' H' s e ar q => by show toSpX X.K T n S (vs ++ []) H' Q E; rw [List.append_nil]; exact d _ _ _ _ _ s e ar q⟩
end
abbrev RSp := Sl → (D → Prop) → Prop
def KeepsR (S : RSp) (N : Nat) (R : DTS) : Prop := ∀ e Qd, S e Qd → R (dEnd 0 fun r _ => ∃ d, r = .dat d ∧ Qd d) (.un :: e :: List.replicate (N - 2) .un)
section
variable {K : PySem.W.Frag} {B : Bs} {G G1 : Hp} {ω : Own} {ρ : Env} {σ : Stt} {H H1 : Hp} {v : V} {f : Addr} {N : List Str} {R : DTS} {S : RSp} {sl : Sl} {Q : VK} {Qd : Rs → Env → Prop}
theorem rest_ok (hR : KeepsR S N.length R) (hN : 2 ≤ N.length) (s1 : Same G G1) (e : EnvW K B G1 ω ρ σ H1) (hsl : SlOk K G1 H1 (fun _ => False) (some (some v)) sl) (h : S sl fun d => Qd (.dat d) ρ)
    (k : ∀ G' v r ρ' H', Same G G' → Fin K B G' ρ' σ H' v r → Qd r ρ' → Q v H') : liftS K (.of B.T 0) R { nx := fun _ H' => Q .non H', rt := Q } ((L2.start N [.ref f]).set 1 (some v)) H1 := by
  have e0 := e.enter (vs := []) (rs := []) (args := []) .nil rfl rfl
  obtain ⟨N2, hN2⟩ : ∃ n, N.length = n + 2 := ⟨N.length - 2, by omega⟩
  have ls : ((L2.start N [V.ref f]).set 1 (some v)).length = N.length := by
    rw [List.length_set]
    unfold L2.start
    rw [List.length_append, List.length_map, List.length_replicate]
    show 1 + (N.length - 1) = _
    omega
  have s1v : ((L2.start N [V.ref f]).set 1 (some v))[1]? = some (some v) := by
    rw [List.getElem?_set_self]
    rw [List.length_set] at ls
    omega
  have none_ : ∀ a i, inW ω [] a = some i → False := fun a i z => by
    unfold inW at z
    split at z
    · cases z
    · cases z
  have e2 : EnvW K (baseOf B.T G1 H1 (inW ω []) []) G1 (inW ω []) (.un :: sl :: List.replicate (N.length - 2) .un) ((L2.start N [.ref f]).set 1 (some v)) H1 := by
    refine ⟨e0.gle, e0.g0, e0.keep, fun a i z => (none_ a i z).elim, ?_, fun i s z => ?_, fun i s v z o p => by simp [baseOf] at p⟩
    · rw [ls]
      simp only [List.length_cons, List.length_replicate]
      omega
    · match i with
      | 0 => simp at z; subst z; trivial
      | 1 =>
        simp at z
        subst z
        rw [s1v]
        exact hsl.mono (.refl _) fun a z => z.elim
      | i + 2 =>
        simp only [List.getElem?_cons_succ] at z
        rw [List.getElem?_replicate] at z
        split at z
        · cases z; trivial
        · cases z
  have fin : ∀ {G' : Hp} {v' : V} {d : D} {ρ' : Env} {σ' : Stt} {H' : Hp}, Same G1 G' → Fin K (baseOf B.T G1 H1 (inW ω []) []) G' ρ' σ' H' v' (.dat d) → Qd (.dat d) ρ → Q v' H' := by
    intro G' v' d ρ' σ' H' s f q
    obtain ⟨ω', e3, r⟩ := f
    have e4 := e3.leave (q := σ'.length) fun i s w hi _ z => by simp at hi
    have e5 := e.back2 (vs := []) (rs := []) (args := []) .nil rfl rfl s e4
    refine k G' v' (.dat d) _ H' (s1.trans s) ⟨_, e5, r⟩ ?_
    exact q
  refine ⟨baseOf B.T G1 H1 (inW ω []) [], G1, .un :: sl :: List.replicate (N.length - 2) .un, dEnd 0 fun r _ => ∃ d, r = .dat d ∧ Qd (.dat d) ρ, .mk' rfl rfl trivial, ⟨_, e2⟩, hR sl _ h, fun G' ρ' σ' H' s eo z => ?_, fun G' v' r ρ' σ' H' s f z => ?_, fun _ _ _ _ _ _ z => z.elim, fun _ _ _ _ _ _ z => z.elim⟩
  · obtain ⟨d, ed, q⟩ := z
    cases ed
    exact fin s (eo.dat .non) q
  · cases r with
    | dat d =>
      obtain ⟨d', ed, q⟩ := z
      cases ed
      exact fin s f q
    | nw s => obtain ⟨d', ed, q⟩ := z; cases ed
    | sl j => obtain ⟨_, s, _, _, d', ed, q⟩ := z; cases ed
end
end TL
namespace TL
open PySem PySem.Spec PyProof.Rows L2 LamX SL
theorem EnvW.both2 {K : PySem.W.Frag} {B : Bs} {n : Nat} {G H G' H' : Hp} {ω ω' : Own} {args ρ : Env} {σ σ' : Stt} (e : EnvW K B G ω args σ H) (f : EnvW K (reB B G ω n H) G' ω' ρ σ' H') :
    ∃ G2, Same G G2 ∧ Same G' G2 ∧ EnvW K (reB B G ω n H) G2 ω' ρ σ' H' := by
  have here : ∀ a o, G a = some o → H' a = some o := fun a o g => by
    have ha := e.gle a o g
    refine f.keep.old a o ha (fun z => ?_) fun t => ?_
    · obtain ⟨i, _, w⟩ := z
      have := (e.own a i w).1
      rw [g] at this
      cases this
    · have t : B.tab a := t
      have := (e.tab t).1
      rw [g] at this
      cases this
  obtain ⟨G2, hG⟩ : ∃ G2 : Hp, G2 = fun a => match G' a with | some o => some o | none => G a := ⟨_, rfl⟩
  have g1 : ∀ a o, G' a = some o → G2 a = some o := fun a o g => by rw [hG]; show (match G' a with | some o => some o | none => G a) = some o; rw [g]
  have g2 : ∀ a, G' a = none → G2 a = G a := fun a g => by rw [hG]; show (match G' a with | some o => some o | none => G a) = G a; rw [g]
  have s1 : Same G G2 := fun a o g => by
    cases w : G' a with
    | none => rw [g2 a w]; exact g
    | some o' =>
      have h1 := f.gle a o' w
      have h2 := here a o g
      rw [h1] at h2
      rw [g1 a o' w]
      exact h2
  refine ⟨G2, s1, g1, ⟨fun a o g => ?_, fun a o g => ?_, f.keep.mono g1 (.refl _), fun a i q => ?_, f.len, fun i s q => (f.slot i s q).mono g1 fun a z => ⟨z, rfl⟩, f.pin⟩⟩
  · cases w : G' a with
    | none => rw [g2 a w] at g; exact here a o g
    | some o' =>
      rw [g1 a o' w] at g
      cases g
      exact f.gle a _ w
  · cases w : G' a with
    | none => rw [g2 a w] at g; exact .inl g
    | some o' =>
      rw [g1 a o' w] at g
      cases g
      exact f.g0 a _ w
  · obtain ⟨h1, h2, h3⟩ := f.own a i q
    refine ⟨?_, h2, h3⟩
    rw [g2 a h1]
    rcases h3 with z | z
    · obtain ⟨j, _, w⟩ := z
      exact (e.own a j w).1
    · exact Same.none e.gle z
def dRef (Ct : Addr → Prop) (SR : RSp) (te : XCont → DTE) : DTE := fun ρ Q => te (fun C fs ρ' => Ct C ∧ SR (.rs (.ex C fs)) fun d => Q (.dat d) ρ') ρ fun _ ρ' => SR (.fr .non) fun d => Q (.dat d) ρ'
end TL
namespace TL
open PySem PySem.Spec PyProof.Rows L2
def exK (ρ : Env) (i : Nat) : Option (Option (Addr × List (Str × D))) := match ρ[i]? with
  | some (.rs (.ex C fs)) => some (some (C, fs))
  | some (.fr .non) => some none
  | _ => none
def dIsX (J : Addr → Bool → Prop) (i : Nat) : DTE := fun ρ Q => match exK ρ i with
  | some (some (C, _)) => ∃ b, J C b ∧ Q (.dat (.bl b)) ρ
  | some none => Q (.dat (.bl false)) ρ
  | none => False
def dIsNX (neg : Bool) (i : Nat) : DTE := fun ρ Q => match exK ρ i with
  | some (some _) => Q (.dat (.bl neg)) ρ
  | some none => Q (.dat (.bl (!neg))) ρ
  | none => False
def dXg (T : Addr → Prop) (f : Str) (i : Nat) : DTE := fun ρ Q => match exK ρ i with
  | some (some (C, fs)) => T C ∧ (match fs.lookup f with | some d => Q (.dat d) ρ | none => False)
  | _ => False
theorem exK_some {ρ : Env} {i : Nat} {C : Addr} {fs : List (Str × D)} (h : exK ρ i = some (some (C, fs))) : ρ[i]? = some (.rs (.ex C fs)) := by
  unfold exK at h
  split at h
  · rename_i e; cases h; exact e
  · cases h
  · cases h
theorem exK_none {ρ : Env} {i : Nat} (h : exK ρ i = some none) : ρ[i]? = some (.fr .non) := by
  unfold exK at h
  split at h
  · cases h
  · rename_i e; exact e
  · cases h
section
variable {K : PySem.W.Frag} {B : Bs} {G : Hp} {ω : Own} {ρ : Env} {σ : Stt} {H : Hp} {i : Nat} {C : Addr} {fs : List (Str × D)}
theorem EnvW.exAt (e : EnvW K B G ω ρ σ H) (h : exK ρ i = some (some (C, fs))) : ∃ (a : Addr) (d : Option Addr), σ[i]? = some (some (.ref a)) ∧ H a = some (exv a (.ref C) d) ∧ RpX K G d fs := by
  obtain ⟨v, ev, a, d, rfl, g, r⟩ := e.slot i _ (exK_some h)
  exact ⟨a, d, ev, e.gle _ _ g, r⟩
theorem EnvW.noneAt (e : EnvW K B G ω ρ σ H) (h : exK ρ i = some none) : σ[i]? = some (some .non) := by
  obtain ⟨v, ev, r⟩ := e.slot i _ (exK_none h)
  cases r
  exact ev
theorem RpX.dok (e : EnvW K B G ω ρ σ H) {d : Option Addr} (r : RpX K G d fs) : TX.DOk H d := fun dd hd => by
  rcases r with ⟨e1, _⟩ | ⟨d2, vs, e1, g, _⟩
  · rw [e1] at hd; cases hd
  · rw [e1] at hd
    cases hd
    exact ⟨vs, e.gle _ _ g⟩
end
section
variable {X : Cx} {np : Np} {i : Nat} {x cn f : Str} {C0 : Addr} {p p1 p2 pos : Pos} {J : Addr → Bool → Prop} {T : Addr → Prop}
theorem call_isXi : CallR X (.builtin "isinstance") (fun xs H Q => TX.rIsX X.K xs H Q ∨ rIsi X.K xs H Q) := fun pins s σ H xs us Q I r h => h.elim (fun h => TX.call_isX pins s σ H xs us Q I r h) fun h => call_isi pins s σ H xs us Q I r h
theorem d_isX (hN : X.N[i]? = some x) (hv : Vis X.env.scope x) (hd : (x == ("__debug__" : Str)) = false) (hcd : (x == ("__classdict__" : Str)) = false) (hgI : Gl X "isinstance") (mI : X.mg "isinstance" = none) (bI : bootBuiltins "isinstance" = some (.builtin "isinstance")) (hgC : Gl X cn) (hmC : X.mg cn = some (.ref C0)) (hdC : (cn == ("__debug__" : Str)) = false)
    (hJ : ∀ C b, J C b → ExcC X.K C ∧ PySem.W.kitOne X.K (.ref C) (.ref C0) = some b) (hNone : PySem.W.kitOne X.K (.type "NoneType") (.ref C0) = some false)
    (he : starEach [.Name x p1, .Name cn p2] X.env = (false, eval (.Name x p1) X.env) :: starEach [.Name cn p2] X.env := by rfl) (he2 : starEach [.Name cn p2] X.env = (false, eval (.Name cn p2) X.env) :: starEach [] X.env := by rfl) (hpl : (backTo pos (starEach [.Name cn p2] X.env)).any (·.1) = false := by rfl) :
    PE X (.Call (.Name "isinstance" p) [.Name x p1, .Name cn p2] [] pos) (lift X.K np (dIsX J i)) := by
  refine (pe_callB call_isXi hgI mI bI (pa_cons (pe_var (i := i) hN hv hd hcd) (pa_cons (pe_glob (v := .ref C0) hgC hmC rfl hdC) pa_nil he2)) (by decide) (by decide) he hpl).mo fun σ H Q h => ?_
  obtain ⟨B, G, ρ, Qd, hn, eo, h, k⟩ := h
  obtain ⟨ω, e⟩ := eo
  have same : ∀ u, RelV (.ref C0) u → u = .ref C0 := fun u r => r
  unfold dIsX at h
  split at h
  · rename_i C fs hx
    obtain ⟨a, d, ev, ha, rx⟩ := e.exAt hx
    obtain ⟨b, hb, h⟩ := h
    obtain ⟨h1, h2⟩ := hJ C b hb
    exact ⟨.ref a, ev, .inl ⟨a, C, d, .ref C0, .ref C0, b, rfl, ha, rx.dok e, h1, same, h2, k _ _ _ _ _ (.refl _) (e.dat (.bl b)) h⟩⟩
  · rename_i hx
    exact ⟨.non, e.noneAt hx, .inr ⟨.non, .ref C0, .type "NoneType", .ref C0, false, rfl, by constructor, by constructor; constructor, hNone, k _ _ _ _ _ (.refl _) (e.dat (.bl false)) h⟩⟩
  · exact h.elim
theorem isNX_ok (σ : Stt) (H : Hp) (Q : VK) (h : lift X.K np (dIsNX false i) σ H Q) : tIsN (tVar i) σ H Q := by
  obtain ⟨B, G, ρ, Qd, hn, eo, h, k⟩ := h
  obtain ⟨ω, e⟩ := eo
  unfold dIsNX at h
  split at h
  · rename_i q hx
    obtain ⟨C, fs⟩ := q
    obtain ⟨a, d, ev, ha, rx⟩ := e.exAt hx
    exact ⟨.ref a, ev, k _ _ _ _ _ (.refl _) (e.dat (.bl false)) h⟩
  · rename_i hx
    exact ⟨.non, e.noneAt hx, k _ _ _ _ _ (.refl _) (e.dat (.bl true)) h⟩
  · exact h.elim
theorem d_isNXT (hN : X.N[i]? = some x) (hv : Vis X.env.scope x) (hd : (x == ("__debug__" : Str)) = false) (hcd : (x == ("__classdict__" : Str)) = false) {j : Nat} {p3 : Pos} : PT X (.Compare (.Name x p1) [.Is] [.Constant .none j p3] pos) (liftT X.K np (dTst (dIsNX false i))) :=
  (pt_cmp (pc_isN (pe_var (i := i) hN hv hd hcd))).mo fun σ H Q h => tst_ok (t := tIsN (tVar i)) (fun σ H Q h => isNX_ok σ H Q h) σ H Q h
theorem d_xg (hN : X.N[i]? = some x) (hv : Vis X.env.scope x) (hd : (x == ("__debug__" : Str)) = false) (hcd : (x == ("__classdict__" : Str)) = false) (hT : ∀ C, T C → XfC X.K C ∧ PySem.W.findIn X.K (.ref C) f = some none)
    (hb : attributeBase (.Name x p1) f X.env (eval (.Name x p1) X.env) = eval (.Name x p1) X.env := by rfl) : PE X (.Attribute (.Name x p1) f pos) (lift X.K np (dXg T f i)) := by
  refine (TX.pe_xg (pe_var (i := i) hN hv hd hcd) hb).mo fun σ H Q h => ?_
  obtain ⟨B, G, ρ, Qd, hn, eo, h, k⟩ := h
  obtain ⟨ω, e⟩ := eo
  unfold dXg at h
  split at h
  · rename_i C fs hx
    obtain ⟨hC, h⟩ := h
    obtain ⟨h1, h2⟩ := hT C hC
    obtain ⟨a, d, ev, ha, rx⟩ := e.exAt hx
    rcases rx with ⟨_, e2⟩ | ⟨dd, vs, e1, g, rf⟩
    · rw [e2] at h
      exact h.elim
    · split at h
      · rename_i d2 hl
        obtain ⟨w, hw, rw'⟩ := rf.look hl
        rw [e1] at ha
        exact ⟨.ref a, ev, a, C, dd, vs, w, rfl, ha, e.gle _ _ g, h1, h2, hw, k _ _ _ _ _ (.refl _) (e.dat rw') h⟩
      · exact h.elim
  · exact h.elim
end
end TL
namespace TX
open PySem PySem.Spec PyProof.Rows L2
theorem band {a b : Bool} (h : (a && b) = true) : a = true ∧ b = true := Bool.and_eq_true_iff.mp h
def oexC (K : PySem.W.Frag) (C : Addr) : Bool := match K.lookup C with
  | some ⟨.type "type", _, .cls cd, sl⟩ => (match cd.mro, sl.toList with
    | .ref C' :: bm, [_, _, _, _, some (.builtin n), _] => C' == C && (n == "ValueError.__new__" && (!cd.hasDel && (cd.hasDict && HandSPX.refsVE bm)))
    | _, _ => false)
  | _ => false
def oexB (K : PySem.W.Frag) (C : Addr) : Bool := oexC K C && (decide (PySem.W.findIn K (.ref C) "__setattr__" = some (some (.builtin "object.__setattr__"))) && (decide (PySem.W.subIn K (.ref C) (.type "BaseException") = some true) && (decide (PySem.W.typeIn K (.ref C) = some (.type "type")) && PySem.W.keepIn K (.ref C))))
theorem oex_of {K : PySem.W.Frag} {C : Addr} (h : oexB K C = true) : OexC K C := by
  obtain ⟨h1, h⟩ := band h
  obtain ⟨h2, h⟩ := band h
  obtain ⟨h3, h⟩ := band h
  obtain ⟨h4, h5⟩ := band h
  refine ⟨?_, of_decide_eq_true h2, of_decide_eq_true h3, of_decide_eq_true h4, h5⟩
  unfold oexC at h1
  split at h1
  · rename_i dd cd sl found
    split at h1
    · rename_i C' bm k0 k1 k2 k3 n k5 em es
      obtain ⟨a1, h1⟩ := band h1
      obtain ⟨a2, h1⟩ := band h1
      obtain ⟨a3, h1⟩ := band h1
      obtain ⟨a4, a5⟩ := band h1
      have a1 := beq_iff_eq.mp a1
      have a2 := beq_iff_eq.mp a2
      subst a1 a2
      obtain ⟨nm, bs, mro, ns, qn, hd, sn, sub, ab, col, del⟩ := cd
      dsimp only at em a3 a4
      have a3 : del = false := by simpa using a3
      subst em a3 a4
      have hsl : sl = #[k0, k1, k2, k3, some (.builtin "ValueError.__new__"), k5] := by
        obtain ⟨l⟩ := sl
        simp only at es
        rw [es]
      subst hsl
      exact ⟨nm, qn, ns, bs, bm, sn, sub, ab, col, dd, k0, k1, k2, k3, k5, found, a5⟩
    · cases h1
  · cases h1
def excB (K : PySem.W.Frag) (D : Addr) : Bool := decide (PySem.W.findIn K (.ref D) "__getattribute__" = some (some (.builtin "BaseException.__getattribute__"))) && (decide (PySem.W.findIn K (.ref D) "__getattr__" = some none) && (decide (PySem.W.subIn K (.ref D) (.type "BaseException") = some true) && (PySem.W.hasDictIn K D &&
  (decide (PySem.W.findIn K (.ref D) "__class__" = some (some (.builtin "object.__class__"))) && (decide (PySem.W.specialIn K (.builtin "object.__class__") "__get__" = some (some (.builtin "getset_descriptor.__get__"))) && (decide (PySem.W.takesIn K (.builtin "object.__class__") = some true) && decide (PySem.W.mroIn K D (.type "object") = some true)))))))
theorem exc_of {K : PySem.W.Frag} {D : Addr} (h : excB K D = true) : ExcC K D := by
  obtain ⟨h1, h⟩ := band h
  obtain ⟨h2, h⟩ := band h
  obtain ⟨h3, h⟩ := band h
  obtain ⟨h4, h⟩ := band h
  obtain ⟨h5, h⟩ := band h
  obtain ⟨h6, h⟩ := band h
  obtain ⟨h7, h8⟩ := band h
  exact ⟨of_decide_eq_true h1, of_decide_eq_true h2, of_decide_eq_true h3, h4, of_decide_eq_true h5, of_decide_eq_true h6, of_decide_eq_true h7, of_decide_eq_true h8⟩
def valIs : Option PySem.W.CFound → Value → Bool
  | some (.val v), u => decide (v = u)
  | _, _ => false
theorem valIs_ok {o : Option PySem.W.CFound} {u : Value} (h : valIs o u = true) : o = some (.val u) := by
  unfold valIs at h
  split at h
  · rw [of_decide_eq_true h]
  · cases h
def baseB (K : PySem.W.Frag) (B : Addr) : Bool := PySem.W.readsIn K B (.type "type") && (valIs (PySem.W.findCls K (.ref B) (.type "type") "__init__") (.builtin "ValueError.__init__") && decide (PySem.W.specialIn K (.ref B) "__getattribute__" = some (some (.builtin "type.__getattribute__"))))
theorem base_of {K : PySem.W.Frag} {B : Addr} (h : baseB K B = true) : BaseC K B := by
  obtain ⟨h1, h⟩ := band h
  obtain ⟨h2, h3⟩ := band h
  exact ⟨h1, valIs_ok h2, of_decide_eq_true h3⟩
def kitB (K : PySem.W.Frag) (t c : Value) (b : Bool) : Bool := decide (PySem.W.kitOne K t c = some b)
theorem kit_of {K : PySem.W.Frag} {t c : Value} {b : Bool} (h : kitB K t c b = true) : PySem.W.kitOne K t c = some b := of_decide_eq_true h
def exmB (K : PySem.W.Frag) (C D : Addr) : Bool := decide (PySem.W.exmOne K (.ref C) (.ref D) = some true)
theorem exm_of {K : PySem.W.Frag} {C D : Addr} (h : exmB K C D = true) : PySem.W.exmOne K (.ref C) (.ref D) = some true := of_decide_eq_true h
def iniB (K : PySem.W.Frag) (C f : Addr) : Bool := decide (PySem.W.findIn K (.ref C) "__init__" = some (some (.ref f))) && decide (PySem.W.typeIn K (.ref f) = some (.type "function"))
theorem ini_of {K : PySem.W.Frag} {C f : Addr} (h : iniB K C f = true) : PySem.W.findIn K (.ref C) "__init__" = some (some (.ref f)) ∧ PySem.W.typeIn K (.ref f) = some (.type "function") := by
  obtain ⟨h1, h2⟩ := band h
  exact ⟨of_decide_eq_true h1, of_decide_eq_true h2⟩
def noB (K : PySem.W.Frag) (C : Addr) (f : Str) : Bool := decide (PySem.W.findIn K (.ref C) f = some none)
theorem no_of {K : PySem.W.Frag} {C : Addr} {f : Str} (h : noB K C f = true) : PySem.W.findIn K (.ref C) f = some none := of_decide_eq_true h
end TX
namespace TL
open PySem PySem.Spec PyProof.Rows L2
section
variable {P : Program} {w : World} {K : PySem.W.Frag} {mg : Str → Option Value} {base : Heap}
theorem okG_treeC {T : List (Addr × Str)} {CX : CXT} {x qual : Str} {st : Stmt} {f : Addr} {fd : FuncData} {N ps : List Str} {k : Nat} {S : DSp} {t : DTS} (F : Fun K x qual st f fd) (sc : FnScope N ps (defScope st))
    (hb : ∀ (cdv : Value) (_ : cdv = .ref (TLH.codeAt K f)) (A : Around) (outer : List PySem.Env) (s : Shared) (H : Hp) (E : XK), A.guards = some [] → Room k (A.deeper (envOfC qual (defScope st) s.heap.objs.size f cdv)) →
      PSs (cxOf CX P w K mg base N qual (defScope st) f cdv A outer s H E) (defBody st) (liftS K (.of T ps.length) t))
    (hS : Keeps S ps.length N.length t) : FnG P w K mg base CX (k + 1) f fd ps (toSp K T ps.length S) := by
  obtain ⟨oc, od, kV, doc, pm, an, cdv, ct, osl, rfl, found, coded⟩ := F.ex
  obtain ⟨cc, rfl⟩ := He.codeIn_ref coded
  have ec : (Value.ref cc) = .ref (TLH.codeAt K f) := by rw [TLH.codeAt_eq found rfl]
  refine ⟨fun xs H Q E z => by obtain ⟨_, _, _, _, z, _⟩ := z; exact z, fun A up s0 H ar us xs Q E gz room en bt vv pr => ?_⟩
  have cnt := (show xs.length = ps.length by obtain ⟨_, _, _, _, z, _⟩ := pr; exact z)
  have inK : K.In s0.heap := en.mod.kin.keeps fun b o y => (en.bs b o y).1
  have free : s0.heap.NoLimit := en.mod.nolimit.keeps fun b o y => (en.bs b o y).1
  have kinds : ∀ y ∈ ps.zip us, (defScope st).names.lookup y.1 = some .local ∨ ((defScope st).names.lookup y.1 = some .cell ∧ ((cellsFrom (s0.heap.objs.size + 1) (defScope st).names []).lookup y.1).isSome = true) := by
    rintro ⟨nm, v⟩ hy
    rcases sc.par nm (List.of_mem_zip hy).1 with z | z
    · exact .inl z
    · exact .inr ⟨z, PySem.W.cellsFrom_some _ _ _ (.inl z)⟩
  refine codeAny_call_function room.depth (inK _ _ found) rfl sc.co sc.gen rfl (PySem.W.codeRec_of inK coded) (bt _ _ _ _ ?_)
  refine wpAny_newFunctionEnv_cells sc.kind kinds fun ev hev s1 ic => ?_
  subst hev
  refine ⟨free.keeps ic.toInCall.keep, codeAny_func ?_⟩
  have J : Inv (cxOf CX P w K mg base N qual (defScope st) f (.ref cc) A up s0 H E) [] (L2.start N xs) H s1 := inv_start sc room.hd en cnt vv ic
  refine wpAny_mono ((hb _ ec A up s0 H E gz (room.deeper _)).run [] s1 (L2.start N xs) H _ J (body_ok hS pr)) (fun fl s2 hs => ?_) fun _ _ y => y
  cases fl with
  | ret u =>
    obtain ⟨v, σ2, H2, J2, rv, q⟩ := hs
    exact ⟨v, H2, J2.os, J2.bare, J2.base, J2.hok, rv, q⟩
  | next =>
    obtain ⟨σ2, H2, J2, q⟩ := hs
    exact ⟨.non, H2, J2.os, J2.bare, J2.base, J2.hok, rfl, q⟩
  | brk =>
    obtain ⟨_, _, _, q⟩ := hs
    exact q.elim
  | cont =>
    obtain ⟨_, _, _, q⟩ := hs
    exact q.elim
end
end TL
namespace TL
end TL
namespace TL
open PySem PySem.Spec PyProof.Rows L2
theorem passesX {X : Cx} {J : Value → Shared → Prop} {E1 : Value → Shared → Prop} (hx : X.xe = fun e s1 => wpAny (model X.prog X.w) X.A (leaving X.env e) (fun _ s2 => J e s2) E1 s1) : PassesOwn (model X.prog X.w) X.A X.env X.xe :=
  hx ▸ PassesOwn.leaving
end TL
namespace TX
open PySem PySem.Spec PyProof.Rows L2 LamX
open TL (exv)
def TTrS (K : PySem.W.Frag) (KE : Addr) (T : List (Addr × Str)) (N : List Str) (R : TL.DTS) : Addr → (XK → Hp → VK → Prop) → Hp → VK → Prop := fun f tl H Q =>
  tl (fun cls d H' => PySem.W.exmOne K cls (.ref KE) = some true ∧ ∀ a, H' a = none → ∀ σ : L2.St, σ.length = N.length → σ[1]? = some (some (.ref a)) → TL.liftS K (.of T 0) R { nx := fun _ H' => Q .non H', rt := Q } σ (upd H' a (exv a cls d))) H
    fun _ H' => TL.liftS K (.of T 0) R { nx := fun _ H' => Q .non H', rt := Q } ((L2.start N [.ref f]).set 1 (some .non)) H'
theorem takes_lenN {X : Cx} {W : WX} {n : Nat} (hn : X.N.length = n) (t : Takes X W) : Takes X (fun c d σ H => σ.length = n → W c d σ H) := fun u s' ⟨a, B, sI, pins, σ, H, cls, d, e, I, nb, up, sky, na, os, ag, w⟩ =>
  t u s' ⟨a, B, sI, pins, σ, H, cls, d, e, I, nb, up, sky, na, os, ag, w (I.len.trans hn)⟩
section
variable {X : Cx}
theorem own_gives {T : List (Addr × Str)} {R : TL.DTS} {x q : Str} {sg : Scope} {g KE : Addr} {cdg : Value} {rest : List Stmt} {N : List Str} {k j0 : Nat} {p1 p2 p3 p4 p5 p6 p7 p8 p9 p10 p11 p12 : Pos}
    (nd : N.Nodup) (hN0 : N[0]? = some ("_law_work" : Str)) (hN1 : N[1]? = some ("_law_caught" : Str)) (hN2 : N[2]? = some ("error" : Str)) (hw : sg.names.lookup ("_law_work" : Str) = some .local) (hc1 : sg.names.lookup ("_law_caught" : Str) = some .local) (he : sg.names.lookup ("error" : Str) = some .local)
    (hge : sg.names.lookup ("KeeperError" : Str) = some .globalImplicit) (hme : X.mg ("KeeperError" : Str) = some (.ref KE))
    (hrest : ∀ (s : Shared) (H : Hp), Room (k + 1) (X.A.deeper (envOfC x sg s.heap.objs.size g cdg)) → PSs (cxOf C8.CX0 X.prog X.w X.K X.mg X.base N x sg g cdg X.A X.stack s H C8.E0).nox rest (TL.liftS X.K (.of T 0) R)) :
    GivesN X k (k + 1) N x sg g cdg (.Assign [.Name "_law_caught" p1] (.Constant .none j0 p2) p3 :: .Try [.Expr (.Call (.Name "_law_work" p4) [] [] p5) p6] [.ExceptHandler (some (.Name "KeeperError" p7)) (some "error") [.Assign [.Name "_law_caught" p8] (.Name "error" p9) p10] p11] [] [] p12 :: rest) q (TTrS X.K KE T N R) := by
  intro f c' s H Q tl act hc ht hr
  have hgl : Gl (cxOf C8.CX0 X.prog X.w X.K X.mg X.base N x sg g cdg X.A X.stack s H C8.E0).nox "KeeperError" := hge
  obtain ⟨n, hn⟩ : ∃ n, N.length = n + 3 := ⟨N.length - 3, by
    have : 2 < N.length := (List.getElem?_eq_some_iff.mp hN2).1
    omega⟩
  have h0 : (L2.start N [V.ref f])[0]? = some (some (V.ref f)) := by
    cases N with
    | nil => cases hN0
    | cons a l => rfl
  have h1 : ((L2.start N [V.ref f]).set 1 (some .non))[0]? = some (some (V.ref f)) := by
    rw [List.getElem?_set_ne (by decide)]
    exact h0
  refine ⟨_, pss_cons (ps_set (i := 1) nd hN1 (.inl hc1) pe_non (by rfl) (.inr hc1)) (pss_cons (ps_try_keep (X := (cxOf C8.CX0 X.prog X.w X.K X.mg X.base N x sg g cdg X.A X.stack s H C8.E0).nox) (c := .ref KE) (i := 2)
      (tb := fun W D σ H => ∃ Ech : XK, (∀ cls d σ' H', Ech cls d H' → σ'.length = N.length → W cls d σ' H') ∧ σ[0]? = some (some (.ref f)) ∧ H c' = some (CodeO c' q) ∧ tl Ech H fun _ H' => D.nx σ H')
      (ts := fun a cls d => tAsg (tVar 2) (gName 1)) rfl rfl rfl nd hN2 he ⟨hgl, by decide +kernel, .inl hme⟩ LamX.takes0 (fun W pn xe tk _ => ?_) (fun a oe cls d pn _ _ => pss_one (ps_set (i := 1) nd hN1 (.inl hc1) (pe_var (i := 2) hN2 (.inl he)) (by rfl) (.inr hc1)))) (hrest s H hr)), ?_⟩
  · refine ⟨fun pins s' σ H' D I h' => ?_⟩
    obtain ⟨Ech, hW, h1, h2, h3⟩ := h'
    have hp := act X.A X.stack s H N x sg g cdg 0 "_law_work" pn xe (fun c d σ H => σ.length = N.length → W c d σ H) Ech p4 p5 (Un.refl ..) (fun _ _ _ z => z) (fun _ z => z) (takes_lenN rfl tk) (fun cls d σ' H' z => hW cls d σ' H' z) hr hN0 (.inl hw) (by decide) (by decide)
    have hq := pss_one (ps_expr (pos := p6) hp)
    exact hq.run pins s' σ H' D I ⟨h1, h2, h3⟩
  · refine ⟨fun cls d H' => PySem.W.exmOne X.K cls (.ref KE) = some true ∧ ∀ a, H' a = none → ∀ σ : L2.St, σ.length = N.length → σ[1]? = some (some (.ref a)) → TL.liftS X.K (.of T 0) R { nx := fun _ H' => Q .non H', rt := Q } σ (upd H' a (exv a cls d)), fun cls d σ' H' hz hl => ?_, h1, hc, ?_⟩
    · obtain ⟨e1, k⟩ := hz
      rw [hn] at hl
      match σ', hl with
      | a0 :: a1 :: a2 :: r, hl => exact ⟨true, e1, fun _ a na => ⟨.ref a, rfl, k a na _ (by rw [hn]; simpa using hl) rfl⟩, fun z => nomatch z⟩
    · exact ht
end
end TX
namespace TL
open PySem PySem.Spec PyProof.Rows L2 LamX SL
section
variable {K : PySem.W.Frag} {B : Bs} {G G1 : Hp} {ω : Own} {ρ : Env} {σ : Stt} {H H1 : Hp} {v : V} {f : Addr} {N : List Str} {R : DTS} {S : RSp} {sl : Sl} {Q : VK} {Qd : Rs → Env → Prop}
theorem rest_okS (hR : KeepsR S N.length R) (hN : 2 ≤ N.length) {σ0 : Stt} (ls : σ0.length = N.length) (s1v : σ0[1]? = some (some v)) (s1 : Same G G1) (e : EnvW K B G1 ω ρ σ H1) (hsl : SlOk K G1 H1 (fun _ => False) (some (some v)) sl) (h : S sl fun d => Qd (.dat d) ρ)
    (k : ∀ G' v r ρ' H', Same G G' → Fin K B G' ρ' σ H' v r → Qd r ρ' → Q v H') : liftS K (.of B.T 0) R { nx := fun _ H' => Q .non H', rt := Q } σ0 H1 := by
  have e0 := e.enter (vs := []) (rs := []) (args := []) .nil rfl rfl
  obtain ⟨N2, hN2⟩ : ∃ n, N.length = n + 2 := ⟨N.length - 2, by omega⟩
  have none_ : ∀ a i, inW ω [] a = some i → False := fun a i z => by
    unfold inW at z
    split at z
    · cases z
    · cases z
  have e2 : EnvW K (baseOf B.T G1 H1 (inW ω []) []) G1 (inW ω []) (.un :: sl :: List.replicate (N.length - 2) .un) σ0 H1 := by
    refine ⟨e0.gle, e0.g0, e0.keep, fun a i z => (none_ a i z).elim, ?_, fun i s z => ?_, fun i s v z o p => by simp [baseOf] at p⟩
    · rw [ls]
      simp only [List.length_cons, List.length_replicate]
      omega
    · match i with
      | 0 => simp at z; subst z; trivial
      | 1 =>
        simp at z
        subst z
        rw [s1v]
        exact hsl.mono (.refl _) fun a z => z.elim
      | i + 2 =>
        simp only [List.getElem?_cons_succ] at z
        rw [List.getElem?_replicate] at z
        split at z
        · cases z; trivial
        · cases z
  have fin : ∀ {G' : Hp} {v' : V} {d : D} {ρ' : Env} {σ' : Stt} {H' : Hp}, Same G1 G' → Fin K (baseOf B.T G1 H1 (inW ω []) []) G' ρ' σ' H' v' (.dat d) → Qd (.dat d) ρ → Q v' H' := by
    intro G' v' d ρ' σ' H' s f q
    obtain ⟨ω', e3, r⟩ := f
    have e4 := e3.leave (q := σ'.length) fun i s w hi _ z => by simp at hi
    have e5 := e.back2 (vs := []) (rs := []) (args := []) .nil rfl rfl s e4
    refine k G' v' (.dat d) _ H' (s1.trans s) ⟨_, e5, r⟩ ?_
    exact q
  refine ⟨baseOf B.T G1 H1 (inW ω []) [], G1, .un :: sl :: List.replicate (N.length - 2) .un, dEnd 0 fun r _ => ∃ d, r = .dat d ∧ Qd (.dat d) ρ, .mk' rfl rfl trivial, ⟨_, e2⟩, hR sl _ h, fun G' ρ' σ' H' s eo z => ?_, fun G' v' r ρ' σ' H' s f z => ?_, fun _ _ _ _ _ _ z => z.elim, fun _ _ _ _ _ _ z => z.elim⟩
  · obtain ⟨d, ed, q⟩ := z
    cases ed
    exact fin s (eo.dat .non) q
  · cases r with
    | dat d =>
      obtain ⟨d', ed, q⟩ := z
      cases ed
      exact fin s f q
    | nw s => obtain ⟨d', ed, q⟩ := z; cases ed
    | sl j => obtain ⟨_, s, _, _, d', ed, q⟩ := z; cases ed
end
section
variable {X : Cx} {np : Np}
theorem d_refS {x a : Str} {g c P KE : Addr} {k j : Nat} {pg : Arguments} {bg : List Stmt} {sg : Scope} {dV kV doc pm cdv ct oc : Value} {an od : Option Addr} {osl : Array (Option Value)} {N : List Str} {R : DTS} {SR : RSp} {Ct : Addr → Prop} {te : XCont → DTE}
    {params : Arguments} {body : Expr} {scope : Scope} {p lpos pos : Pos} (hg : Gl X x) (hm : X.mg x = some (.ref g)) (hk : PySem.W.keepIn X.K (.ref g) = true)
    (lk : X.K.lookup g = some ⟨oc, od, .func (PySem.W.fnOf x x pg bg sg dV kV doc pm an cdv ct), osl⟩) (hcg : PySem.W.codeIn X.K cdv x = true) (hb : L2.Binds X.K (PySem.W.fnOf x x pg bg sg dV kV doc pm an cdv ct) [a] []) (Sg : FnScope N [a] sg)
    (hG : TX.GivesN X k j N x sg g cdv bg (X.env.qual ++ "<lambda>") (TX.TTrS X.K KE np.T N R))
    (TB : TabB X.base X.mg c P) (hcode : X.env.code = .ref c) (hT : (P, X.env.qual ++ "<lambda>") ∈ np.T) (hu : ∀ p ∈ np.T, p.1 = P → p.2 = X.env.qual ++ "<lambda>") (hr : Room (j + 1) X.A) (L : LamS X.env.scope scope) (hdef : defaultsOf params X.env = ([], []))
    (hbind : ∀ (q : Str) (cl : List (Str × Addr)) (pm cv ctv : Value), bindArgs (PySem.W.kla_fn "<lambda>" q params body scope cl pm cv ctv) ⟨[], []⟩ = pure [])
    (hte : ∀ (A : Around) (outer : List PySem.Env) (s : Shared) (H : Hp) (E : XK) (f c' : Addr) (XC : XCont) (σ0 : Stt), Room k (A.deeper (lamEnv X scope s.heap.objs.size f c')) → PE (lamCx X A outer s H E scope f c') body (liftL X.K (npL X.K np.T np.n σ0 XC E) σ0 (te XC)))
    (hR : KeepsR SR N.length R) (hN : 2 ≤ N.length) (hCt : ∀ C, Ct C → PySem.W.exmOne X.K (.ref C) (.ref KE) = some true) (hdb : (x == ("__debug__" : Str)) = false := by decide) :
    PE X (.Call (.Name x p) [.Lambda params body scope lpos] [] pos) (lift X.K np (dRef Ct SR te)) := by
  refine (TX.pe_lamcallG (t := fun E σ H Q => ∃ XC, liftL X.K (npL X.K np.T np.n σ XC E) σ (te XC) σ H Q) hg hm hk lk hcg hb Sg hG TB hcode hr L hdef hbind (fun A outer s H E f c' hr2 => ⟨fun pins s2 σ H2 Q I h => by
    obtain ⟨XC, h⟩ := h
    exact (hte A outer s H E f c' XC σ hr2).run pins s2 σ H2 Q I h⟩) hdb).mo fun σ H Q h => ?_
  obtain ⟨B, G, ρ, Qd, hn, eo, h, k⟩ := h
  obtain ⟨ω, e⟩ := eo
  have hT' : (P, X.env.qual ++ "<lambda>") ∈ B.T := by rw [hn.T]; exact hT
  have hu' : ∀ p ∈ B.T, p.1 = P → p.2 = X.env.qual ++ "<lambda>" := by rw [hn.T]; exact hu
  obtain ⟨ps, hP, tri, known⟩ := e.keep.tabs _ hT'
  refine ⟨ps, hP, tri, fun pos cv z => ?_, fun H1 f cc gr hcc => ?_⟩
  · obtain ⟨c, e1, e2⟩ := known pos cv z
    exact ⟨c, e1, e.gle _ _ e2⟩
  · obtain ⟨G2, s2, e2⟩ := e.grew hT' hu' known gr
    have kk : ∀ G' v r ρ' H', Same G2 G' → Fin X.K B G' ρ' σ H' v r → Qd r ρ' → Q v H' := fun G' v r ρ' H' s f q => k G' v r ρ' H' (s2.trans s) f q
    have eT : np.T = B.T := hn.T.symm
    refine ⟨fun C fs ρ' => Ct C ∧ SR (.rs (.ex C fs)) fun d => Qd (.dat d) ρ', rfl, reB B G2 ω ρ.length H1, G2, ρ, fun _ ρ' => SR (.fr .non) fun d => Qd (.dat d) ρ', ⟨hn.n, hn.T, reB B G2 ω ρ.length H1, ?_, fun _ _ _ _ _ _ z => z⟩, ⟨_, e2.rebase⟩, h, fun G' v r ρ' H' s f q => ?_⟩
    · intro G3 ω3 ρ3 H3 C d fs e3 rx xc
      refine ⟨hCt C xc.1, fun a na σ1 hl1 hv1 => ?_⟩
      obtain ⟨sg, e4⟩ := e3.newG (p := a) (o := exv a (.ref C) d) na
      rw [eT]
      obtain ⟨G5, s5, s6, e5⟩ := e2.both2 e4
      exact rest_okS (sl := .rs (.ex C fs)) hR hN hl1 hv1 s5 (e2.back e5) ⟨_, rfl, a, d, rfl, s6 _ _ upd_same, (rx.mono sg).mono s6⟩ xc.2 kk
    · obtain ⟨ω', e3, r⟩ := f
      rw [eT]
      exact rest_ok (sl := .fr .non) hR hN s (e2.back (e3.dropTag (Nat.le_refl _))) ⟨.non, rfl, .non⟩ q kk
theorem d_refO {x : Str} {str : Stmt} {g c P KE : Addr} {fdr : FuncData} {k j0 : Nat} {N : List Str} {R : DTS} {SR : RSp} {Ct : Addr → Prop} {te : XCont → DTE} {rest : List Stmt} {params : Arguments} {body : Expr} {scope : Scope} {p lpos pos p1 p2 p3 p4 p5 p6 p7 p8 p9 p10 p11 p12 : Pos}
    (Fr : Fun X.K x x str g fdr) (kr : PySem.W.keepIn X.K (.ref g) = true) (br : Binds X.K fdr ["_law_work"] []) (sr : FnScope N ["_law_work"] (defScope str)) (hg : Gl X x) (hm : X.mg x = some (.ref g)) (hme : X.mg ("KeeperError" : Str) = some (.ref KE))
    (hN0 : N[0]? = some ("_law_work" : Str)) (hN1 : N[1]? = some ("_law_caught" : Str)) (hN2 : N[2]? = some ("error" : Str)) (nd : N.Nodup) (hN : 2 ≤ N.length)
    (hbr : defBody str = .Assign [.Name "_law_caught" p1] (.Constant .none j0 p2) p3 :: .Try [.Expr (.Call (.Name "_law_work" p4) [] [] p5) p6] [.ExceptHandler (some (.Name "KeeperError" p7)) (some "error") [.Assign [.Name "_law_caught" p8] (.Name "error" p9) p10] p11] [] [] p12 :: rest)
    (lw : (defScope str).names.lookup ("_law_work" : Str) = some .local) (lc : (defScope str).names.lookup ("_law_caught" : Str) = some .local) (le : (defScope str).names.lookup ("error" : Str) = some .local) (ck : (defScope str).names.lookup ("KeeperError" : Str) = some .globalImplicit)
    (hrest : ∀ (cdv : Value) (s : Shared) (H : Hp), Room (k + 1) (X.A.deeper (envOfC x (defScope str) s.heap.objs.size g cdv)) → PSs (cxOf C8.CX0 X.prog X.w X.K X.mg X.base N x (defScope str) g cdv X.A X.stack s H C8.E0).nox rest (liftS X.K (.of np.T 0) R))
    (TB : TabB X.base X.mg c P) (hcode : X.env.code = .ref c) (hT : (P, X.env.qual ++ "<lambda>") ∈ np.T) (hu : ∀ p ∈ np.T, p.1 = P → p.2 = X.env.qual ++ "<lambda>") (hr : Room (k + 2) X.A) (L : LamS X.env.scope scope) (hdef : defaultsOf params X.env = ([], []))
    (hbind : ∀ (q : Str) (cl : List (Str × Addr)) (pm cv ctv : Value), bindArgs (PySem.W.kla_fn "<lambda>" q params body scope cl pm cv ctv) ⟨[], []⟩ = pure [])
    (hR : KeepsR SR N.length R) (hCt : ∀ C, Ct C → PySem.W.exmOne X.K (.ref C) (.ref KE) = some true)
    (hte : ∀ (A : Around) (outer : List PySem.Env) (s : Shared) (H : Hp) (E : XK) (f c' : Addr) (XC : XCont) (σ0 : Stt), Room k (A.deeper (lamEnv X scope s.heap.objs.size f c')) → PE (lamCx X A outer s H E scope f c') body (liftL X.K (npL X.K np.T np.n σ0 XC E) σ0 (te XC)))
    (hdb : (x == ("__debug__" : Str)) = false := by decide) :
    PE X (.Call (.Name x p) [.Lambda params body scope lpos] [] pos) (lift X.K np (dRef Ct SR te)) := by
  obtain ⟨oc, od, kV, doc, pm, an, cdv, ct, osl, rfl, lk, hcd⟩ := Fr.ex
  refine d_refS (j := k + 1) hg hm kr lk hcd br sr ?_ TB hcode hT hu hr L hdef hbind hte hR hN hCt hdb
  rw [hbr]
  exact TX.own_gives nd hN0 hN1 hN2 lw lc le ck hme fun s H hr2 => hrest cdv s H hr2
end
end TL
namespace TL
open PySem PySem.Spec PyProof.Rows L2 LamX
section
variable {X : Cx} {CX : CXT} {k n m n0 : Nat} {f : Addr} {fd : FuncData} {ps ks : List Str} {sp : Sp} {S : DSpX} {XC : XCont} {E : XK} {σ0 : Stt} {x : Str} {p pos : Pos} {e : Expr} {es : List Expr} {kws : List Keyword} {t u : DTA} {ta tk : TA} {T : List (Addr × Str)}
  {g : List Value → List Value → List Value} {gV : List V → List V → List V}
theorem pe_callPK (F : FnOk X.prog X.w X.K X.mg X.base CX k f fd ps sp) (hr : Room k X.A) (hg : Gl X x) (hm : X.mg x = some (.ref f)) (hk : PySem.W.keepIn X.K (.ref f) = true) (hb : KBn X.K fd ps n ks g gV) (hx : Passes CX X E)
    (ha : PA X (e :: es) ta) (hkw : PK X kws tk) (hall : (backToKw pos (keywordEach kws X.env)).all (·.1.isSome) = true := by rfl) (hks : (backToKw pos (keywordEach kws X.env)).filterMap (·.1) = ks := by rfl) (hdb : (x == ("__debug__" : Str)) = false := by decide)
    (he : starEach (e :: es) X.env = (false, eval e X.env) :: starEach es X.env := by rfl) (hpl : ((backTo pos (starEach (e :: es) X.env)).any (·.1) || (backToKw pos (keywordEach kws X.env)).any (·.1.isNone)) = false := by rfl) :
    PE X (.Call (.Name x p) (e :: es) kws pos) (fun σ H Q => ta σ H fun vs H1 => tk σ H1 fun zs H2 => vs.length = n ∧ zs.length = ks.length ∧ sp (gV vs zs) H2 Q E) := by
  refine ⟨fun pns st σ H Q J h => ?_⟩
  refine wpAny_Call_Name_kw (ld_glob J hg hm ?_ hdb)
  refine PySem.W.callWith_KW (h₀ := X.base) J.ok.mod.kin hk hall (thn (ha.run pos pns st σ H _ J h) fun us st1 ⟨vs, H1, J1, r, q⟩ => ?_) hpl he
  refine thn (hkw.run pos pns st1 σ H1 _ J1 q) fun ws st2 ⟨zs, H2, J2, rz, l1, l2, q2⟩ => ⟨J2.kIn, ?_⟩
  rw [hks]
  exact run_fnN F hr hb hx J2 r rz l1 l2 q2
theorem d_callXLK (π : List Nat) (ks : List Str) (F : FnOk X.prog X.w X.K X.mg X.base (L2.CX X.prog X.w) k f fd ps (toSpX X.K T n S)) (hr : Room k X.A) (hg : Gl X x) (hm : X.mg x = some (.ref f)) (hk : PySem.W.keepIn X.K (.ref f) = true)
    (hb : KBn X.K fd ps m ks (fun us ws => us ++ sel π ws) (fun us ws => us ++ sel π ws)) (tk : Takes X (fun cls d _ H => E cls d H)) (ha : PA X (e :: es) (liftA X.K (npL X.K T n0 σ0 XC E) t)) (hkw : PK X kws (liftA X.K (npL X.K T n0 σ0 XC E) u))
    (hall : (backToKw pos (keywordEach kws X.env)).all (·.1.isSome) = true := by rfl) (hks : (backToKw pos (keywordEach kws X.env)).filterMap (·.1) = ks := by rfl) (hdb : (x == ("__debug__" : Str)) = false := by decide)
    (he : starEach (e :: es) X.env = (false, eval e X.env) :: starEach es X.env := by rfl) (hpl : ((backTo pos (starEach (e :: es) X.env)).any (·.1) || (backToKw pos (keywordEach kws X.env)).any (·.1.isNone)) = false := by rfl) :
    PE X (.Call (.Name x p) (e :: es) kws pos) (liftL X.K (npL X.K T n0 σ0 XC E) σ0 (dCallX n S XC (dApp m π ks.length t u))) := by
  refine (pe_callPK F hr hg hm hk hb (passes_call tk fun _ _ _ _ z => z) ha hkw hall hks hdb he hpl).mo fun σ H Q h => ?_
  obtain ⟨eσ, h⟩ := h
  subst eσ
  have h1 := callX_okG (E := E) σ H Q (fun B hn G ω ρ H C d fs ew rx xc => by
    obtain ⟨B0, cl, back⟩ := hn.c
    exact cl _ _ _ _ C d fs (back _ _ _ _ _ _ ew) rx xc) h
  exact liftA_app h1
end
end TL
namespace TL
open PySem PySem.Spec PyProof.Rows L2
section
variable {X : Cx} {K : PySem.W.Frag} {T : List (Addr × Str)} {n0 : Nat} {XC : XCont} {E0 : XK} {e : Expr} {te : DTE} {pos pos' : Pos}
theorem ds_setX (i : Nat) {x : Str} (hN : X.N.Nodup) (h : PE X e (lift X.K (npX K T n0 XC E0) te)) (hi : X.N[i]? = some x := by rfl) (hx : Loc X.env.scope x := by first | exact Or.inl rfl | exact Or.inr rfl)
    (hs : swapsWith e (some (.Name x pos')) pos.line X.env = pure false := by rfl) (hf : X.fn x = true ∨ X.env.scope.names.lookup x = some .local := by first | exact .inl rfl | exact .inr rfl) :
    PS X (.Assign [.Name x pos'] e pos) (liftS X.K (npX K T n0 XC E0) (dSet n0 i te)) := ds_set (np := npX K T n0 XC E0) i hN h hi hx hs hf
end
section
variable {X : Cx} {CX : CXT} {K : PySem.W.Frag} {T : List (Addr × Str)} {kk n n0 : Nat} {XC : XCont} {E0 E : XK} {σ0 : Stt} {C f : Addr} {fd : FuncData} {ps : List Str} {S : DSp} {x : Str} {p pos : Pos} {e : Expr} {es : List Expr} {u : DTA}
theorem d_makeX (M : Mk X.K C f) (F : FnOk X.prog X.w X.K X.mg X.base CX kk f fd ps (toSp X.K T n S)) (hr : Room (kk + 1) X.A) (hg : Gl X x) (hm : X.mg x = some (.ref C)) (hb : Binds X.K fd ps []) (hx : Passes CX X E)
    (ha : PA X (e :: es) (liftA X.K (npX K T n0 XC E0) u)) (hdb : (x == ("__debug__" : Str)) = false := by decide) (he : starEach (e :: es) X.env = (false, eval e X.env) :: starEach es X.env := by rfl) (hpl : (backTo pos (starEach es X.env)).any (·.1) = false := by rfl) :
    PE X (.Call (.Name x p) (e :: es) [] pos) (lift X.K (npX K T n0 XC E0) (dMake n0 C n S u)) := d_make (np := npX K T n0 XC E0) M F hr hg hm hb hx ha hdb he hpl
theorem d_makeL (M : Mk X.K C f) (F : FnOk X.prog X.w X.K X.mg X.base CX kk f fd ps (toSp X.K T n S)) (hr : Room (kk + 1) X.A) (hg : Gl X x) (hm : X.mg x = some (.ref C)) (hb : Binds X.K fd ps []) (hx : Passes CX X E)
    (ha : PA X (e :: es) (liftA X.K (npL K T n0 σ0 XC E0) u)) (hdb : (x == ("__debug__" : Str)) = false := by decide) (he : starEach (e :: es) X.env = (false, eval e X.env) :: starEach es X.env := by rfl) (hpl : (backTo pos (starEach es X.env)).any (·.1) = false := by rfl) :
    PE X (.Call (.Name x p) (e :: es) [] pos) (lift X.K (npL K T n0 σ0 XC E0) (dMake n0 C n S u)) := d_make (np := npL K T n0 σ0 XC E0) M F hr hg hm hb hx ha hdb he hpl
end
end TL
namespace Lk04
open PySem PySem.Spec PyProof.Rows L2 TL
def S_is_word : DSp := Sp_is_word
def Lk4 (d : D) : Prop := Fine topN 3000 50 d
theorem Lk4.lk {d : D} (h : Lk4 d) : Lk d := h.mono (by decide) (Nat.le_refl _)
theorem lk4_mem {xs : List D} (h : Lk4 (.tup xs)) {x : D} (hx : x ∈ xs) : Lk4 x := by
  obtain ⟨m, e, f⟩ := h.tup'
  exact (f.mem hx).mono (Nat.le_refl _) (by omega)
theorem lk4_len {xs : List D} (h : Lk4 (.tup xs)) : xs.length ≤ 3000 := by
  obtain ⟨m, e, f⟩ := h.tup'
  exact Nat.le_trans (wtL_length xs) f.lw
def inS (ss : List Str) : D → Bool
  | .str z => decide (z ∈ ss)
  | _ => false
def tx (xs : List D) : List Str := (txs xs).getD []
def diffB (ss : List Str) : D → Bool
  | .tup xs => xs.all (inS ss) && decide (distinct (tx xs) = xs.length)
  | _ => false
def SeqS (e : D) (ss : List Str) : Prop := e = .tup (ss.map .str) ∨ e = .lst (ss.map .str)
def S_are_different : DSp := fun args Q => ∃ d e ss, args = [.fr d, .fr e] ∧ SeqS e ss ∧ Lk4 d ∧ Q (.dat (.bl (diffB ss d))) [.un, .un]
theorem gIn_seq {neg : Bool} {y : Str} {e : D} {ss : List Str} {P : Rs → Prop} (he : SeqS e ss) (h : P (.dat (.bl (neg ^^ decide (y ∈ ss))))) : gIn neg (.str y) e P := by
  rcases he with rfl | rfl
  · unfold gIn
    show (match fvs (ss.map D.str) with | some bs => P (.dat (.bl (neg ^^ inV (.str y) bs))) | none => False)
    rw [fvs_strs]
    show P (.dat (.bl (neg ^^ inV (.str y) (ss.map V.str))))
    rw [inV_str]
    exact h
  · exact gIn_lst h
theorem in_slot {neg : Bool} {ρ : TL.Env} {R : Rs → TL.Env → Prop} {i j : Nat} {y : Str} {e : D} {ss : List Str} (h1 : ρ[i]? = some (.fr (.str y))) (h2 : ρ[j]? = some (.fr e)) (he : SeqS e ss) (h : R (.dat (.bl (neg ^^ decide (y ∈ ss)))) ρ) : dBin (gIn neg) (dVar i) (dVar j) ρ R := by
  unfold dBin dVar
  simp only [h1, h2]
  exact W2_mk rfl rfl (gIn_seq he h)
theorem isT_str {d : D} : isT "str" d = match d with | .str _ => true | _ => false := by
  cases d <;> first | rfl | (show subT _ _ = _; decide)
theorem tyOk_s : tyOk "str" = true := by decide
section
variable {Q : Rs → TL.Env → Prop} {ρ0 : TL.Env} {d e : D} {ss : List Str}
theorem one_ok {x : D} {R : Rs → TL.Env → Prop} (he : SeqS e ss) (hx : Lk4 x) (h : R (.dat (.bl (inS ss x))) [.fr d, .fr e, .fr x]) :
    dAndV (dCB gIsi (dCons (dVar 2) (dCons (dC (.ty "str")) dNil))) (dBin (gIn false) (dVar 2) (dVar 1)) [.fr d, .fr e, .fr x] R := by
  refine ⟨tyN_some hx.lk, tyOk_s, ?_⟩
  cases x with
  | str z =>
    refine in_slot (i := 2) (j := 1) (y := z) (ρ := [.fr d, .fr e, .fr (.str z)]) rfl rfl he ?_
    rw [Bool.false_xor]
    exact h
  | _ => exact h
theorem all_loop (he : SeqS e ss) : ∀ (xs : List D) (acc : List Bool) (o : Sl), (∀ x ∈ xs, Lk4 x) → acc.length + xs.length ≤ 3000 → Q (.nw (.ls ((acc ++ xs.map (inS ss)).map .bl))) [.fr d, .fr e, frO ρ0[2]?] →
    dLcL (hName 2) dYes (dAndV (dCB gIsi (dCons (dVar 2) (dCons (dC (.ty "str")) dNil))) (dBin (gIn false) (dVar 2) (dVar 1))) [2] ρ0 xs (acc.map .bl) [.fr d, .fr e, o] Q
  | [], acc, o, _, _, h => by
    have h' : Q (.nw (.ls (acc.map .bl))) [.fr d, .fr e, frO ρ0[2]?] := by simpa using h
    exact h'
  | x :: xs, acc, o, hx, hl, h => by
    refine one_ok (ss := ss) he (hx x (by simp)) ⟨by rw [List.length_map]; have := line_big; simp at hl; omega, ?_⟩
    have := all_loop he xs (acc ++ [inS ss x]) (.fr x) (fun y hy => hx y (List.mem_cons_of_mem _ hy)) (by simp at hl ⊢; omega) (by simpa using h)
    rw [List.map_append] at this
    exact this
end
def r_are_different : DTS := (dSeq (dIf ((dOrT ((dNotT ((dTst ((dCB gIsi (dCons ((dVar 0)) (dCons ((dC (.ty "tuple"))) dNil)))))))) ((dNotT ((dTst ((dCB gAll (dCons ((dLc (iSeq ((dFrz (dVar 0)))) (hName 2) (dYes) ((dAndV ((dCB gIsi (dCons ((dVar 2)) (dCons ((dC (.ty "str"))) dNil)))) ((dBin (gIn false) ((dVar 2)) ((dVar 1)))))) [2])) dNil))))))))) (dRet (dC (.bl false))) dNext)
      (dRet ((dBin (gEq false) ((dLenSet ((dVar 0)))) ((dCB gLen (dCons ((dVar 0)) dNil)))))))
theorem txs_all {ss : List Str} : ∀ {xs : List D}, xs.all (inS ss) = true → ∃ zs, xs = zs.map .str ∧ txs xs = some zs
  | [], _ => ⟨[], rfl, rfl⟩
  | x :: xs, h => by
    rw [List.all_cons, Bool.and_eq_true] at h
    obtain ⟨h1, h2⟩ := h
    obtain ⟨zs, e, f⟩ := txs_all h2
    cases x with
    | str z =>
      refine ⟨z :: zs, by rw [e]; rfl, ?_⟩
      show (match txs xs with | some zs => some (z :: zs) | none => none) = _
      rw [f]
    | _ => cases h1
theorem gAll_map {bs : List Bool} {P : Rs → Prop} (h : P (.dat (.bl (bs.all id)))) : gAll [.lst (bs.map .bl)] P := by
  unfold gAll
  show (match bls (bs.map D.bl) with | some bs => P (.dat (.bl (bs.all id))) | none => False)
  rw [bls_map]
  exact h
theorem lenSet_ok {ρ : TL.Env} {R : Rs → TL.Env → Prop} {i : Nat} {xs : List D} {zs : List Str} (h1 : ρ[i]? = some (.fr (.tup xs))) (h2 : txs xs = some zs) (h3 : zs.length ≤ 4000) (h : R (.dat (.int (distinct zs : Nat))) ρ) : dLenSet (dVar i) ρ R := by
  unfold dLenSet dVar
  simp only [h1]
  show (match txs xs with | some xs => xs.length ≤ 4000 ∧ R (.dat (.int (distinct xs : Nat))) ρ | none => False)
  rw [h2]
  exact ⟨h3, h⟩
theorem k_are_different : Keeps S_are_different 2 3 r_are_different := by
  rintro args Q h0 ⟨d, e, ss, rfl, he, hd, h⟩
  clear h0
  by_cases ht : ∃ xs, d = .tup xs
  · obtain ⟨xs, rfl⟩ := ht
    have hl := lk4_len hd
    refine ⟨rfl, tyOk_t, ?_⟩
    refine all_loop (ρ0 := [.fr (.tup xs), .fr e, .un]) he xs [] .un (fun x hx => lk4_mem hd hx) (by simpa using hl) ?_
    dsimp only [stl, dNil, vals, val, WL]
    refine gAll_map ?_
    rw [List.nil_append, List.all_map]
    refine ite2' (c := !(xs.all (id ∘ inS ss))) (fun e1 => ?_) (fun e1 => ?_)
    · have eb : diffB ss (.tup xs) = false := by
        have e1 : xs.all (inS ss) = false := by simpa using e1
        show (xs.all (inS ss) && _) = false
        rw [e1]; rfl
      rw [eb] at h
      exact h
    · have e1 : xs.all (inS ss) = true := by simpa using e1
      obtain ⟨zs, e2, e3⟩ := txs_all e1
      have eb : diffB ss (.tup xs) = decide (V.int (distinct zs : Nat) = V.int (xs.length : Nat)) := by
        show (xs.all (inS ss) && decide (distinct ((txs xs).getD []) = xs.length)) = _
        rw [e1, e3]
        show (true && decide (distinct zs = xs.length)) = _
        rw [Bool.true_and]
        refine decide_eq_decide.mpr ⟨fun z => by rw [z], fun z => ?_⟩
        injection z with z
        omega
      have hz : zs.length ≤ 4000 := by
        have : xs.length = zs.length := by rw [e2, List.length_map]
        omega
      unfold dNext
      dsimp only
      unfold dRet dBin
      refine lenSet_ok (ρ := [.fr (.tup xs), .fr e, .un]) (i := 0) (xs := xs) (zs := zs) rfl e3 hz ?_
      rw [eb] at h
      show Q (.dat (.bl (false ^^ _))) _
      rw [Bool.false_xor]
      exact h
  · have ht' : ∀ xs, d ≠ .tup xs := fun xs e => ht ⟨xs, e⟩
    refine ⟨tyN_some hd.lk, tyOk_t, ?_⟩
    refine ite2' (c := !(isT "tuple" d)) (fun _ => ?_) (fun e => by rw [isT_no ht'] at e; cases e)
    have eb : diffB ss d = false := by
      cases d with
      | tup xs => exact absurd rfl (ht' xs)
      | _ => rfl
    rw [eb] at h
    exact h
def deeds : List Str := ["clear", "correct", "hold", "make", "mark", "release", "strike"]
def marks : List Str := ["alone", "bare", "child", "free", "going", "gone", "held", "others", "right", "strays", "there", "tidy", "unwanted", "wanted", "wrong"]
def kinds : List Str := ["other", "own", "stray", "thing"]
def one : List D → Bool
  | [w] => isWord w
  | _ => false
def isDeed : D → Bool
  | .tup (.str z :: r) => if z = "turn" then one r else r.isEmpty && decide (z ∈ deeds)
  | _ => false
def lenT : D → Nat
  | .tup xs => xs.length
  | _ => 0
def isRuleB : D → Bool
  | .tup [m, d, k] => diffB marks m && (decide (lenT m ≤ 6) && (isDeed d && diffB kinds k))
  | _ => false
def S_is_deed : DSp := fun args Q => ∃ d, args = [.fr d] ∧ Lk4 d ∧ Q (.dat (.bl (isDeed d))) [.un]
def S_is_rule : DSp := fun args Q => ∃ d, args = [.fr d] ∧ Lk4 d ∧ Q (.dat (.bl (isRuleB d))) [.un]
def r_is_deed : DTS := (dSeq (dIf ((dOrT ((dNotT ((dTst ((dCB gIsi (dCons ((dVar 0)) (dCons ((dC (.ty "tuple"))) dNil)))))))) ((dOrT ((dTst (dBin (gEq false) ((dVar 0)) ((dTup dNil))))) ((dNotT ((dTst ((dCB gIsi (dCons ((dBin gIx ((dVar 0)) (dC (.int 0)))) (dCons ((dC (.ty "str"))) dNil)))))))))))) (dRet (dC (.bl false))) dNext)
      (dSeq (dIf ((dTst (dBin (gEq false) ((dBin gIx ((dVar 0)) (dC (.int 0)))) ((dC (.str "turn")))))) (dRet ((dAndV ((dBin (gEq false) ((dCB gLen (dCons ((dVar 0)) dNil))) (dC (.int 2)))) ((dCall 1 S_is_word (dCons ((dBin gIx ((dVar 0)) (dC (.int 1)))) dNil)))))) dNext)
      (dRet ((dAndV ((dBin (gEq false) ((dCB gLen (dCons ((dVar 0)) dNil))) (dC (.int 1)))) ((dBin (gIn false) ((dBin gIx ((dVar 0)) (dC (.int 0)))) ((dC (.tup [.str "clear", .str "correct", .str "hold", .str "make", .str "mark", .str "release", .str "strike"]))))))))))
def r_is_rule : DTS := (dSeq (dIf ((dOrT ((dNotT ((dTst ((dCB gIsi (dCons ((dVar 0)) (dCons ((dC (.ty "tuple"))) dNil)))))))) ((dTst (dBin (gEq true) ((dCB gLen (dCons ((dVar 0)) dNil))) (dC (.int 3))))))) (dRet (dC (.bl false))) dNext)
      (dSeq (dAsg ((dFrz (dVar 0))) (hTup 3 (hCons (hName 1) (hCons (hName 2) (hCons (hName 3) hNil)))))
      (dRet ((dAndV ((dCall 2 S_are_different (dCons ((dFrz (dVar 1))) (dCons ((dC (.tup [.str "alone", .str "bare", .str "child", .str "free", .str "going", .str "gone", .str "held", .str "others", .str "right", .str "strays", .str "there", .str "tidy", .str "unwanted", .str "wanted", .str "wrong"]))) dNil)))) ((dAndV ((dBin gLe ((dCB gLen (dCons ((dVar 1)) dNil))) ((dC (.int 6))))) ((dAndV ((dCall 1 S_is_deed (dCons ((dFrz (dVar 2))) dNil))) ((dCall 2 S_are_different (dCons ((dFrz (dVar 3))) (dCons ((dC (.tup [.str "other", .str "own", .str "stray", .str "thing"]))) dNil)))))))))))))
theorem str_eq {z y : Str} : (false ^^ decide (V.str z = V.str y)) = decide (z = y) := by
  rw [Bool.false_xor]
  exact decide_eq_decide.mpr ⟨fun e => by injection e, fun e => by rw [e]⟩
theorem isT_str_no {x : D} (h : ∀ z, x ≠ .str z) : isT "str" x = false := by
  rw [isT_str]
  cases x with
  | str z => exact absurd rfl (h z)
  | _ => rfl
theorem ix_c {ρ : TL.Env} {R : Rs → TL.Env → Prop} {i : Nat} {xs : List D} {k : Int} {x : D} (hi : ρ[i]? = some (.fr (.tup xs))) (e : atI xs k = some x) (h : R (.dat x) ρ) : dBin gIx (dVar i) (dC (.int k)) ρ R := by
  unfold dBin dVar dC
  simp only [hi]
  exact W2_mk (x := .tup xs) (y := .int k) rfl rfl (gIx_tup e h)
theorem dBin_ix {ρ : TL.Env} {R : Rs → TL.Env → Prop} {i : Nat} {xs : List D} {k : Int} {x y : D} {g : DOp2} (hi : ρ[i]? = some (.fr (.tup xs))) (e : atI xs k = some x) (h : g x y fun r => R r ρ) : dBin g (dBin gIx (dVar i) (dC (.int k))) (dC y) ρ R := by
  unfold dBin dVar dC
  simp only [hi]
  exact W2_mk (x := .tup xs) (y := .int k) rfl rfl (gIx_tup e (W2_mk (x := x) (y := y) rfl rfl h))
theorem eq_tu {x : D} {r : List D} {P : Rs → Prop} (h : P (.dat (.bl false))) : gEq false (.tup (x :: r)) (.tup []) P := h
def rDeed2 : DTS := (dSeq (dIf ((dTst (dBin (gEq false) ((dBin gIx ((dVar 0)) (dC (.int 0)))) ((dC (.str "turn")))))) (dRet ((dAndV ((dBin (gEq false) ((dCB gLen (dCons ((dVar 0)) dNil))) (dC (.int 2)))) ((dCall 1 S_is_word (dCons ((dBin gIx ((dVar 0)) (dC (.int 1)))) dNil)))))) dNext)
      (dRet ((dAndV ((dBin (gEq false) ((dCB gLen (dCons ((dVar 0)) dNil))) (dC (.int 1)))) ((dBin (gIn false) ((dBin gIx ((dVar 0)) (dC (.int 0)))) ((dC (.tup [.str "clear", .str "correct", .str "hold", .str "make", .str "mark", .str "release", .str "strike"])))))))))
theorem deed2_ok {Q : Rs → List Sl → Prop} {z : Str} {r : List D} (hd : Lk4 (.tup (.str z :: r))) (h : Q (.dat (.bl (isDeed (.tup (.str z :: r))))) [.un]) : rDeed2 (dEnd 1 Q) [.fr (.tup (.str z :: r))] := by
  have e0 : atI (.str z :: r) 0 = some (.str z) := atI_nat (j := 0) rfl
  unfold rDeed2 dSeq dIf dTst
  refine dBin_ix rfl e0 ?_
  refine ite2' (c := false ^^ decide (V.str z = V.str "turn")) (fun e => ?_) (fun e => ?_)
  · rw [str_eq] at e
    have eb : isDeed (.tup (.str z :: r)) = one r := if_pos (of_decide_eq_true e)
    rw [eb] at h
    match r, hd, h with
    | [], hd, h => exact h
    | [w], hd, h => exact ⟨rfl, rfl, w, rfl, (lk4_mem hd (x := w) (by simp)).lk, h⟩
    | _ :: _ :: _, hd, h => exact h
  · rw [str_eq] at e
    have eb : isDeed (.tup (.str z :: r)) = (r.isEmpty && decide (z ∈ deeds)) := if_neg (of_decide_eq_false e)
    rw [eb] at h
    match r, hd, h with
    | [], hd, h =>
      show dBin (gIn false) (dBin gIx (dVar 0) (dC (.int 0))) (dC (.tup (deeds.map .str))) [.fr (.tup [.str z])] (dEnd 1 Q).rt
      refine dBin_ix (y := .tup (deeds.map .str)) rfl e0 (gIn_seq (ss := deeds) (.inl rfl) ?_)
      rw [Bool.false_xor]
      exact h
    | _ :: _, hd, h => exact h
theorem k_is_deed : Keeps S_is_deed 1 1 r_is_deed := by
  rintro args Q h0 ⟨d, rfl, hd, h⟩
  clear h0
  by_cases ht : ∃ xs, d = .tup xs
  · obtain ⟨xs, rfl⟩ := ht
    refine ⟨rfl, tyOk_t, sz0, ?_⟩
    match xs, hd, h with
    | [], hd, h => exact h
    | x :: r, hd, h =>
      have e0 : atI (x :: r) 0 = some x := atI_nat (j := 0) rfl
      refine W2_mk rfl rfl (eq_tu ?_)
      simp only [val, stl, WB, Bool.false_eq_true, if_false]
      unfold dNotT dTst dCB dCons
      refine ix_c rfl e0 ?_
      refine ⟨tyN_some (lk4_mem hd (x := x) (by simp)).lk, tyOk_s, ?_⟩
      by_cases hs : ∃ z, x = .str z
      · obtain ⟨z, rfl⟩ := hs
        exact deed2_ok hd h
      · have hs' : ∀ z, x ≠ .str z := fun z e => hs ⟨z, e⟩
        have eb : isDeed (.tup (x :: r)) = false := by
          cases x with
          | str z => exact absurd rfl (hs' z)
          | _ => rfl
        rw [eb] at h
        refine ite2' (c := !(isT "str" x)) (fun _ => h) (fun e => by rw [isT_str_no hs'] at e; cases e)
  · have ht' : ∀ xs, d ≠ .tup xs := fun xs e => ht ⟨xs, e⟩
    refine ⟨tyN_some hd.lk, tyOk_t, ?_⟩
    refine ite2' (c := !(isT "tuple" d)) (fun _ => ?_) (fun e => by rw [isT_no ht'] at e; cases e)
    have eb : isDeed d = false := by
      cases d with
      | tup xs => exact absurd rfl (ht' xs)
      | _ => rfl
    rw [eb] at h
    exact h
theorem k_is_rule : Keeps S_is_rule 1 4 r_is_rule := by
  rintro args Q h0 ⟨d, rfl, hd, h⟩
  clear h0
  by_cases ht : ∃ xs, d = .tup xs
  · obtain ⟨xs, rfl⟩ := ht
    refine ⟨rfl, tyOk_t, ?_⟩
    match xs, hd, h with
    | [], hd, h => exact h
    | [a], hd, h => exact h
    | [a, b], hd, h => exact h
    | [m, dd, k], hd, h =>
      have e : isRuleB (.tup [m, dd, k]) = (diffB marks m && (decide (lenT m ≤ 6) && (isDeed dd && diffB kinds k))) := rfl
      rw [e] at h
      refine ⟨rfl, rfl, rfl, rfl, m, .tup (marks.map .str), marks, rfl, .inl rfl, lk4_mem hd (by simp), ?_⟩
      refine ite2' (c := diffB marks m) (fun e1 => ?_) (fun e1 => by rw [e1] at h; exact h)
      rw [e1] at h
      have ⟨ms, em⟩ : ∃ ms, m = .tup ms := by
        cases m with
        | tup ms => exact ⟨ms, rfl⟩
        | _ => cases e1
      subst em
      have e2 : decide ((ms.length : Int) ≤ 6) = decide (lenT (.tup ms) ≤ 6) := decide_eq_decide.mpr ⟨fun z => by show ms.length ≤ 6; omega, fun z => by have : ms.length ≤ 6 := z; omega⟩
      refine ite2' (c := decide ((ms.length : Int) ≤ 6)) (fun e3 => ?_) (fun e3 => by rw [← e2, e3] at h; exact h)
      rw [← e2, e3] at h
      refine ⟨rfl, rfl, dd, rfl, lk4_mem hd (by simp), ?_⟩
      refine ite2' (c := isDeed dd) (fun e4 => ?_) (fun e4 => by rw [e4] at h; exact h)
      rw [e4] at h
      exact ⟨rfl, rfl, k, .tup (kinds.map .str), kinds, rfl, .inl rfl, lk4_mem hd (by simp), h⟩
    | a :: b :: c :: e :: r, hd, h => exact h
  · have ht' : ∀ xs, d ≠ .tup xs := fun xs e => ht ⟨xs, e⟩
    refine ⟨tyN_some hd.lk, tyOk_t, ?_⟩
    refine ite2' (c := !(isT "tuple" d)) (fun _ => ?_) (fun e => by rw [isT_no ht'] at e; cases e)
    have eb : isRuleB d = false := by
      cases d with
      | tup xs => exact absurd rfl (ht' xs)
      | _ => rfl
    rw [eb] at h
    exact h
end Lk04
namespace TL
open PySem PySem.Spec PyProof.Rows L2
def Sg_begun : DSp := fun args Q => ∃ ns : List Int, args = [.fr (.scr ns)] ∧ ns.length ≤ 63 ∧ Q (.nw (.rs (.sg 1000000000000))) [.un]
def Sg_mixed : DSp := fun args Q => ∃ L C r t b, args = [.rs (.sgx L C r t (b + 1))] ∧ C.length ≤ 63 ∧ 0 ≤ t ∧ t + b ≤ 1000000000000 ∧ ∀ z, Q (.dat (.int z)) [.rs (.sgx L C r (t + 1) b)]
def Sg_take : DSp := fun args Q => ∃ b n, args = [.rs (.sg b), .fr (.int n)] ∧ 1 ≤ b ∧ 0 < n ∧ n < 1073741824 ∧ ∀ k b', 0 ≤ k → k < n → b ≤ b' + 1 → Q (.dat (.int k)) [.rs (.sg b'), .un]
def Sg_pick : DSp := fun args Q => ∃ b d xs, args = [.rs (.sg b), .fr d] ∧ itemsD d = some xs ∧ 1 ≤ b ∧ xs ≠ [] ∧ xs.length < 1073741824 ∧ ∀ x b', x ∈ xs → b ≤ b' + 1 → Q (.dat x) [.rs (.sg b'), .un]
def Sg_word : DSp := fun args Q => ∃ b, args = [.rs (.sg b)] ∧ 10 ≤ b ∧ ∀ z b', Wd z → b ≤ b' + 10 → Q (.dat (.str z)) [.rs (.sg b')]
def Sg_words : DSp := fun args Q => ∃ (b i : Nat), args = [.rs (.sg b), .fr (.int i)] ∧ i ≤ 6 ∧ 10 * i ≤ b ∧ ∀ (ws : List Str) (b' : Nat), ws.length = i → (∀ z ∈ ws, Wd z) → ws.Nodup → b ≤ b' + 10 * i → Q (.nw (.ls (ws.map .str))) [.rs (.sg b'), .un]
def rg_begun : DTS := (dSeq (dSet 1 1 (dLc (iSeq ((dFrz (dVar 0)))) (hName 2) (dYes) ((dCB gAbs (dCons ((dVar 2)) dNil))) [2]))
      (dRet ((dSgNew ((dLc (iSeq ((dFrz (dVar 1)))) (hName 2) ((dTst (dBin gGe ((dVar 2)) ((dBin gPow (dC (.int 10)) (dC (.int 18))))))) ((dBin gSub ((dVar 2)) ((dBin gPow (dC (.int 10)) (dC (.int 18)))))) [2])) 1))))
theorem begung_1 {ρ0 : Env} {Q : Rs → Env → Prop} {s0 : Sl} : ∀ (ns acc : List Int) (o : Sl), (∀ Cs : List Int, Cs.length = acc.length + ns.length → Q (.nw (.ls (Cs.map .int))) [s0, .un, frO ρ0[2]?]) → acc.length + ns.length ≤ 63 →
    dLcL (hName 2) dYes (dCB gAbs (dCons (dVar 2) dNil)) [2] ρ0 (ns.map .int) (acc.map .int) [s0, .un, o] Q
  | [], acc, o, h, _ => h acc rfl
  | n :: ns, acc, o, h, hl => by
    refine ⟨by rw [List.length_map]; have := line_big; simp at hl; omega, ?_⟩
    have := begung_1 (ρ0 := ρ0) (Q := Q) (s0 := s0) ns (acc ++ [if n < 0 then -n else n]) (.fr (.int n)) (fun Cs hL => h Cs (by simp at hL ⊢; omega)) (by simp at hl ⊢; omega)
    rw [List.map_append] at this
    exact this
theorem begung_2 {ρ0 : Env} {Q : Rs → Env → Prop} {s0 s1 : Sl} : ∀ (ns acc : List Int) (o : Sl), (∀ Lg : List Int, Lg.length ≤ acc.length + ns.length → Q (.nw (.ls (Lg.map .int))) [s0, s1, frO ρ0[2]?]) → acc.length + ns.length ≤ 63 →
    dLcL (hName 2) (dTst (dBin gGe (dVar 2) (dBin gPow (dC (.int 10)) (dC (.int 18))))) (dBin gSub (dVar 2) (dBin gPow (dC (.int 10)) (dC (.int 18)))) [2] ρ0 (ns.map .int) (acc.map .int) [s0, s1, o] Q
  | [], acc, o, h, _ => h acc (by simp)
  | n :: ns, acc, o, h, hl => by
    refine ⟨⟨by decide, by decide, by decide⟩, ite2' (fun e => ⟨⟨by decide, by decide, by decide⟩, trivial, ?_⟩) (fun e => ?_)⟩
    · refine ⟨by rw [List.length_map]; have := line_big; simp at hl; omega, ?_⟩
      have := begung_2 (ρ0 := ρ0) (Q := Q) (s0 := s0) (s1 := s1) ns (acc ++ [n - 10 ^ 18]) (.fr (.int n)) (fun Lg hL => h Lg (by simp at hL ⊢; omega)) (by simp at hl ⊢; omega)
      rw [List.map_append] at this
      exact this
    · exact begung_2 (ρ0 := ρ0) (Q := Q) (s0 := s0) (s1 := s1) ns acc (.fr (.int n)) (fun Lg hL => h Lg (by simp at hL ⊢; omega)) (by simp at hl ⊢; omega)
theorem kg_begun : Keeps Sg_begun 1 3 rg_begun := by
  rintro args Q h0 ⟨ns, rfl, hn, h⟩
  clear h0
  refine begung_1 (ρ0 := [.fr (.scr ns), .un, .un]) (s0 := .fr (.scr ns)) ns [] .un (fun Cs hC => ⟨Nat.le_refl _, ?_⟩) (by simpa using hn)
  have hC : Cs.length ≤ 63 := by simp at hC; omega
  refine begung_2 (ρ0 := [.fr (.scr ns), .fr (.lst (Cs.map .int)), .un]) (s0 := .fr (.scr ns)) (s1 := .fr (.lst (Cs.map .int))) Cs [] .un (fun Lg hL => ⟨Lg, Cs, rfl, rfl, ?_, hC, h⟩) (by simpa using hC)
  simp at hL
  omega
def rg_pick : DTS := (dRet ((dBin gIx ((dVar 1)) ((dCall 2 Sg_take (dCons ((dVar 0)) (dCons ((dCB gLen (dCons ((dVar 1)) dNil))) dNil)))))))
theorem kg_pick : Keeps Sg_pick 2 2 rg_pick := by
  rintro args Q hargs ⟨b, d, xs, rfl, hd, hb, hne, hlen, h⟩
  clear hargs
  have hpos : 0 < xs.length := List.length_pos_iff.mpr hne
  unfold itemsD at hd
  split at hd
  · cases hd
    refine ⟨rfl, rfl, b, _, rfl, hb, by omega, by omega, fun k b' h0 h1 h2 => ?_⟩
    obtain ⟨x, e, m⟩ := atI_mem h0 h1
    exact W2_mk rfl rfl (gIx_lst e (h x b' m h2))
  · cases hd
    refine ⟨rfl, rfl, b, _, rfl, hb, by omega, by omega, fun k b' h0 h1 h2 => ?_⟩
    obtain ⟨x, e, m⟩ := atI_mem h0 h1
    exact W2_mk rfl rfl (gIx_tup e (h x b' m h2))
  · rename_i z
    split at hd
    · rename_i hz
      cases hd
      rw [List.length_map] at hlen hpos
      have hl : z.cps.toList.length = z.length := Array.length_toList
      refine ⟨hz, rfl, rfl, b, _, rfl, hb, by omega, by omega, fun k b' h0 h1 h2 => ?_⟩
      obtain ⟨x, e, m⟩ := atI_mem (xs := z.cps.toList) h0 (by rw [hl]; exact h1)
      exact W2_mk rfl rfl (gIx_str e hz (h _ b' (List.mem_map.mpr ⟨x, m, rfl⟩) h2))
    · cases hd
  · cases hd
def rg_take : DTS := (dDrawG 0 (dSeq (dIf ((dTst (dBin (gEq false) ((dSgRest 0)) (dC (.int 0))))) (dSgSetRest 0 ((dIfE ((dSgAny 0)) ((dSgPop 0)) ((dCall 1 Sg_mixed (dCons ((dVar 0)) dNil)))))) dNext)
      (dSeq (dSet 2 2 ((dBin gMod ((dCB gInt (dCons ((dSgRest 0)) dNil))) ((dVar 1)))))
      (dSeq (dSgSetRest 0 ((dBin gDiv ((dSgRest 0)) ((dVar 1)))))
      (dRet ((dVar 2)))))))
theorem kg_take : Keeps Sg_take 2 3 rg_take := by
  rintro args Q _ ⟨b, n, rfl, hb, h0, h1, h⟩
  refine ⟨b, rfl, fun L C r t l1 l2 l3 l4 => ?_⟩
  have rest : ∀ (L' : List Int) (r' t' : Int) (b' : Nat), b ≤ b' + 1 → dSeq (dSet 2 2 ((dBin gMod ((dCB gInt (dCons ((dSgRest 0)) dNil))) ((dVar 1))))) (dSeq (dSgSetRest 0 ((dBin gDiv ((dSgRest 0)) ((dVar 1))))) (dRet ((dVar 2))))
      { nx := shug1 0 (dEnd 2 Q).nx, rt := fun x => match x with | .dat d => shug1 0 ((dEnd 2 Q).rt (.dat d)) | _ => fun _ => False, bk := shug1 0 (dEnd 2 Q).bk, ct := shug1 0 (dEnd 2 Q).ct } [.rs (.sgx L' C r' t' b'), .fr (.int n), .un] := fun L' r' t' b' hb' =>
    ⟨h0, ⟨h0, h1⟩, h _ _ (Int.emod_nonneg _ (by omega)) (Int.emod_lt_of_pos _ h0) hb'⟩
  refine ite2' (fun e => ?_) (fun e => rest L r t b (by omega))
  cases L with
  | nil =>
    obtain ⟨b0, rfl⟩ : ∃ b0, b = b0 + 1 := ⟨b - 1, by omega⟩
    exact ⟨rfl, rfl, [], C, r, t, b0, rfl, l2, l3, by omega, fun z => rest [] z (t + 1) b0 (by omega)⟩
  | cons x L => exact rest L x t b (by omega)
def rg_mixed : DTS := (dSeq (dSet 1 1 ((dBin gAdd ((dSgTurn 0)) (dC (.int 1)))))
      (dSeq (dSgSetTurn 0 ((dVar 1)))
      (dSeq (dSet 1 2 ((dBin gAdd ((dBin gMul (dC (.int 7919)) ((dVar 1)))) ((dCB gLen (dCons ((dSgCells 0)) dNil))))))
      (dSeq (dFor (iSeq ((dSgCells 0))) (hName 3) (dSet 1 2 ((dBin gMod ((dCB gInt (dCons ((dBin gAdd ((dBin gAdd ((dBin gMul ((dVar 2)) (dC (.int 48271)))) ((dVar 3)))) ((dBin gMul (dC (.int 11)) ((dVar 1)))))) dNil))) (dC (.int 2147483647))))))
      (dSeq (dFor (iRange1 (dCons (dC (.int 3)) dNil)) (hName 4) (dSet 1 2 ((dBin gMod ((dCB gInt (dCons ((dBin gAdd ((dBin gAdd ((dBin gAdd ((dBin gMul ((dVar 2)) ((dVar 2)))) ((dBin gMul (dC (.int 16807)) ((dVar 2)))))) (dC (.int 13)))) ((dVar 4)))) dNil))) (dC (.int 2305843009213693951))))))
      (dRet ((dVar 2))))))))
theorem mixg_in {E : DEnds} {s0 s4 : Sl} {t : Int} : ∀ (ns : List Int) (z : Int) (o : Sl), -(2 ^ 64) < z → z < 2 ^ 64 → (∀ z' o', -(2 ^ 64) < z' → z' < 2 ^ 64 → E.nx [s0, .fr (.int t), .fr (.int z'), o', s4]) →
    dForL (hName 3) (dSet 1 2 ((dBin gMod ((dCB gInt (dCons ((dBin gAdd ((dBin gAdd ((dBin gMul ((dVar 2)) (dC (.int 48271)))) ((dVar 3)))) ((dBin gMul (dC (.int 11)) ((dVar 1)))))) dNil))) (dC (.int 2147483647))))) E (ns.map .int) [s0, .fr (.int t), .fr (.int z), o, s4]
  | [], z, o, h0, h1, h => h z o h0 h1
  | n :: ns, z, o, h0, h1, h => ⟨.inr (by decide), .inl (by decide), (by show (0 : Int) < 2147483647; decide), mixg_in ns _ _ (Int.lt_of_lt_of_le (by decide) (Int.emod_nonneg _ (by decide))) (Int.lt_trans (Int.emod_lt_of_pos _ (by decide)) (by decide)) h⟩
theorem mixg_out {E : DEnds} {s0 s1 s3 : Sl} : ∀ (ns : List Int) (z : Int) (o : Sl), -(2 ^ 64) < z → z < 2 ^ 64 → (∀ z' o', E.nx [s0, s1, .fr (.int z'), s3, o']) →
    dForL (hName 4) (dSet 1 2 ((dBin gMod ((dCB gInt (dCons ((dBin gAdd ((dBin gAdd ((dBin gAdd ((dBin gMul ((dVar 2)) ((dVar 2)))) ((dBin gMul (dC (.int 16807)) ((dVar 2)))))) (dC (.int 13)))) ((dVar 4)))) dNil))) (dC (.int 2305843009213693951))))) E (ns.map .int) [s0, s1, .fr (.int z), s3, o]
  | [], z, o, h0, h1, h => h z o
  | n :: ns, z, o, h0, h1, h => ⟨.inl ⟨h0, h1⟩, .inl (by decide), (by show (0 : Int) < 2305843009213693951; decide), mixg_out ns _ _ (Int.lt_of_lt_of_le (by decide) (Int.emod_nonneg _ (by decide))) (Int.lt_trans (Int.emod_lt_of_pos _ (by decide)) (by decide)) h⟩
theorem range_ints (lo : Int) (n : Nat) : rangeD lo n = ((List.range n).map fun (i : Nat) => lo + (i : Int)).map .int := by unfold rangeD; rw [List.map_map]; rfl
theorem kg_mixed : Keeps Sg_mixed 1 5 rg_mixed := by
  rintro args Q hargs ⟨L, C, r, t, b, rfl, hC, ht, ht2, h⟩
  clear hargs
  have p64 : (2 : Int) ^ 64 = 18446744073709551616 := by decide
  refine ⟨b, rfl, rfl, .inl (by decide), ?_⟩
  have hlen : ((C.map D.int).length : Int) ≤ 63 := by rw [List.length_map]; omega
  refine mixg_in C _ .un (by omega) (by omega) fun z' o' z0 z1 => ?_
  refine ⟨by decide, by decide, ?_⟩
  rw [range_ints]
  exact mixg_out _ _ _ z0 z1 fun z2 o2 => h z2
end TL
namespace TL
open PySem PySem.Spec PyProof.Rows L2
def ownWords : List Str := ["there", "going", "gone", "unborn", "made", "marked", "none", "own", "a", "aa", "z"]
theorem ownWords_wd : ownWords.all wdB = true := by decide +kernel
def rg_word : DTS := (dSeq (dIf ((dTst (dBin (gEq false) ((dCall 2 Sg_take (dCons ((dVar 0)) (dCons (dC (.int 3)) dNil)))) (dC (.int 0))))) (dRet ((dCall 2 Sg_pick (dCons ((dVar 0)) (dCons ((dLst (dCons (dC (.str "there")) (dCons (dC (.str "going")) (dCons (dC (.str "gone")) (dCons (dC (.str "unborn")) (dCons (dC (.str "made")) (dCons (dC (.str "marked")) (dCons (dC (.str "none")) (dCons (dC (.str "own")) (dCons (dC (.str "a")) (dCons (dC (.str "aa")) (dCons (dC (.str "z")) dNil))))))))))))) dNil))))) dNext)
      (dSeq (dSet 1 1 (dC (.str "abcdefghijklmnopqrstuvwxyz")))
      (dSeq (dSet 1 2 (dFrz (dCall 2 Sg_pick (dCons ((dVar 0)) (dCons ((dLst (dCons (dC (.int 1)) (dCons (dC (.int 1)) (dCons (dC (.int 2)) (dCons (dC (.int 3)) (dCons (dC (.int 8)) dNil))))))) dNil)))))
      (dRet ((dM1 gJoin (dC (.str "")) ((dLc (iRange1 (dCons ((dVar 2)) dNil)) (hName 3) (dYes) ((dCall 2 Sg_pick (dCons ((dVar 0)) (dCons ((dFrz (dVar 1))) dNil)))) [3]))))))))
section
variable {Q : Rs → TL.Env → Prop} {ρ0 : TL.Env} {s0 s1 s2 s3 o : Sl}
theorem wg_join {Z : Str} (hZ : Z.cps.toList = lets) : ∀ (ds : List D) (cs : List Nat) (b : Nat) (j : Sl), ds.length ≤ b → cs.length + ds.length ≤ 8 → (∀ c ∈ cs, c ∈ lets) →
    (∀ (cs' : List Nat) (b' : Nat), cs'.length = cs.length + ds.length → (∀ c ∈ cs', c ∈ lets) → b ≤ b' + ds.length → Q (.nw (.ls (cs'.map chD))) [.rs (.sg b'), .fr (.str Z), s2, frO ρ0[3]?]) →
    dLcL (hName 3) dYes (dCall 2 Sg_pick (dCons (dVar 0) (dCons (dFrz (dVar 1)) dNil))) [3] ρ0 ds (cs.map chD) [.rs (.sg b), .fr (.str Z), s2, j] Q
  | [], cs, b, j, _, _, hc, h => h cs b rfl hc (Nat.le_refl _)
  | d :: ds, cs, b, j, hb, hl, hc, h => by
    refine ⟨rfl, rfl, b, .str Z, lets.map chD, rfl, items_lets hZ, ?_, ?_, ?_, fun x b' hx hb' => ?_⟩
    · simp at hb; omega
    · intro z; have := congrArg List.length z; rw [List.length_map, lets_len] at this; cases this
    · rw [List.length_map, lets_len]; decide
    · obtain ⟨c, hc', rfl⟩ := List.mem_map.mp hx
      refine ⟨fin_big (by rw [List.length_map]; simp at hl; omega), ?_⟩
      have := wg_join hZ ds (cs ++ [c]) b' (.fr d) (by simp at hb; omega) (by simp at hl ⊢; omega) (fun x hx => by
        rcases List.mem_append.mp hx with z | z
        · exact hc x z
        · have : x = c := by simpa using z
          subst this
          exact hc') (fun cs' b2 h1 h2 h3 => h cs' b2 (by simp at h1 ⊢; omega) h2 (by simp at h3 ⊢; omega))
      rw [List.map_append] at this
      exact this
theorem kg_word : Keeps Sg_word 1 4 rg_word := by
  rintro args Q h0 ⟨b, rfl, hb, h⟩
  clear h0
  refine ⟨rfl, rfl, b, 3, rfl, by omega, by decide, by decide, fun i b1 h0 h2 h3 => ?_⟩
  refine ite2' (c := false ^^ decide (V.int i = V.int 0)) (fun e => ?_) (fun e => ?_)
  · refine ⟨by have := line_big; show 11 ≤ sizeLine; omega, rfl, rfl, b1, .lst (ownWords.map .str), ownWords.map .str, rfl, rfl, by omega, by simp [ownWords], by simp [ownWords], fun x b' hx hb' => ?_⟩
    obtain ⟨z, hz, rfl⟩ := List.mem_map.mp hx
    exact h z b' (List.all_eq_true.mp ownWords_wd z hz) (by omega)
  · refine ⟨by have := line_big; show 5 ≤ sizeLine; omega, rfl, rfl, b1, .lst [.int 1, .int 1, .int 2, .int 3, .int 8], [.int 1, .int 1, .int 2, .int 3, .int 8], rfl, rfl, by omega, by simp, by decide, fun x b2 hx hb2 => ?_⟩
    obtain ⟨j, rfl, j0, j1⟩ : ∃ j : Int, x = .int j ∧ 1 ≤ j ∧ j ≤ 8 := by
      simp only [List.mem_cons, List.not_mem_nil, or_false] at hx
      rcases hx with rfl | rfl | rfl | rfl | rfl <;> exact ⟨_, rfl, by decide, by decide⟩
    have p62 : (2 : Int) ^ 62 = 4611686018427387904 := by decide
    refine ⟨⟨_, rfl⟩, by omega, by omega, ?_⟩
    refine wg_join letsZ (rangeD 0 j.toNat) [] b2 .un (by rw [rangeD_len]; omega) (by rw [rangeD_len]; show 0 + _ ≤ 8; omega) (fun c hc => by cases hc) (fun cs b3 e1 e2 e3 => ?_)
    rw [rangeD_len] at e1 e3
    have l1 : cs.length = j.toNat := by simpa using e1
    refine W1_mk (x := .lst (cs.map chD)) rfl ?_
    exact gJoin_ch (by omega) (h _ b3 (join_wd (by omega) (by omega) e2) (by omega))
end
def spares : List Str := ["qa", "qb", "qc", "qd", "qe", "qf"]
theorem spares_wd : spares.all wdB = true := by decide +kernel
theorem spares_nd : spares.Nodup := by decide +kernel
theorem spare_new (z : Str) (hz : Wd z) (ws : List Str) (hw : ws.length < 6) : ∃ x r, (z :: spares).filter (fun y => !decide (y ∈ ws)) = x :: r ∧ Wd x ∧ x ∉ ws := by
  have hf : ∃ x r, (z :: spares).filter (fun y => !decide (y ∈ ws)) = x :: r := by
    cases e : (z :: spares).filter (fun y => !decide (y ∈ ws)) with
    | nil =>
      have sub : ∀ y ∈ spares, y ∈ ws := fun y hy => Classical.byContradiction fun n => by
        have : y ∈ (z :: spares).filter (fun y => !decide (y ∈ ws)) := List.mem_filter.mpr ⟨List.mem_cons_of_mem _ hy, by simpa using n⟩
        rw [e] at this
        cases this
      have := spares_nd.length_le_of_subset sub
      have : 6 ≤ ws.length := this
      omega
    | cons x r => exact ⟨x, r, rfl⟩
  obtain ⟨x, r, hx⟩ := hf
  have hm : x ∈ (z :: spares).filter (fun y => !decide (y ∈ ws)) := by rw [hx]; exact List.mem_cons_self
  obtain ⟨m1, m2⟩ := List.mem_filter.mp hm
  refine ⟨x, r, hx, ?_, by simpa using m2⟩
  rcases List.mem_cons.mp m1 with rfl | m1
  · exact hz
  · exact List.all_eq_true.mp spares_wd x m1
theorem tst_in2 {neg : Bool} {ρ : TL.Env} {R : Bool → TL.Env → Prop} {i j : Nat} {y : Str} {ws : List Str} (h1 : ρ[i]? = some (.fr (.str y))) (h4 : ρ[j]? = some (.ls (ws.map .str))) (h : R (neg ^^ decide (y ∈ ws)) ρ) : dTst (dBin (gIn neg) (dVar i) (dVar j)) ρ R := by
  unfold dTst dBin dVar
  simp only [h1, h4]
  have e2 : val ρ (.sl j) = some (.lst (ws.map .str)) := by
    show (match ρ[j]? with | some (.ls xs) => some (D.lst xs) | some (.dc xs) => some (.dct xs) | _ => none) = _
    rw [h4]
  exact W2_mk rfl e2 (gIn_lst h)
section
variable {Q : Rs → TL.Env → Prop} {ρ0 : TL.Env} {s0 s1 s3 s4 o : Sl} {E : DEnds}
theorem wg_new {ws : List Str} : ∀ (ys acc : List Str) (o : Sl), acc.length + ys.length ≤ 1000 →
    Q (.nw (.ls ((acc ++ ys.filter fun y => !decide (y ∈ ws)).map .str))) [s0, s1, .ls (ws.map .str), s3, s4, frO ρ0[5]?] →
    dLcL (hName 5) (dTst (dBin (gIn true) (dVar 5) (dVar 2))) (dFrz (dVar 5)) [5] ρ0 (ys.map .str) (acc.map .str) [s0, s1, .ls (ws.map .str), s3, s4, o] Q
  | [], acc, o, _, h => by
    have h' : Q (.nw (.ls (acc.map .str))) [s0, s1, .ls (ws.map .str), s3, s4, frO ρ0[5]?] := by simpa using h
    exact h'
  | y :: ys, acc, o, hl, h => by
    show dTst (dBin (gIn true) (dVar 5) (dVar 2)) [s0, s1, .ls (ws.map .str), s3, s4, .fr (.str y)] fun b ρ2 => if b = true then dFrz (dVar 5) ρ2 fun r ρ3 => (match stl r with
      | .dat x => (acc.map D.str).length < sizeLine ∧ dLcL (hName 5) (dTst (dBin (gIn true) (dVar 5) (dVar 2))) (dFrz (dVar 5)) [5] ρ0 (ys.map .str) (acc.map .str ++ [x]) ρ3 Q
      | _ => False)
      else dLcL (hName 5) (dTst (dBin (gIn true) (dVar 5) (dVar 2))) (dFrz (dVar 5)) [5] ρ0 (ys.map .str) (acc.map .str) ρ2 Q
    refine tst_in2 (y := y) (ws := ws) rfl rfl ?_
    refine ite2' (c := (true ^^ decide (y ∈ ws))) (fun e => ?_) (fun e => ?_)
    · refine ⟨fin_big (by rw [List.length_map]; simp at hl; omega), ?_⟩
      have ef : (y :: ys).filter (fun y => !decide (y ∈ ws)) = y :: ys.filter fun y => !decide (y ∈ ws) := List.filter_cons_of_pos (by rw [Bool.true_xor] at e; exact e)
      rw [ef] at h
      have := wg_new (ws := ws) ys (acc ++ [y]) (.fr (.str y)) (by simp at hl ⊢; omega) (by simpa using h)
      rw [List.map_append] at this
      exact this
    · have ef : (y :: ys).filter (fun y => !decide (y ∈ ws)) = ys.filter fun y => !decide (y ∈ ws) := List.filter_cons_of_neg (by rw [Bool.true_xor] at e; rw [e]; simp)
      rw [ef] at h
      exact wg_new (ws := ws) ys acc (.fr (.str y)) (by simp at hl ⊢; omega) h
def rg_turn : DTS := (dSeq (dSet 2 4 (dFrz (dCall 1 Sg_word (dCons ((dVar 0)) dNil))))
      (dDrop ((dMethF 2 mAppend (dCons ((dBin gIx ((dLc (iSeq ((dLst (dCons ((dFrz (dVar 4))) (dCons (dC (.str "qa")) (dCons (dC (.str "qb")) (dCons (dC (.str "qc")) (dCons (dC (.str "qd")) (dCons (dC (.str "qe")) (dCons (dC (.str "qf")) dNil)))))))))) (hName 5) ((dTst (dBin (gIn true) ((dVar 5)) ((dVar 2))))) ((dFrz (dVar 5))) [5])) (dC (.int 0)))) dNil)))))
def rg_words : DTS := (dSeq (dSet 2 2 ((dLst dNil)))
      (dSeq (dFor (iRange1 (dCons ((dVar 1)) dNil)) (hName 3) rg_turn)
      (dRet ((dVar 2)))))
theorem turng_ok {ws : List Str} {b : Nat} (hb : 10 ≤ b) (hw : ws.length < 6) (h : ∀ (y : Str) (b' : Nat) (s4 s5 : Sl), Wd y → y ∉ ws → b ≤ b' + 10 → E.nx [.rs (.sg b'), s1, .ls (ws.map .str ++ [.str y]), s3, s4, s5]) :
    rg_turn E [.rs (.sg b), s1, .ls (ws.map .str), s3, s4, o] := by
  refine ⟨rfl, rfl, b, rfl, hb, fun z b' hz hb' => ?_⟩
  obtain ⟨x, r, e, hx, hn⟩ := spare_new z hz ws hw
  refine ⟨⟨_, rfl⟩, by have := line_big; show 7 ≤ sizeLine; omega, ?_⟩
  refine wg_new (ρ0 := [.rs (.sg b'), s1, .ls (ws.map .str), s3, .fr (.str z), o]) (z :: spares) [] o (by simp [spares]) ?_
  rw [List.nil_append, e]
  dsimp only [dC]
  exact W2_mk rfl rfl (gIx_lst (atI_nat (j := 0) rfl) ⟨by rw [List.length_map]; exact fin_big (by omega), h x b' _ _ hx hn hb'⟩)
theorem wordsg_loop : ∀ (ds : List D) (ws : List Str) (b : Nat) (s3 s4 o : Sl), ws.length + ds.length ≤ 6 → 10 * ds.length ≤ b → (∀ z ∈ ws, Wd z) → ws.Nodup →
    (∀ (ws' : List Str) (b' : Nat) (s3 s4 o : Sl), ws'.length = ws.length + ds.length → (∀ z ∈ ws', Wd z) → ws'.Nodup → b ≤ b' + 10 * ds.length → E.nx [.rs (.sg b'), s1, .ls (ws'.map .str), s3, s4, o]) →
    dForL (hName 3) rg_turn E ds [.rs (.sg b), s1, .ls (ws.map .str), s3, s4, o]
  | [], ws, b, s3, s4, o, _, _, h1, h2, h => h ws b s3 s4 o rfl h1 h2 (Nat.le_refl _)
  | d :: ds, ws, b, s3, s4, o, hl, hb, h1, h2, h => by
    refine turng_ok (E := { nx := dForL (hName 3) rg_turn E ds, rt := E.rt, bk := E.nx, ct := dForL (hName 3) rg_turn E ds }) (s3 := .fr d) (by simp at hb; omega) (by simp at hl; omega) (fun y b' s4 s5 hy hn hb' => ?_)
    have em : ws.map D.str ++ [.str y] = (ws ++ [y]).map D.str := by rw [List.map_append]; rfl
    show dForL (hName 3) rg_turn E ds [.rs (.sg b'), s1, .ls (ws.map .str ++ [.str y]), .fr d, s4, s5]
    rw [em]
    refine wordsg_loop ds (ws ++ [y]) b' _ _ _ (by simp at hl ⊢; omega) (by simp at hb ⊢; omega) (fun z hz => ?_) ?_ (fun ws' b2 s3 s4 o e1 e2 e3 e4 => h ws' b2 s3 s4 o (by simp at e1 ⊢; omega) e2 e3 (by simp at e4 ⊢; omega))
    · rcases List.mem_append.mp hz with z' | z'
      · exact h1 z z'
      · have : z = y := by simpa using z'
        subst this
        exact hy
    · rw [List.nodup_append]
      refine ⟨h2, by simp, fun a ha c hc => ?_⟩
      have : c = y := by simpa using hc
      subst this
      exact fun z => hn (z ▸ ha)
theorem kg_words : Keeps Sg_words 2 6 rg_words := by
  rintro args Q h0 ⟨b, i, rfl, hi, hb, h⟩
  clear h0
  have p62 : (2 : Int) ^ 62 = 4611686018427387904 := by decide
  refine ⟨Nat.zero_le _, by decide, by omega, by omega, ?_⟩
  refine wordsg_loop (rangeD 0 (i : Int).toNat) [] b _ _ _ (by rw [rangeD_len]; show 0 + _ ≤ 6; omega) (by rw [rangeD_len]; omega) (fun z hz => by cases hz) List.nodup_nil (fun ws b' s3 s4 o e1 e2 e3 e4 => ?_)
  rw [rangeD_len] at e1 e4
  exact ⟨by decide, _, rfl, rfl, h ws b' (by simp at e1; omega) e2 e3 (by omega)⟩
end
end TL
namespace TL
open PySem PySem.Spec PyProof.Rows L2
def leS (a b : Str) : Prop := a.cps.toList ≤ b.cps.toList
theorem rising_le : ∀ (p : Str) (l : List Str), risingS p l = true → (p :: l).Pairwise leS
  | p, [], _ => List.pairwise_singleton _ _
  | p, x :: r, h => by
    have h' : (!Spec.ltCps x.cps.toList p.cps.toList && risingS x r) = true := h
    rw [Bool.and_eq_true] at h'
    have ih := rising_le x r h'.2
    have hp : leS p x := by
      have := h'.1
      rw [ltCps_eq] at this
      have : ¬ x.cps.toList < p.cps.toList := by simpa using this
      exact List.not_lt.mp this
    refine List.pairwise_cons.mpr ⟨fun y hy => ?_, ih⟩
    rcases List.mem_cons.mp hy with rfl | hy
    · exact hp
    · exact List.le_trans hp ((List.pairwise_cons.mp ih).1 y hy)
theorem sorted_le : ∀ (l : List Str), sortedS l = true → l.Pairwise leS
  | [], _ => .nil
  | x :: r, h => rising_le x r h
noncomputable def srt (xs : List Str) : List Str := (xs.mergeSort (fun a b => decide (a.cps.toList ≤ b.cps.toList)))
theorem srt_perm (xs : List Str) : (srt xs).Perm xs := List.mergeSort_perm xs _
theorem srt_pw (xs : List Str) : (srt xs).Pairwise leS := by
  have := List.pairwise_mergeSort (le := fun a b : Str => decide (a.cps.toList ≤ b.cps.toList)) (fun a b c h1 h2 => decide_eq_true (List.le_trans (of_decide_eq_true h1) (of_decide_eq_true h2))) (fun a b => by
    rcases List.le_total a.cps.toList b.cps.toList with h | h
    · simp [h]
    · simp [h]) xs
  exact this.imp fun h => of_decide_eq_true h
theorem srt_eq {xs ys : List Str} (p : ys.Perm xs) (h : sortedS ys = true) : ys = srt xs :=
  List.Perm.eq_of_pairwise (le := leS) (fun a b _ _ h1 h2 => str_ext (List.le_antisymm h1 h2)) (sorted_le ys h) (srt_pw xs) (p.trans (srt_perm xs).symm)
theorem srt_congr {xs ys : List Str} (p : xs.Perm ys) : srt xs = srt ys :=
  List.Perm.eq_of_pairwise (le := leS) (fun a b _ _ h1 h2 => str_ext (List.le_antisymm h1 h2)) (srt_pw xs) (srt_pw ys) ((srt_perm xs).trans (p.trans (srt_perm ys).symm))
theorem srt_srt (xs : List Str) : srt (srt xs) = srt xs := srt_congr (srt_perm xs)
theorem srt_mem {xs : List Str} {z : Str} : z ∈ srt xs ↔ z ∈ xs := (srt_perm xs).mem_iff
theorem srt_len (xs : List Str) : (srt xs).length = xs.length := (srt_perm xs).length_eq
theorem sorted_lst {xs : List Str} {P : Rs → Prop} (hl : xs.length < 64) (h : P (.nw (.ls ((srt xs).map .str)))) : gSorted2 [.lst (xs.map .str)] P := by
  unfold gSorted2
  show (match txs (xs.map D.str) with | some bs => bs.length < 64 ∧ ∀ cs : List Str, cs.Perm bs → sortedS cs = true → P (.nw (.ls (cs.map .str))) | none => False)
  rw [txs_map]
  exact ⟨hl, fun cs p s => by rw [srt_eq p s]; exact h⟩
theorem sorted_tup {xs : List Str} {P : Rs → Prop} (hl : xs.length < 64) (h : P (.nw (.ls ((srt xs).map .str)))) : gSorted2 [.tup (xs.map .str)] P := by
  unfold gSorted2
  show (match txs (xs.map D.str) with | some bs => bs.length < 64 ∧ ∀ cs : List Str, cs.Perm bs → sortedS cs = true → P (.nw (.ls (cs.map .str))) | none => False)
  rw [txs_map]
  exact ⟨hl, fun cs p s => by rw [srt_eq p s]; exact h⟩
theorem srt_sorted (xs : List Str) : sortedS (srt xs) = true := sortedS_of_pairwise _ ((srt_pw xs).imp fun {a b} h => by
  rw [ltCps_eq]
  have : ¬ b.cps.toList < a.cps.toList := List.not_lt.mpr h
  simpa using this)
theorem gSorted2_lst_eq {xs : List Str} {P : Rs → Prop} : gSorted2 [.lst (xs.map .str)] P = (xs.length < 64 ∧ P (.nw (.ls ((srt xs).map .str)))) := by
  refine propext ⟨fun h => ?_, fun h => sorted_lst h.1 h.2⟩
  unfold gSorted2 at h
  have h' : (match txs (xs.map D.str) with | some bs => bs.length < 64 ∧ ∀ cs : List Str, cs.Perm bs → sortedS cs = true → P (.nw (.ls (cs.map .str))) | none => False) := h
  rw [txs_map] at h'
  exact ⟨h'.1, h'.2 _ (srt_perm xs) (srt_sorted xs)⟩
theorem gSorted2_tup_eq {xs : List Str} {P : Rs → Prop} : gSorted2 [.tup (xs.map .str)] P = (xs.length < 64 ∧ P (.nw (.ls ((srt xs).map .str)))) := by
  refine propext ⟨fun h => ?_, fun h => sorted_tup h.1 h.2⟩
  unfold gSorted2 at h
  have h' : (match txs (xs.map D.str) with | some bs => bs.length < 64 ∧ ∀ cs : List Str, cs.Perm bs → sortedS cs = true → P (.nw (.ls (cs.map .str))) | none => False) := h
  rw [txs_map] at h'
  exact ⟨h'.1, h'.2 _ (srt_perm xs) (srt_sorted xs)⟩
theorem gTuple_lst_eq {xs : List D} {P : Rs → Prop} : gTuple [.lst xs] P = P (.dat (.tup xs)) := rfl
theorem eqv_strs : ∀ xs ys : List Str, PyData.eqvAll (pyL (xs.map .str)) (pyL (ys.map .str)) = decide (xs = ys)
  | [], [] => by unfold PyData.eqvAll; simp [pyL]
  | [], _ :: _ => by simp [pyL, PyData.eqvAll]
  | _ :: _, [] => by simp [pyL, PyData.eqvAll]
  | x :: xs, y :: ys => by
    have ih := eqv_strs xs ys
    show PyData.eqvAll (py (.str x) :: pyL (xs.map .str)) (py (.str y) :: pyL (ys.map .str)) = _
    unfold PyData.eqvAll
    rw [ih]
    show ((x == y) && decide (xs = ys)) = _
    by_cases e : x = y
    · subst e; simp
    · rw [beq_eq_false_iff_ne.mpr e]; simp [e]
theorem strs_sh : ∀ xs : List Str, xs.all okS = true → PyData.canLayAll0 (pyL (xs.map .str)) = true ∧ PyData.depthAll (pyL (xs.map .str)) = 0 ∧ plainL (xs.map .str) = true
  | [], _ => by simp [pyL, PyData.canLayAll0, PyData.depthAll, plainL]
  | x :: xs, h => by
    rw [List.all_cons, Bool.and_eq_true] at h
    obtain ⟨h1, h2, h3⟩ := strs_sh xs h.2
    refine ⟨?_, ?_, ?_⟩
    · show PyData.canLayAll0 (py (.str x) :: pyL (xs.map .str)) = true
      unfold PyData.canLayAll0
      rw [h1, Bool.and_true]
      show PyData.canLay0 (.str x) = true
      unfold PyData.canLay0
      exact h.1
    · show PyData.depthAll (py (.str x) :: pyL (xs.map .str)) = 0
      unfold PyData.depthAll
      rw [h2]
      rfl
    · show (plain (.str x) && plainL (xs.map .str)) = true
      rw [h3]
      rfl
def choD (tl : Bool) : Option (List Str × List Str) → D
  | none => .non
  | some (d, k) => .tup [.tup (d.map .str), if tl = true then .tup (k.map .str) else .lst (k.map .str)]
def chOk : Option (List Str × List Str) → Bool
  | none => true
  | some (d, k) => d.all okS && k.all okS
theorem choD_sh (tl : Bool) (o : Option (List Str × List Str)) (h : chOk o = true) : shD (choD tl o) = true := by
  cases o with
  | none => rfl
  | some p =>
    obtain ⟨d, k⟩ := p
    have h' : d.all okS = true ∧ k.all okS = true := by simpa [chOk] using h
    obtain ⟨a1, a2, a3⟩ := strs_sh d h'.1
    obtain ⟨b1, b2, b3⟩ := strs_sh k h'.2
    cases tl <;> (
      unfold shD
      simp only [choD, if_true, Bool.false_eq_true, if_false]
      simp only [plain, plainL, a3, b3, SeqAt.shaped, py, pyL, PyData.canLay0, PyData.canLayAll0, a1, b1, PyData.depth, PyData.depthAll, a2, b2]
      decide)
theorem choD_eqv (tl : Bool) (o p : Option (List Str × List Str)) : eqD (choD tl o) (choD tl p) = decide (o = p) := by
  cases o with
  | none => cases p with
    | none => simp [eqD, choD, py, PyData.eqv]
    | some p => simp [eqD, choD, py, PyData.eqv]
  | some o => cases p with
    | none => simp [eqD, choD, py, PyData.eqv]
    | some p =>
      obtain ⟨d, k⟩ := o
      obtain ⟨d', k'⟩ := p
      have e1 := eqv_strs d d'
      have e2 := eqv_strs k k'
      cases tl <;> (
        unfold eqD
        simp only [choD, if_true, Bool.false_eq_true, if_false]
        simp only [py, pyL, PyData.eqv, PyData.eqvAll, e1, e2, Bool.and_true]
        by_cases c1 : d = d' <;> by_cases c2 : k = k' <;> simp [c1, c2])
theorem gNe_ch (tl : Bool) {o p : Option (List Str × List Str)} {P : Rs → Prop} (ho : chOk o = true) (hp : chOk p = true) (h : P (.dat (.bl (true ^^ decide (o = p))))) : gEq true (choD tl o) (choD tl p) P := by
  have so := choD_sh tl o ho
  have sp := choD_sh tl p hp
  have e := choD_eqv tl o p
  cases o with
  | none => cases p with
    | none => exact h
    | some p =>
      obtain ⟨d', k'⟩ := p
      refine ⟨so, sp, ?_⟩
      rw [e]
      exact h
  | some o =>
    obtain ⟨d, k⟩ := o
    cases p with
    | none =>
      refine ⟨so, sp, ?_⟩
      rw [e]
      exact h
    | some p =>
      obtain ⟨d', k'⟩ := p
      refine ⟨so, sp, ?_⟩
      rw [e]
      exact h
structure Ru where
  s : List Str
  d : List Str
  k : List Str
def ruD (r : Ru) : D := .tup [.tup (r.s.map .str), .tup (r.d.map .str), .tup (r.k.map .str)]
structure RuOk (r : Ru) : Prop where
  sm : ∀ z ∈ r.s, z ∈ Lk04.marks
  sn : r.s.Nodup
  sl : r.s.length ≤ 6
  d : Lk04.isDeed (.tup (r.d.map .str)) = true
  dw : ∀ z ∈ r.d, Wd z
  km : ∀ z ∈ r.k, z ∈ Lk04.kinds
  kn : r.k.Nodup
  kl : r.k.length ≤ 4
  dl : r.d.length ≤ 2
structure Tk where
  tag : Str
  w : List Str
  r : List Ru
structure TkOk (t : Tk) : Prop where
  tag : Wd t.tag
  w : ∀ z ∈ t.w, Wd z
  wn : t.w.Nodup
  wl : t.w.length ≤ 3
  r : ∀ r ∈ t.r, RuOk r
  rl : t.r.length ≤ 8
structure Vw where
  th : Option (Str × Bool × Bool)
  ow : Option Str
  ot : Bool
  st : Bool
def thD : Option (Str × Bool × Bool) → D
  | none => .tup []
  | some (w, g, h) => .tup [.str w, .bl g, .bl h]
def owD : Option Str → D
  | none => .tup []
  | some w => .tup [.int 1, .str w]
def stD (b : Bool) : D := .int (if b = true then 2 else 0)
def vwD (v : Vw) : D := .tup [thD v.th, owD v.ow, .bl v.ot, stD v.st]
def knT (w : List Str) : Option (Str × Bool × Bool) → List Str
  | none => ["gone"]
  | some (x, g, h) => [if g = true then "going" else "there", if h = true then "held" else "free", if decide (x ∈ w) = true then "wanted" else "unwanted"]
def knO (th : Option (Str × Bool × Bool)) : Option Str → List Str
  | none => ["bare"]
  | some y => ["child", if (match th with | some (x, _, _) => decide (y = x) | none => false) = true then "right" else "wrong"]
def knR (v : Vw) : List Str := [if v.ot = true then "others" else "alone", if v.st = true then "strays" else "tidy"]
def kn (v : Vw) (w : List Str) : List Str := knT w v.th ++ knO v.th v.ow ++ knR v
theorem kn_congr {v : Vw} {w w' : List Str} (h : ∀ x, x ∈ w ↔ x ∈ w') : kn v w = kn v w' := by
  unfold kn
  cases v.th with
  | none => rfl
  | some p =>
    obtain ⟨x, g, h'⟩ := p
    have : decide (x ∈ w) = decide (x ∈ w') := decide_eq_decide.mpr (h x)
    simp only [knT, this]
def dec (K : List Str) (rs : List Ru) : Option Nat := rs.findIdx? fun r => r.s.all fun z => decide (z ∈ K)
noncomputable def cho (K : List Str) (rs : List Ru) : Option (List Str × List Str) := (dec K rs).bind fun i => rs[i]?.map fun r => (r.d, srt r.k)
def ths (ws : List Str) : List (Option (Str × Bool × Bool)) := none :: ws.flatMap fun w => [some (w, false, false), some (w, false, true), some (w, true, false), some (w, true, true)]
def ows (ws : List Str) : List (Option Str) := none :: ws.map some
def vws (ws : List Str) : List Vw := (ths ws).flatMap fun t => (ows ws).flatMap fun o => [⟨t, o, false, false⟩, ⟨t, o, false, true⟩, ⟨t, o, true, false⟩, ⟨t, o, true, true⟩]
theorem ths_len (ws : List Str) : (ths ws).length = 1 + 4 * ws.length := by
  unfold ths
  rw [List.length_cons, List.length_flatMap]
  have : (ws.map fun w : Str => ([some (w, false, false), some (w, false, true), some (w, true, false), some (w, true, true)] : List (Option (Str × Bool × Bool))).length) = ws.map fun _ => 4 := rfl
  rw [this]
  induction ws with
  | nil => rfl
  | cons w ws ih =>
    rw [List.map_cons, List.sum_cons, List.length_cons]
    have := ih rfl
    omega
end TL
namespace KP
open PySem PySem.Spec PyProof.Rows L2 TL
def S_is_list : DSp := fun args Q => ∃ d, args = [.fr d] ∧ (∃ xs, d = .lst xs ∨ d = .tup xs) ∧ Q (.dat (.bl true)) [.un]
def r_is_list : DTS := (dRet ((dCB gIsi (dCons ((dVar 0)) (dCons ((dTup (dCons ((dC (.ty "list"))) (dCons ((dC (.ty "tuple"))) dNil)))) dNil)))))
theorem k_is_list : Keeps S_is_list 1 1 r_is_list := by
  rintro args Q h0 ⟨d, rfl, ⟨xs, rfl | rfl⟩, h⟩
  · exact ⟨sz (by decide), rfl, by decide, by decide, h⟩
  · exact ⟨sz (by decide), rfl, by decide, by decide, h⟩
def S_thing_conditions : DSp := fun args Q => ∃ t w, args = [.fr (thD t), .fr (.tup (w.map .str))] ∧ Q (.nw (.ls ((knT w t).map .str))) [.un, .un]
def r_thing_conditions : DTS := (dSeq (dIf ((dTst (dBin (gEq false) ((dVar 0)) ((dTup dNil))))) (dRet ((dLst (dCons (dC (.str "gone")) dNil)))) dNext)
      (dSeq (dAsg ((dFrz (dVar 0))) (hTup 3 (hCons (hName 2) (hCons (hName 3) (hCons (hName 4) hNil)))))
      (dSeq (dSet 2 5 ((dLst (dCons ((dIfE ((dTst ((dVar 3)))) (dC (.str "going")) (dC (.str "there")))) (dCons ((dIfE ((dTst ((dVar 4)))) (dC (.str "held")) (dC (.str "free")))) dNil)))))
      (dRet ((dBin gAdd ((dVar 5)) ((dLst (dCons ((dIfE ((dTst (dBin (gIn false) ((dVar 2)) ((dVar 1))))) (dC (.str "wanted")) (dC (.str "unwanted")))) dNil)))))))))
theorem gIn_tup_eq {neg : Bool} {y : Str} {ss : List Str} {P : Rs → Prop} : gIn neg (.str y) (.tup (ss.map .str)) P = P (.dat (.bl (neg ^^ decide (y ∈ ss)))) := by
  unfold gIn
  show (match fvs (ss.map D.str) with | some bs => P (.dat (.bl (neg ^^ inV (.str y) bs))) | none => False) = _
  rw [fvs_strs]
  show P (.dat (.bl (neg ^^ inV (.str y) (ss.map V.str)))) = _
  rw [inV_str]
theorem gIn_lst_eq {neg : Bool} {y : Str} {ss : List Str} {P : Rs → Prop} : gIn neg (.str y) (.lst (ss.map .str)) P = P (.dat (.bl (neg ^^ decide (y ∈ ss)))) := by
  unfold gIn
  show (match fvs (ss.map D.str) with | some bs => P (.dat (.bl (neg ^^ inV (.str y) bs))) | none => False) = _
  rw [fvs_strs]
  show P (.dat (.bl (neg ^^ inV (.str y) (ss.map V.str)))) = _
  rw [inV_str]
theorem gEq_unit {neg : Bool} {x : D} {xs : List D} {P : Rs → Prop} : gEq neg (.tup (x :: xs)) (.tup []) P = P (.dat (.bl (neg ^^ false))) := rfl
theorem gEq_unit0 {neg : Bool} {P : Rs → Prop} : gEq neg (.tup []) (.tup []) P = P (.dat (.bl (neg ^^ true))) := rfl
theorem gEq_str {neg : Bool} {x y : Str} {P : Rs → Prop} : gEq neg (.str x) (.str y) P = P (.dat (.bl (neg ^^ decide (x = y)))) := by
  show P (.dat (.bl (neg ^^ decide (V.str x = V.str y)))) = _
  rw [show decide (V.str x = V.str y) = decide (x = y) from decide_eq_decide.mpr ⟨fun e => by injection e, fun e => by rw [e]⟩]
theorem gEq_int {neg : Bool} {x y : Int} {P : Rs → Prop} : gEq neg (.int x) (.int y) P = P (.dat (.bl (neg ^^ decide (x = y)))) := by
  show P (.dat (.bl (neg ^^ decide (V.int x = V.int y)))) = _
  rw [show decide (V.int x = V.int y) = decide (x = y) from decide_eq_decide.mpr ⟨fun e => by injection e, fun e => by rw [e]⟩]
theorem gIx_t0 {x : D} {xs : List D} {P : Rs → Prop} : gIx (.tup (x :: xs)) (.int 0) P = P (.dat x) := by
  unfold gIx
  have : atI (x :: xs) 0 = some x := atI_nat (j := 0) rfl
  simp only [this]
theorem gIx_t1 {x y : D} {xs : List D} {P : Rs → Prop} : gIx (.tup (x :: y :: xs)) (.int 1) P = P (.dat y) := by
  unfold gIx
  have : atI (x :: y :: xs) 1 = some y := atI_nat (j := 1) rfl
  simp only [this]
theorem gIx_t2 {x y z : D} {xs : List D} {P : Rs → Prop} : gIx (.tup (x :: y :: z :: xs)) (.int 2) P = P (.dat z) := by
  unfold gIx
  have : atI (x :: y :: z :: xs) 2 = some z := atI_nat (j := 2) rfl
  simp only [this]
theorem gLen_lst {xs : List D} {P : Rs → Prop} : gLen [.lst xs] P = P (.dat (.int xs.length)) := rfl
theorem gLen_tup {xs : List D} {P : Rs → Prop} : gLen [.tup xs] P = P (.dat (.int xs.length)) := rfl
theorem gAll_map_eq {bs : List Bool} {P : Rs → Prop} : gAll [.lst (bs.map .bl)] P = P (.dat (.bl (bs.all id))) := by
  unfold gAll
  show (match bls (bs.map D.bl) with | some bs => P (.dat (.bl (bs.all id))) | none => False) = _
  rw [bls_map]
theorem k_thing_conditions : Keeps S_thing_conditions 2 6 r_thing_conditions := by
  rintro args Q h0 ⟨t, w, rfl, h⟩
  clear h0
  cases t with
  | none =>
    refine ⟨sz0, ?_⟩
    exact ⟨sz (by decide), h⟩
  | some p =>
    obtain ⟨x, g, hh⟩ := p
    refine ⟨sz0, ?_⟩
    refine ⟨rfl, rfl, ?_⟩
    simp only [eq_self, decide_true, decide_false, Bool.xor_true, Bool.true_xor, Bool.xor_false, Option.some.injEq, Sl.ls.injEq, exists_eq', List.tail_cons, Bool.not_true, Bool.not_false, Nat.reduceAdd, dSeq, dIf, dTst, dBin, dVar, dTup, dNil, dCons, dLst, dC, dRet, dNext, dAsg, dFrz, hTup, hCons, hName, hNil, dSet, dPut, dIfE, dNotT, dAndT, dOrT, dAndV, dOrV, dCB, stl, val, vals, datL, WB, W1, W2, WL, ↓reduceIte, Bool.false_eq_true, backE, bFor, bLoop, bLast, dLc, dLcL, dForL, KP.gEq_unit, KP.gEq_unit0, KP.gEq_str, KP.gEq_int, KP.gIx_t0, KP.gIx_t1, KP.gIx_t2, KP.gLen_lst, KP.gLen_tup, KP.gAll_map_eq, gSorted2_lst_eq, gSorted2_tup_eq, gTuple_lst_eq, List.map_cons, List.map_nil, iSeq, dYes, wipeE, resto, frO, KP.gIn_tup_eq, KP.gIn_lst_eq, List.getElem?_cons_zero, List.getElem?_cons_succ, List.set_cons_zero, List.set_cons_succ, List.cons_append, List.nil_append, List.replicate, Nat.reduceSub, List.length_cons, List.length_nil, true_and, and_true, Bool.false_xor, dEnd, fin1, dFldSet, dFld, dMth, dSlice, dNoP, dPart, slotsOf, slotOf]
    cases g <;> cases hh <;> (
      simp only [Bool.false_eq_true, if_true, if_false]
      refine ⟨sz (Nat.le_of_ble_eq_true rfl), Nat.le_of_ble_eq_true rfl, ite2' (fun e => ⟨sz (Nat.le_of_ble_eq_true rfl), sz (Nat.le_of_ble_eq_true rfl), ?_⟩) (fun e => ⟨sz (Nat.le_of_ble_eq_true rfl), sz (Nat.le_of_ble_eq_true rfl), ?_⟩)⟩
      all_goals
        simp only [knT, e, Bool.false_eq_true, if_true, if_false] at h
        exact h)
def S_own_conditions : DSp := fun args Q => ∃ t o, args = [.fr (thD t), .fr (owD o)] ∧ Q (.nw (.ls ((knO t o).map .str))) [.un, .un]
def r_own_conditions : DTS := (dSeq (dIf ((dTst (dBin (gEq false) ((dVar 1)) ((dTup dNil))))) (dRet ((dLst (dCons (dC (.str "bare")) dNil)))) dNext)
      (dRet ((dLst (dCons (dC (.str "child")) (dCons ((dIfE ((dAndT ((dTst (dBin (gEq true) ((dVar 0)) ((dTup dNil))))) ((dTst (dBin (gEq false) ((dBin gIx ((dVar 1)) (dC (.int 1)))) ((dBin gIx ((dVar 0)) (dC (.int 0))))))))) (dC (.str "right")) (dC (.str "wrong")))) dNil))))))
theorem k_own_conditions : Keeps S_own_conditions 2 2 r_own_conditions := by
  rintro args Q h0 ⟨t, o, rfl, h⟩
  clear h0
  unfold r_own_conditions
  cases o with
  | none =>
    cases t with
    | none => exact ⟨sz0, sz (by decide), h⟩
    | some p => exact ⟨sz0, sz (by decide), h⟩
  | some y =>
    cases t with
    | none =>
      refine ⟨sz0, sz0, ?_⟩
      simp only [knO, Bool.false_eq_true, if_false] at h
      exact ⟨sz (by decide), h⟩
    | some p =>
      obtain ⟨x, g, hh⟩ := p
      simp only [eq_self, decide_true, decide_false, Bool.xor_true, Bool.true_xor, Bool.xor_false, Option.some.injEq, Sl.ls.injEq, exists_eq', List.tail_cons, Bool.not_true, Bool.not_false, Nat.reduceAdd, dSeq, dIf, dTst, dBin, dVar, dTup, dNil, dCons, dLst, dC, dRet, dNext, dAsg, dFrz, hTup, hCons, hName, hNil, dSet, dPut, dIfE, dNotT, dAndT, dOrT, dAndV, dOrV, dCB, stl, val, vals, datL, WB, W1, W2, WL, ↓reduceIte, Bool.false_eq_true, backE, bFor, bLoop, bLast, dLc, dLcL, dForL, KP.gEq_unit, KP.gEq_unit0, KP.gEq_str, KP.gEq_int, KP.gIx_t0, KP.gIx_t1, KP.gIx_t2, KP.gLen_lst, KP.gLen_tup, KP.gAll_map_eq, gSorted2_lst_eq, gSorted2_tup_eq, gTuple_lst_eq, List.map_cons, List.map_nil, iSeq, dYes, wipeE, resto, frO, KP.gIn_tup_eq, KP.gIn_lst_eq, List.getElem?_cons_zero, List.getElem?_cons_succ, List.set_cons_zero, List.set_cons_succ, List.cons_append, List.nil_append, List.replicate, Nat.reduceSub, List.length_cons, List.length_nil, true_and, and_true, Bool.false_xor, dEnd, fin1, dFldSet, dFld, dMth, dSlice, dNoP, dPart, slotsOf, slotOf]
      simp only [owD, thD, gEq_unit, gEq_str, gIx_t0, gIx_t1, WB, Bool.xor_false, Bool.false_xor, Bool.false_eq_true, if_true, if_false, W2]
      refine ⟨sz0, sz0, ite2' (fun e => ⟨sz (Nat.le_of_ble_eq_true rfl), ?_⟩) (fun e => ⟨sz (Nat.le_of_ble_eq_true rfl), ?_⟩)⟩
      all_goals
        simp only [knO, e, Bool.false_eq_true, if_true, if_false] at h
        exact h
def S_held_for : DSp := fun args Q => ∃ v w, args = [.fr (vwD v), .fr (.tup (w.map .str))] ∧ Q (.nw (.ls ((srt (kn v w)).map .str))) [.un, .un]
def r_held_for : DTS := (dSeq (dAsg ((dFrz (dVar 0))) (hTup 4 (hCons (hName 2) (hCons (hName 3) (hCons (hName 4) (hCons (hName 5) hNil))))))
      (dSeq (dSet 2 6 ((dBin gAdd ((dCall 2 S_thing_conditions (dCons ((dFrz (dVar 2))) (dCons ((dFrz (dVar 1))) dNil)))) ((dCall 2 S_own_conditions (dCons ((dFrz (dVar 2))) (dCons ((dFrz (dVar 3))) dNil)))))))
      (dSeq (dSet 2 6 ((dBin gAdd ((dVar 6)) ((dLst (dCons ((dIfE ((dTst ((dVar 4)))) (dC (.str "others")) (dC (.str "alone")))) (dCons ((dIfE ((dTst (dBin (gEq false) ((dVar 5)) (dC (.int 0))))) (dC (.str "tidy")) (dC (.str "strays")))) dNil)))))))
      (dRet ((dCB gSorted2 (dCons ((dVar 6)) dNil)))))))
theorem knT_len (w : List Str) (t : Option (Str × Bool × Bool)) : (knT w t).length ≤ 3 := by
  cases t with
  | none => exact Nat.le_of_ble_eq_true rfl
  | some p => exact Nat.le_refl _
theorem knO_len (t : Option (Str × Bool × Bool)) (o : Option Str) : (knO t o).length ≤ 2 := by
  cases o with
  | none => exact Nat.le_of_ble_eq_true rfl
  | some p => exact Nat.le_refl _
theorem add_strs {xs ys : List Str} {P : Rs → Prop} (hl : xs.length + ys.length ≤ 1000) (h : P (.nw (.ls ((xs ++ ys).map .str)))) : gAdd (.lst (xs.map .str)) (.lst (ys.map .str)) P := by
  refine ⟨by rw [List.length_map, List.length_map]; exact sz hl, ?_⟩
  rw [← List.map_append]
  exact h
theorem k_held_for : Keeps S_held_for 2 7 r_held_for := by
  rintro args Q h0 ⟨v, w, rfl, h⟩
  clear h0
  refine ⟨rfl, rfl, rfl, rfl, v.th, w, rfl, ?_⟩
  refine ⟨rfl, rfl, v.th, v.ow, rfl, ?_⟩
  have l1 := knT_len w v.th
  have l2 := knO_len v.th v.ow
  refine W2_mk (x := .lst ((knT w v.th).map .str)) (y := .lst ((knO v.th v.ow).map .str)) rfl rfl (add_strs (by omega) ?_)
  have lk : (knT w v.th ++ knO v.th v.ow).length ≤ 5 := by rw [List.length_append]; omega
  have fin : Q (.nw (.ls ((srt (knT w v.th ++ knO v.th v.ow ++ knR v)).map .str))) [.un, .un] := h
  generalize knT w v.th ++ knO v.th v.ow = ks at fin lk ⊢
  refine ⟨Nat.le_of_ble_eq_true rfl, ?_⟩
  obtain ⟨th, ow, ot, st⟩ := v
  simp only [eq_self, decide_true, decide_false, Bool.xor_true, Bool.true_xor, Bool.xor_false, Option.some.injEq, Sl.ls.injEq, exists_eq', List.tail_cons, Bool.not_true, Bool.not_false, Nat.reduceAdd, dSeq, dIf, dTst, dBin, dVar, dTup, dNil, dCons, dLst, dC, dRet, dNext, dAsg, dFrz, hTup, hCons, hName, hNil, dSet, dPut, dIfE, dNotT, dAndT, dOrT, dAndV, dOrV, dCB, stl, val, vals, datL, WB, W1, W2, WL, ↓reduceIte, Bool.false_eq_true, backE, bFor, bLoop, bLast, dLc, dLcL, dForL, KP.gEq_unit, KP.gEq_unit0, KP.gEq_str, KP.gEq_int, KP.gIx_t0, KP.gIx_t1, KP.gIx_t2, KP.gLen_lst, KP.gLen_tup, KP.gAll_map_eq, gSorted2_lst_eq, gSorted2_tup_eq, gTuple_lst_eq, List.map_cons, List.map_nil, iSeq, dYes, wipeE, resto, frO, KP.gIn_tup_eq, KP.gIn_lst_eq, List.getElem?_cons_zero, List.getElem?_cons_succ, List.set_cons_zero, List.set_cons_succ, List.cons_append, List.nil_append, List.replicate, Nat.reduceSub, List.length_cons, List.length_nil, true_and, and_true, Bool.false_xor, dEnd, fin1, dFldSet, dFld, dMth, dSlice, dNoP, dPart, slotsOf, slotOf]
  cases ot <;> cases st <;> (
    simp only [stD, Bool.false_eq_true, if_true, if_false]
    refine ⟨sz (Nat.le_of_ble_eq_true rfl), add_strs (ys := [_, _]) (by show ks.length + 2 ≤ 1000; omega) ⟨Nat.le_of_ble_eq_true rfl, sorted_lst (by rw [List.length_append]; show ks.length + 2 < 64; omega) ?_⟩⟩
    exact fin)
end KP
namespace KP
open PySem PySem.Spec PyProof.Rows L2 TL
def S_things_of : DSp := fun args Q => ∃ ws : List Str, args = [.fr (.lst (ws.map .str))] ∧ ws.length ≤ 3 ∧ Q (.nw (.ls ((ths ws).map thD))) [.un]
def S_views_of : DSp := fun args Q => ∃ ws : List Str, args = [.fr (.lst (ws.map .str))] ∧ ws.length ≤ 3 ∧ Q (.nw (.ls ((vws ws).map vwD))) [.un]
def bThing : DTB := (bFor (iSeq ((dTup (dCons (dC (.bl false)) (dCons (dC (.bl true)) dNil))))) (hName 2) (dYes) (bFor (iSeq ((dTup (dCons (dC (.bl false)) (dCons (dC (.bl true)) dNil))))) (hName 3) (dYes) (bLast ((dTup (dCons ((dFrz (dVar 1))) (dCons ((dFrz (dVar 2))) (dCons ((dFrz (dVar 3))) dNil)))))) [3]) [2, 3])
def r_things_of : DTS := (dRet ((dBin gAdd ((dLst (dCons ((dTup dNil)) dNil))) ((dLcN (iSeq ((dFrz (dVar 0)))) (hName 1) (dYes) bThing [1, 2, 3])))))
theorem la {acc : List D} {n : Nat} {x : D} (h : acc.length ≤ n) (hn : n < 1000) : (acc ++ [x]).length < sizeLine := fin_big (by rw [List.length_append]; show acc.length + 1 ≤ 1000; omega)
theorem la2 {acc : List D} {n : Nat} {x y : D} (h : acc.length ≤ n) (hn : n < 990) : (acc ++ [x] ++ [y]).length < sizeLine := fin_big (by rw [List.length_append, List.length_append]; show acc.length + 1 + 1 ≤ 1000; omega)
theorem la3 {acc : List D} {n : Nat} {x y z : D} (h : acc.length ≤ n) (hn : n < 990) : (acc ++ [x] ++ [y] ++ [z]).length < sizeLine := fin_big (by rw [List.length_append, List.length_append, List.length_append]; show acc.length + 1 + 1 + 1 ≤ 1000; omega)
theorem app4 {acc : List D} {a b c d : D} {n : Nat} (h : acc.length + (4 + n) ≤ 900) : (acc ++ [a] ++ [b] ++ [c] ++ [d]).length + n ≤ 900 := by
  rw [List.length_append, List.length_append, List.length_append, List.length_append]
  show acc.length + 1 + 1 + 1 + 1 + n ≤ 900
  omega
theorem th_one {s0 o2 o3 : Sl} {w : Str} {Q : List D → TL.Env → Prop} (acc : List D) (hl : acc.length ≤ 900)
    (h : ∀ o2 o3, Q (acc ++ [thD (some (w, false, false))] ++ [thD (some (w, false, true))] ++ [thD (some (w, true, false))] ++ [thD (some (w, true, true))]) [s0, .fr (.str w), o2, o3]) :
    bThing acc [s0, .fr (.str w), o2, o3] Q := by
  have s2 : 2 ≤ sizeLine := sz (by decide)
  have s3 : 3 ≤ sizeLine := sz (by decide)
  unfold bThing
  simp only [eq_self, decide_true, decide_false, Bool.xor_true, Bool.true_xor, Bool.xor_false, Option.some.injEq, Sl.ls.injEq, exists_eq', List.tail_cons, Bool.not_true, Bool.not_false, Nat.reduceAdd, dSeq, dIf, dTst, dBin, dVar, dTup, dNil, dCons, dLst, dC, dRet, dNext, dAsg, dFrz, hTup, hCons, hName, hNil, dSet, dPut, dIfE, dNotT, dAndT, dOrT, dAndV, dOrV, dCB, stl, val, vals, datL, WB, W1, W2, WL, ↓reduceIte, Bool.false_eq_true, backE, bFor, bLoop, bLast, dLc, dLcL, dForL, KP.gEq_unit, KP.gEq_unit0, KP.gEq_str, KP.gEq_int, KP.gIx_t0, KP.gIx_t1, KP.gIx_t2, KP.gLen_lst, KP.gLen_tup, KP.gAll_map_eq, gSorted2_lst_eq, gSorted2_tup_eq, gTuple_lst_eq, List.map_cons, List.map_nil, iSeq, dYes, wipeE, resto, frO, KP.gIn_tup_eq, KP.gIn_lst_eq, List.getElem?_cons_zero, List.getElem?_cons_succ, List.set_cons_zero, List.set_cons_succ, List.cons_append, List.nil_append, List.replicate, Nat.reduceSub, List.length_cons, List.length_nil, true_and, and_true, Bool.false_xor, dEnd, fin1, dFldSet, dFld, dMth, dSlice, dNoP, dPart, slotsOf, slotOf]
  exact ⟨s2, s2, s3, fin_big (by omega), s3, la hl (by decide), s2, s3, la2 hl (by decide), s3, la3 hl (by decide), h _ _⟩
theorem things_loop {s0 : Sl} {Q : List D → TL.Env → Prop} : ∀ (ws : List Str) (acc : List D) (o1 o2 o3 : Sl), acc.length + 4 * ws.length ≤ 900 →
    (∀ o1 o2 o3, Q (acc ++ (ws.flatMap fun w => [some (w, false, false), some (w, false, true), some (w, true, false), some (w, true, true)]).map thD) [s0, o1, o2, o3]) →
    bLoop (hName 1) dYes bThing [1, 2, 3] (ws.map .str) acc [s0, o1, o2, o3] Q
  | [], acc, o1, o2, o3, _, h => by
    have := h .un .un .un
    rw [List.flatMap_nil, List.map_nil, List.append_nil] at this
    exact this
  | w :: ws, acc, o1, o2, o3, hl, h => by
    rw [List.length_cons] at hl
    refine th_one (s0 := s0) (w := w) acc (by omega) fun p2 p3 => ?_
    refine things_loop ws _ _ _ _ (app4 (by omega)) (fun o1 o2 o3 => ?_)
    have := h o1 o2 o3
    rw [List.flatMap_cons, List.map_append] at this
    simpa using this
theorem k_things_of : Keeps S_things_of 1 4 r_things_of := by
  rintro args Q h0 ⟨ws, rfl, hl, h⟩
  clear h0
  refine ⟨sz0, sz (Nat.le_of_ble_eq_true rfl), ?_⟩
  refine things_loop (s0 := .fr (.lst (ws.map .str))) ws [] .un .un .un (by simp; omega) fun o1 o2 o3 => ?_
  rw [List.nil_append]
  refine ⟨?_, ?_⟩
  · show 1 + _ ≤ sizeLine
    rw [List.length_map]
    have := ths_len ws
    unfold ths at this
    rw [List.length_cons] at this
    exact sz (by omega)
  · exact h
def bView : DTB := (bFor (iSeq ((dFrz (dVar 1)))) (hName 4) (dYes) (bFor (iSeq ((dTup (dCons (dC (.bl false)) (dCons (dC (.bl true)) dNil))))) (hName 5) (dYes) (bFor (iSeq ((dTup (dCons (dC (.int 0)) (dCons (dC (.int 2)) dNil))))) (hName 6) (dYes) (bLast ((dTup (dCons ((dFrz (dVar 3))) (dCons ((dFrz (dVar 4))) (dCons ((dFrz (dVar 5))) (dCons ((dFrz (dVar 6))) dNil))))))) [6]) [5, 6]) [4, 5, 6])
def bOwn : DTB := (bFor (iSeq ((dTup (dCons (dC (.bl false)) (dCons (dC (.bl true)) dNil))))) (hName 5) (dYes) (bFor (iSeq ((dTup (dCons (dC (.int 0)) (dCons (dC (.int 2)) dNil))))) (hName 6) (dYes) (bLast ((dTup (dCons ((dFrz (dVar 3))) (dCons ((dFrz (dVar 4))) (dCons ((dFrz (dVar 5))) (dCons ((dFrz (dVar 6))) dNil))))))) [6]) [5, 6])
def fourV (t : Option (Str × Bool × Bool)) (o : Option Str) : List Vw := [⟨t, o, false, false⟩, ⟨t, o, false, true⟩, ⟨t, o, true, false⟩, ⟨t, o, true, true⟩]
def r_views_of : DTS := (dSeq (dSet 1 1 ((dBin gAdd ((dLst (dCons ((dTup dNil)) dNil))) ((dLc (iSeq ((dFrz (dVar 0)))) (hName 2) (dYes) ((dTup (dCons (dC (.int 1)) (dCons ((dFrz (dVar 2))) dNil)))) [2])))))
      (dRet ((dLcN (iSeq ((dCall 1 S_things_of (dCons ((dFrz (dVar 0))) dNil)))) (hName 3) (dYes) bView [3, 4, 5, 6]))))
section
variable {s0 s1 s2 : Sl} {t : Option (Str × Bool × Bool)} {Q : List D → TL.Env → Prop}
theorem own_one {o5 o6 : Sl} {o : Option Str} (acc : List D) (hl : acc.length ≤ 900)
    (h : ∀ o5 o6, Q (acc ++ [vwD ⟨t, o, false, false⟩] ++ [vwD ⟨t, o, false, true⟩] ++ [vwD ⟨t, o, true, false⟩] ++ [vwD ⟨t, o, true, true⟩]) [s0, s1, s2, .fr (thD t), .fr (owD o), o5, o6]) :
    bOwn acc [s0, s1, s2, .fr (thD t), .fr (owD o), o5, o6] Q := by
  have z2 : 2 ≤ sizeLine := sz (by decide)
  have z4 : 4 ≤ sizeLine := sz (by decide)
  unfold bOwn
  simp only [eq_self, decide_true, decide_false, Bool.xor_true, Bool.true_xor, Bool.xor_false, Option.some.injEq, Sl.ls.injEq, exists_eq', List.tail_cons, Bool.not_true, Bool.not_false, Nat.reduceAdd, dSeq, dIf, dTst, dBin, dVar, dTup, dNil, dCons, dLst, dC, dRet, dNext, dAsg, dFrz, hTup, hCons, hName, hNil, dSet, dPut, dIfE, dNotT, dAndT, dOrT, dAndV, dOrV, dCB, stl, val, vals, datL, WB, W1, W2, WL, ↓reduceIte, Bool.false_eq_true, backE, bFor, bLoop, bLast, dLc, dLcL, dForL, KP.gEq_unit, KP.gEq_unit0, KP.gEq_str, KP.gEq_int, KP.gIx_t0, KP.gIx_t1, KP.gIx_t2, KP.gLen_lst, KP.gLen_tup, KP.gAll_map_eq, gSorted2_lst_eq, gSorted2_tup_eq, gTuple_lst_eq, List.map_cons, List.map_nil, iSeq, dYes, wipeE, resto, frO, KP.gIn_tup_eq, KP.gIn_lst_eq, List.getElem?_cons_zero, List.getElem?_cons_succ, List.set_cons_zero, List.set_cons_succ, List.cons_append, List.nil_append, List.replicate, Nat.reduceSub, List.length_cons, List.length_nil, true_and, and_true, Bool.false_xor, dEnd, fin1, dFldSet, dFld, dMth, dSlice, dNoP, dPart, slotsOf, slotOf]
  exact ⟨z2, z2, z4, fin_big (by omega), z4, la hl (by decide), z2, z4, la2 hl (by decide), z4, la3 hl (by decide), h _ _⟩
theorem owns_loop : ∀ (os : List (Option Str)) (acc : List D) (o4 o5 o6 : Sl), acc.length + 4 * os.length ≤ 900 →
    (∀ o4 o5 o6, Q (acc ++ (os.flatMap (fourV t)).map vwD) [s0, s1, s2, .fr (thD t), o4, o5, o6]) →
    bLoop (hName 4) dYes bOwn [4, 5, 6] (os.map owD) acc [s0, s1, s2, .fr (thD t), o4, o5, o6] Q
  | [], acc, o4, o5, o6, _, h => by
    have := h .un .un .un
    rw [List.flatMap_nil, List.map_nil, List.append_nil] at this
    exact this
  | o :: os, acc, o4, o5, o6, hl, h => by
    rw [List.length_cons] at hl
    refine own_one (o := o) acc (by omega) fun p5 p6 => ?_
    refine owns_loop os _ _ _ _ (app4 (by omega)) (fun o4 o5 o6 => ?_)
    have := h o4 o5 o6
    rw [List.flatMap_cons, List.map_append] at this
    simpa [fourV] using this
end
section
variable {s0 s2 : Sl} {Q : List D → TL.Env → Prop} {os : List (Option Str)}
theorem views_loop (ho : os.length ≤ 4) : ∀ (ts : List (Option (Str × Bool × Bool))) (acc : List D) (s1 o3 o4 o5 o6 : Sl), (s1 = .ls (os.map owD) ∨ s1 = .fr (.lst (os.map owD))) → acc.length + 16 * ts.length ≤ 900 →
    (∀ s1 o3 o4 o5 o6, Q (acc ++ (ts.flatMap fun t => os.flatMap (fourV t)).map vwD) [s0, s1, s2, o3, o4, o5, o6]) →
    bLoop (hName 3) dYes bView [3, 4, 5, 6] (ts.map thD) acc [s0, s1, s2, o3, o4, o5, o6] Q
  | [], acc, s1, o3, o4, o5, o6, _, _, h => by
    have := h s1 .un .un .un .un
    rw [List.flatMap_nil, List.map_nil, List.append_nil] at this
    exact this
  | t :: ts, acc, s1, o3, o4, o5, o6, hs, hl, h => by
    rw [List.length_cons] at hl
    have len4 : ((os.flatMap (fourV t)).map vwD).length = 4 * os.length := by
      rw [List.length_map, List.length_flatMap]
      have : (os.map fun o => (fourV t o).length) = os.map fun _ => 4 := rfl
      rw [this]
      clear this hs h ho
      induction os with
      | nil => rfl
      | cons o os ih => rw [List.map_cons, List.sum_cons, ih, List.length_cons]; omega
    have go : bLoop (hName 4) dYes bOwn [4, 5, 6] (os.map owD) acc [s0, .fr (.lst (os.map owD)), s2, .fr (thD t), .un, .un, .un] fun acc' ρ3 => bLoop (hName 3) dYes bView [3, 4, 5, 6] (ts.map thD) acc' ρ3 Q := by
      refine owns_loop os acc _ _ _ (by omega) fun p4 p5 p6 => ?_
      refine views_loop ho ts _ _ _ _ _ _ (.inr rfl) (by rw [List.length_append, len4]; omega) fun s1 q3 q4 q5 q6 => ?_
      have := h s1 q3 q4 q5 q6
      rw [List.flatMap_cons, List.map_append, ← List.append_assoc] at this
      exact this
    rcases hs with rfl | rfl
    · exact go
    · exact go
theorem own_lc {ρ0 : TL.Env} {s0 s1 o3 o4 o5 o6 : Sl} {Q : Rs → TL.Env → Prop} : ∀ (ws : List Str) (acc : List D) (o : Sl), acc.length + ws.length ≤ 900 →
    Q (.nw (.ls (acc ++ (ws.map some).map owD))) [s0, s1, frO ρ0[2]?, o3, o4, o5, o6] →
    dLcL (hName 2) dYes (dTup (dCons (dC (.int 1)) (dCons (dFrz (dVar 2)) dNil))) [2] ρ0 (ws.map .str) acc [s0, s1, o, o3, o4, o5, o6] Q
  | [], acc, o, _, h => by
    rw [List.map_nil, List.map_nil, List.append_nil] at h
    exact h
  | w :: ws, acc, o, hl, h => by
    rw [List.length_cons] at hl
    refine ⟨sz (Nat.le_of_ble_eq_true rfl), fin_big (by omega), ?_⟩
    refine own_lc ws (acc ++ [owD (some w)]) _ (by simp; omega) ?_
    simpa using h
theorem k_views_of : Keeps S_views_of 1 7 r_views_of := by
  rintro args Q h0 ⟨ws, rfl, hl, h⟩
  clear h0
  refine ⟨sz0, sz (Nat.le_of_ble_eq_true rfl), ?_⟩
  refine own_lc ws [] .un (by simp; omega) ?_
  rw [List.nil_append]
  refine ⟨by show 1 + _ ≤ sizeLine; rw [List.length_map, List.length_map]; exact sz (by omega), Nat.le_of_ble_eq_true rfl, ?_⟩
  refine ⟨rfl, rfl, ws, rfl, hl, ?_⟩
  refine views_loop (os := ows ws) (by unfold ows; rw [List.length_cons, List.length_map]; omega) (ths ws) [] _ _ _ _ _ (.inl rfl) (by rw [ths_len]; simp; omega) fun s1 o3 o4 o5 o6 => ?_
  rw [List.nil_append]
  exact h
end
end KP
namespace KP
open PySem PySem.Spec PyProof.Rows L2 TL
def S_is_word : DSp := Sp_is_word
theorem k_is_word : Keeps S_is_word 1 2 rd_is_word := kd_is_word
def S_are_different : DSp := Lk04.S_are_different
theorem k_are_different : Keeps S_are_different 2 3 Lk04.r_are_different := Lk04.k_are_different
def S_is_deed : DSp := Lk04.S_is_deed
theorem k_is_deed : Keeps S_is_deed 1 1 Lk04.r_is_deed := Lk04.k_is_deed
def S_is_rule : DSp := Lk04.S_is_rule
theorem k_is_rule : Keeps S_is_rule 1 4 Lk04.r_is_rule := Lk04.k_is_rule
theorem isWord_wd {z : Str} (h : Wd z) : isWord (.str z) = true := by
  have h' : (decide (1 ≤ z.length) && (decide (z.length ≤ 8) && z.cps.toList.all fun c => decide (c ∈ lets))) = true := h
  show (decide (1 ≤ z.length) && decide (z.length ≤ 8) && z.cps.toList.all fun c => decide (c ∈ lets)) = true
  rw [Bool.and_assoc]
  exact h'
theorem lk_wd {z : Str} (h : Wd z) : Lk (.str z) := h.fine (by decide)
theorem met_nodup : ∀ (l acc : List Str), (acc ++ l).Nodup → met acc l = acc ++ l
  | [], acc, _ => by rw [List.append_nil]; rfl
  | x :: l, acc, h => by
    have hx : x ∉ acc := fun z => by
      rw [List.nodup_append] at h
      exact h.2.2 x z x (by simp) rfl
    show met (if x ∈ acc then acc else acc ++ [x]) l = _
    rw [if_neg hx, met_nodup l (acc ++ [x]) (by rw [List.append_assoc]; exact h), List.append_assoc]
    rfl
theorem distinct_nodup {xs : List Str} (h : xs.Nodup) : distinct xs = xs.length := by
  unfold distinct
  rw [met_nodup xs [] h]
  rfl
def Ws (xs : List D) : Prop := ∀ x ∈ xs, ∃ z, x = .str z ∧ Wd z
theorem Ws.fine {xs : List D} (h : Ws xs) {n : Nat} (hl : xs.length ≤ n) {N m : Nat} : FineL N (9 * n) m xs := by
  refine .of (fun x hx => ?_) ?_
  · obtain ⟨z, rfl, wz⟩ := h x hx
    have f := wz.fine (N := N) (m := m) (Nat.le_refl 8)
    exact ⟨f.ok, f.ld⟩
  · have : wtL xs ≤ 9 * xs.length := by
      clear hl
      induction xs with
      | nil => exact Nat.le_refl _
      | cons x xs ih =>
        obtain ⟨z, rfl, wz⟩ := h x (by simp)
        have := ih fun y hy => h y (List.mem_cons_of_mem _ hy)
        have f := (wz.fine (N := N) (m := m) (Nat.le_refl 8)).lw
        rw [wtL_cons, List.length_cons]
        omega
    omega
theorem Ws.strs {ss : List Str} (h : ∀ z ∈ ss, Wd z) : Ws (ss.map .str) := fun x hx => by
  obtain ⟨z, hz, rfl⟩ := List.mem_map.mp hx
  exact ⟨z, rfl, h z hz⟩
theorem marks_wd : Lk04.marks.all wdB = true := by decide +kernel
theorem kinds_wd : Lk04.kinds.all wdB = true := by decide +kernel
theorem _root_.TL.RuOk.sw {r : Ru} (h : RuOk r) : ∀ z ∈ r.s, Wd z := fun z hz => List.all_eq_true.mp marks_wd z (h.sm z hz)
theorem _root_.TL.RuOk.kw {r : Ru} (h : RuOk r) : ∀ z ∈ r.k, Wd z := fun z hz => List.all_eq_true.mp kinds_wd z (h.km z hz)
theorem ru_fine {r : Ru} (h : RuOk r) {N : Nat} : Fine N 113 2 (ruD r) := by
  have f1 := Fine.tup ((Ws.strs h.sw).fine (n := 6) (by rw [List.length_map]; exact h.sl) (N := N) (m := 0))
  have f2 := Fine.tup ((Ws.strs h.dw).fine (n := 2) (by rw [List.length_map]; exact h.dl) (N := N) (m := 0))
  have f3 := Fine.tup ((Ws.strs h.kw).fine (n := 4) (by rw [List.length_map]; exact h.kl) (N := N) (m := 0))
  exact (Fine.tup (FineL.cons f1 (FineL.cons f2 (FineL.cons f3 (FineL.nil (w := 0)))))).mono (by decide) (Nat.le_refl _)
theorem ru_lk4 {r : Ru} (h : RuOk r) : Lk04.Lk4 (ruD r) := (ru_fine h).mono (by decide) (by decide)
theorem diff_true {ss xs : List Str} (h1 : ∀ z ∈ xs, z ∈ ss) (h2 : xs.Nodup) : Lk04.diffB ss (.tup (xs.map .str)) = true := by
  have e1 : (xs.map D.str).all (Lk04.inS ss) = true := by
    rw [List.all_map, List.all_eq_true]
    intro z hz
    exact decide_eq_true (h1 z hz)
  show ((xs.map D.str).all (Lk04.inS ss) && decide (distinct ((txs (xs.map .str)).getD []) = (xs.map D.str).length)) = true
  rw [e1, txs_map, List.length_map]
  show (true && decide (distinct xs = xs.length)) = true
  rw [distinct_nodup h2]
  simp
theorem rule_true {r : Ru} (h : RuOk r) : Lk04.isRuleB (ruD r) = true := by
  show (Lk04.diffB Lk04.marks (.tup (r.s.map .str)) && (decide ((r.s.map D.str).length ≤ 6) && (Lk04.isDeed (.tup (r.d.map .str)) && Lk04.diffB Lk04.kinds (.tup (r.k.map .str))))) = true
  rw [diff_true h.sm h.sn, diff_true h.km h.kn, h.d, List.length_map, decide_eq_true h.sl]
  rfl
def S_are_wants : DSp := fun args Q => ∃ (w : List Str) (d : D), args = [.fr d] ∧ (d = .lst (w.map .str) ∨ d = .tup (w.map .str)) ∧ (∀ z ∈ w, Wd z) ∧ w.Nodup ∧ w.length ≤ 3 ∧ Q (.dat (.bl true)) [.un]
def r_are_wants : DTS := (dSeq (dIf ((dOrT ((dNotT ((dTst ((dCall 1 S_is_list (dCons ((dFrz (dVar 0))) dNil))))))) ((dOrT ((dTst (dBin gGt ((dCB gLen (dCons ((dVar 0)) dNil))) ((dC (.int 3)))))) ((dNotT ((dTst ((dCB gAll (dCons ((dLc (iSeq ((dFrz (dVar 0)))) (hName 1) (dYes) ((dCall 1 S_is_word (dCons ((dFrz (dVar 1))) dNil))) [1])) dNil))))))))))) (dRet (dC (.bl false))) dNext)
      (dRet ((dBin (gEq false) ((dLenSet2 ((dVar 0)))) ((dCB gLen (dCons ((dVar 0)) dNil)))))))
theorem all_words {ρ0 : TL.Env} {s0 : Sl} {Q : Rs → TL.Env → Prop} : ∀ (ws : List Str) (acc : List Bool) (o : Sl), (∀ z ∈ ws, Wd z) → acc.length + ws.length ≤ 900 → (acc.all id = true → Q (.nw (.ls ((acc ++ ws.map fun _ => true).map .bl))) [s0, frO ρ0[1]?]) → acc.all id = true →
    dLcL (hName 1) dYes (dCall 1 S_is_word (dCons (dFrz (dVar 1)) dNil)) [1] ρ0 (ws.map .str) (acc.map .bl) [s0, o] Q
  | [], acc, o, _, _, h, ha => by
    have := h ha
    rw [List.map_nil, List.append_nil] at this
    exact this
  | z :: ws, acc, o, hw, hl, h, ha => by
    rw [List.length_cons] at hl
    have wz := hw z (by simp)
    refine ⟨rfl, rfl, .str z, rfl, lk_wd wz, ?_⟩
    rw [isWord_wd wz]
    refine ⟨by rw [List.length_map]; exact fin_big (by omega), ?_⟩
    have ha2 : (acc ++ [true]).all id = true := by rw [List.all_append, ha]; rfl
    have := all_words (ρ0 := ρ0) (s0 := s0) (Q := Q) ws (acc ++ [true]) (.fr (.str z)) (fun y hy => hw y (List.mem_cons_of_mem _ hy)) (by simp; omega) (fun _ => by
      have := h ha
      simpa using this) ha2
    rw [List.map_append] at this
    exact this
theorem lenSet2_lst {zs : List Str} {ρ : TL.Env} {R : Rs → TL.Env → Prop} : dLenSet2 (dVar 0) (.fr (.lst (zs.map .str)) :: ρ) R = (zs.length ≤ 4000 ∧ R (.dat (.int (distinct zs : Nat))) (.fr (.lst (zs.map .str)) :: ρ)) := by
  show (match txs (zs.map D.str) with | some xs => xs.length ≤ 4000 ∧ R (.dat (.int (distinct xs : Nat))) (.fr (.lst (zs.map .str)) :: ρ) | none => False) = _
  rw [txs_map]
theorem lenSet2_tup {zs : List Str} {ρ : TL.Env} {R : Rs → TL.Env → Prop} : dLenSet2 (dVar 0) (.fr (.tup (zs.map .str)) :: ρ) R = (zs.length ≤ 4000 ∧ R (.dat (.int (distinct zs : Nat))) (.fr (.tup (zs.map .str)) :: ρ)) := by
  show (match txs (zs.map D.str) with | some xs => xs.length ≤ 4000 ∧ R (.dat (.int (distinct xs : Nat))) (.fr (.tup (zs.map .str)) :: ρ) | none => False) = _
  rw [txs_map]
theorem all_true (ws : List Str) : (ws.map fun _ => true).all id = true := by rw [List.all_map]; simp
theorem k_are_wants : Keeps S_are_wants 1 2 r_are_wants := by
  rintro args Q h0 ⟨w, d, rfl, hd, hw, hn, hl, h⟩
  clear h0
  have l3 : decide ((w.length : Int) > 3) = false := decide_eq_false (by omega)
  have dn := distinct_nodup hn
  unfold r_are_wants
  rcases hd with rfl | rfl
  · refine ⟨rfl, rfl, _, rfl, ⟨_, .inl rfl⟩, ?_⟩
    refine ite2' (c := decide (((w.map D.str).length : Int) > 3)) (fun e => by rw [List.length_map, l3] at e; cases e) (fun _ => ?_)
    refine all_words (ρ0 := [.fr (.lst (w.map .str)), .un]) w [] .un hw (by simp; omega) (fun _ => ?_) rfl
    rw [List.nil_append]
    dsimp only [stl, dNil, vals, val, WL]
    refine Lk04.gAll_map ?_
    rw [all_true]
    simp only [WB, Bool.not_true, ↓reduceIte, Bool.false_eq_true, dNext, dRet, dBin, frO, List.getElem?_cons_succ, List.getElem?_cons_zero, lenSet2_lst, dn]
    refine ⟨by omega, ?_⟩
    show Q (.dat (.bl (false ^^ decide (V.int (w.length : Nat) = V.int ((w.map D.str).length : Nat))))) _
    rw [List.length_map, decide_eq_true rfl]
    exact h
  · refine ⟨rfl, rfl, _, rfl, ⟨_, .inr rfl⟩, ?_⟩
    refine ite2' (c := decide (((w.map D.str).length : Int) > 3)) (fun e => by rw [List.length_map, l3] at e; cases e) (fun _ => ?_)
    refine all_words (ρ0 := [.fr (.tup (w.map .str)), .un]) w [] .un hw (by simp; omega) (fun _ => ?_) rfl
    rw [List.nil_append]
    dsimp only [stl, dNil, vals, val, WL]
    refine Lk04.gAll_map ?_
    rw [all_true]
    simp only [WB, Bool.not_true, ↓reduceIte, Bool.false_eq_true, dNext, dRet, dBin, frO, List.getElem?_cons_succ, List.getElem?_cons_zero, lenSet2_tup, dn]
    refine ⟨by omega, ?_⟩
    show Q (.dat (.bl (false ^^ decide (V.int (w.length : Nat) = V.int ((w.map D.str).length : Nat))))) _
    rw [List.length_map, decide_eq_true rfl]
    exact h
end KP
namespace KP
open PySem PySem.Spec PyProof.Rows L2 TL
theorem fNW : ¬ (("own_name" : Str) = "own_wants") := by decide +kernel
theorem fNR : ¬ (("own_name" : Str) = "own_rules") := by decide +kernel
theorem fWR : ¬ (("own_wants" : Str) = "own_rules") := by decide +kernel
theorem fDN : ¬ (("decided" : Str) = "own_name") := by decide +kernel
theorem fDW : ¬ (("decided" : Str) = "own_wants") := by decide +kernel
theorem fDR : ¬ (("decided" : Str) = "own_rules") := by decide +kernel
theorem lookup_putD (f g : Str) (v : D) : ∀ fs : List (Str × D), (putD f v fs).lookup g = if g = f then some v else fs.lookup g
  | [] => by
    show List.lookup g [(f, v)] = _
    by_cases h : g = f
    · simp only [List.lookup, beq_iff_eq.mpr h, if_pos h]
    · simp only [List.lookup, beq_eq_false_iff_ne.mpr h, if_neg h]
  | (k, x) :: r => by
    have ih := lookup_putD f g v r
    rw [show putD f v ((k, x) :: r) = (if k = f then (k, v) :: r else (k, x) :: putD f v r) from rfl]
    by_cases hk : k = f
    · rw [if_pos hk]
      by_cases h : g = k
      · simp only [List.lookup, beq_iff_eq.mpr h, if_pos (h.trans hk)]
      · simp only [List.lookup, beq_eq_false_iff_ne.mpr h, if_neg (fun e : g = f => h (e.trans hk.symm))]
    · rw [if_neg hk]
      by_cases h : g = k
      · simp only [List.lookup, beq_iff_eq.mpr h, if_neg (fun e : g = f => hk (h.symm.trans e))]
      · simp only [List.lookup, beq_eq_false_iff_ne.mpr h]
        exact ih
theorem length_putD (f : Str) (v : D) : ∀ fs : List (Str × D), (putD f v fs).length ≤ fs.length + 1
  | [] => Nat.le_refl _
  | (k, x) :: r => by
    have ih := length_putD f v r
    show (if k = f then (k, v) :: r else (k, x) :: putD f v r).length ≤ _
    by_cases hk : k = f
    · rw [if_pos hk, List.length_cons, List.length_cons]; omega
    · rw [if_neg hk, List.length_cons, List.length_cons]; omega
noncomputable def srtRu (r : Ru) : Ru := ⟨srt r.s, r.d, srt r.k⟩
noncomputable def kpW (t : Tk) : D := .tup ((srt t.w).map .str)
noncomputable def kpR (t : Tk) : D := .tup ((t.r.map srtRu).map ruD)
noncomputable def kpF (t : Tk) : List (Str × D) := putD "own_rules" (kpR t) (putD "own_wants" (kpW t) (putD "own_name" (.str t.tag) []))
theorem kp_w (t : Tk) : (kpF t).lookup ("own_wants" : Str) = some (kpW t) := by unfold kpF; rw [lookup_putD, if_neg fWR, lookup_putD, if_pos rfl]
theorem kp_r (t : Tk) : (kpF t).lookup ("own_rules" : Str) = some (kpR t) := by unfold kpF; rw [lookup_putD, if_pos rfl]
theorem kp_n (t : Tk) : (kpF t).lookup ("own_name" : Str) = some (.str t.tag) := by unfold kpF; rw [lookup_putD, if_neg fNR, lookup_putD, if_neg fNW, lookup_putD, if_pos rfl]
theorem kp_d (t : Tk) : (kpF t).lookup ("decided" : Str) = none := by unfold kpF; rw [lookup_putD, if_neg fDR, lookup_putD, if_neg fDW, lookup_putD, if_neg fDN]; rfl
noncomputable def kpD (c : Ca) (t : Tk) : D := .obj c.Keeper (kpF t)
noncomputable def S_Keeper___init__ (c : Ca) : DSp := fun args Q => ∃ t : Tk, args = [.rs (.ob c.Keeper []), .fr (.str t.tag), .fr (.lst (t.w.map .str)), .fr (.lst (t.r.map ruD))] ∧ TkOk t ∧ Q (.dat .non) [.rs (.ob c.Keeper (kpF t)), .un, .un, .un]
noncomputable def rRules (c : Ca) : DTS := (dFldSet c.Keeper 0 "own_rules" ((dCB gTuple (dCons ((dLc (iSeq ((dFrz (dVar 3)))) (hTup 3 (hCons (hName 6) (hCons (hName 7) (hCons (hName 8) hNil)))) (dYes) ((dTup (dCons ((dCB gTuple (dCons ((dCB gSorted2 (dCons ((dVar 6)) dNil))) dNil))) (dCons ((dFrz (dVar 7))) (dCons ((dCB gTuple (dCons ((dCB gSorted2 (dCons ((dVar 8)) dNil))) dNil))) dNil))))) [6, 7, 8])) dNil))))
noncomputable def rSets (c : Ca) : DTS := (dSeq (dFldSet c.Keeper 0 "own_name" ((dFrz (dVar 1))))
      (dSeq (dFldSet c.Keeper 0 "own_wants" ((dCB gTuple (dCons ((dCB gSorted2 (dCons ((dVar 2)) dNil))) dNil))))
      (rRules c)))
noncomputable def r_Keeper___init__ (c : Ca) : DTS := (dSeq (dIf ((dNotT ((dTst ((dCall 1 S_is_word (dCons ((dFrz (dVar 1))) dNil))))))) dNever dNext)
      (dSeq (dIf ((dNotT ((dTst ((dCall 1 S_are_wants (dCons ((dFrz (dVar 2))) dNil))))))) dNever dNext)
      (dSeq (dIf ((dOrT ((dNotT ((dTst ((dCall 1 S_is_list (dCons ((dFrz (dVar 3))) dNil))))))) ((dTst (dBin gGt ((dCB gLen (dCons ((dVar 3)) dNil))) ((dC (.int 8)))))))) dNever dNext)
      (dSeq (dFor (iEnumB (dCons ((dFrz (dVar 3))) dNil)) (hTup 2 (hCons (hName 4) (hCons (hName 5) hNil))) (dIf ((dNotT ((dTst ((dCall 1 S_is_rule (dCons ((dFrz (dVar 5))) dNil))))))) dNever dNext))
      (rSets c)))))
theorem enum_map {α : Type} (f : α → D) (l : List α) : enumD (l.map f) = (l.zipIdx 0).map fun p => .tup [.int p.2, f p.1] := by
  unfold enumD
  rw [List.zipIdx_map, List.map_map]
  rfl
section
variable {E : DEnds} {s0 s1 s2 s3 : Sl}
theorem check_loop : ∀ (l : List (Ru × Nat)) (o4 o5 : Sl), (∀ p ∈ l, RuOk p.1) → (∀ o4 o5, E.nx [s0, s1, s2, s3, o4, o5, .un, .un, .un]) →
    dForL (hTup 2 (hCons (hName 4) (hCons (hName 5) hNil))) (dIf ((dNotT ((dTst ((dCall 1 S_is_rule (dCons ((dFrz (dVar 5))) dNil))))))) dNever dNext) E (l.map fun p => .tup [.int p.2, ruD p.1]) [s0, s1, s2, s3, o4, o5, .un, .un, .un]
  | [], o4, o5, _, h => h o4 o5
  | p :: l, o4, o5, hl, h => by
    have hp := hl p (by simp)
    refine ⟨rfl, rfl, rfl, rfl, ruD p.1, rfl, ru_lk4 hp, ?_⟩
    rw [rule_true hp]
    exact check_loop l _ _ (fun q hq => hl q (List.mem_cons_of_mem _ hq)) h
theorem rules_lc {ρ0 : TL.Env} {Q : Rs → TL.Env → Prop} {o4 o5 : Sl} : ∀ (l : List Ru) (acc : List D) (o6 o7 o8 : Sl), (∀ r ∈ l, RuOk r) → acc.length + l.length ≤ 900 →
    Q (.nw (.ls (acc ++ (l.map srtRu).map ruD))) [s0, s1, s2, s3, o4, o5, frO ρ0[6]?, frO ρ0[7]?, frO ρ0[8]?] →
    dLcL (hTup 3 (hCons (hName 6) (hCons (hName 7) (hCons (hName 8) hNil)))) (dYes) ((dTup (dCons ((dCB gTuple (dCons ((dCB gSorted2 (dCons ((dVar 6)) dNil))) dNil))) (dCons ((dFrz (dVar 7))) (dCons ((dCB gTuple (dCons ((dCB gSorted2 (dCons ((dVar 8)) dNil))) dNil))) dNil))))) [6, 7, 8] ρ0 (l.map ruD) acc [s0, s1, s2, s3, o4, o5, o6, o7, o8] Q
  | [], acc, o6, o7, o8, _, _, h => by
    rw [List.map_nil, List.map_nil, List.append_nil] at h
    exact h
  | r :: l, acc, o6, o7, o8, hr, hl, h => by
    rw [List.length_cons] at hl
    have hp := hr r (by simp)
    simp only [List.map_cons, ruD]
    simp only [eq_self, decide_true, decide_false, Bool.xor_true, Bool.true_xor, Bool.xor_false, Option.some.injEq, Sl.ls.injEq, exists_eq', List.tail_cons, Bool.not_true, Bool.not_false, Nat.reduceAdd, dSeq, dIf, dTst, dBin, dVar, dTup, dNil, dCons, dLst, dC, dRet, dNext, dAsg, dFrz, hTup, hCons, hName, hNil, dSet, dPut, dIfE, dNotT, dAndT, dOrT, dAndV, dOrV, dCB, stl, val, vals, datL, WB, W1, W2, WL, ↓reduceIte, Bool.false_eq_true, backE, bFor, bLoop, bLast, dLc, dLcL, dForL, KP.gEq_unit, KP.gEq_unit0, KP.gEq_str, KP.gEq_int, KP.gIx_t0, KP.gIx_t1, KP.gIx_t2, KP.gLen_lst, KP.gLen_tup, KP.gAll_map_eq, gSorted2_lst_eq, gSorted2_tup_eq, gTuple_lst_eq, List.map_cons, List.map_nil, iSeq, dYes, wipeE, resto, frO, KP.gIn_tup_eq, KP.gIn_lst_eq, List.getElem?_cons_zero, List.getElem?_cons_succ, List.set_cons_zero, List.set_cons_succ, List.cons_append, List.nil_append, List.replicate, Nat.reduceSub, List.length_cons, List.length_nil, true_and, and_true, Bool.false_xor, dEnd, fin1, dFldSet, dFld, dMth, dSlice, dNoP, dPart, slotsOf, slotOf]
    refine ⟨by have := hp.sl; omega, by have := hp.kl; omega, sz (Nat.le_of_ble_eq_true rfl), fin_big (by omega), ?_⟩
    refine rules_lc l (acc ++ [ruD (srtRu r)]) _ _ _ (fun q hq => hr q (List.mem_cons_of_mem _ hq)) (by simp; omega) ?_
    simpa using h
end
theorem k_Keeper___init__ (c : Ca) : Keeps (S_Keeper___init__ c) 4 9 (r_Keeper___init__ c) := by
  rintro args Q h0 ⟨t, rfl, ht, h⟩
  clear h0
  refine ⟨rfl, rfl, _, rfl, lk_wd ht.tag, ?_⟩
  rw [isWord_wd ht.tag]
  refine ⟨rfl, rfl, t.w, _, rfl, .inl rfl, ht.w, ht.wn, ht.wl, ?_⟩
  refine ⟨rfl, rfl, _, rfl, ⟨_, .inl rfl⟩, ?_⟩
  refine ite2' (c := decide (((t.r.map ruD).length : Int) > 8)) (fun e => by rw [List.length_map] at e; have := ht.rl; have := of_decide_eq_true e; omega) (fun _ => ?_)
  show dForL (hTup 2 (hCons (hName 4) (hCons (hName 5) hNil))) (dIf ((dNotT ((dTst ((dCall 1 S_is_rule (dCons ((dFrz (dVar 5))) dNil))))))) dNever dNext) _ (enumD (t.r.map ruD)) [.rs (.ob c.Keeper []), .fr (.str t.tag), .fr (.lst (t.w.map .str)), .fr (.lst (t.r.map ruD)), .un, .un, .un, .un, .un]
  rw [enum_map]
  refine check_loop (t.r.zipIdx 0) .un .un (fun p hp => ht.r p.1 (by
    obtain ⟨i, hi, e⟩ := List.mem_iff_getElem.mp hp
    rw [List.getElem_zipIdx] at e
    rw [← e]
    exact List.getElem_mem _)) fun o4 o5 => ?_
  have lw : t.w.length < 64 := by have := ht.wl; omega
  show rSets c (dEnd 4 Q) [.rs (.ob c.Keeper []), .fr (.str t.tag), .fr (.lst (t.w.map .str)), .fr (.lst (t.r.map ruD)), o4, o5, .un, .un, .un]
  simp only [rSets]
  simp only [eq_self, decide_true, decide_false, Bool.xor_true, Bool.true_xor, Bool.xor_false, Option.some.injEq, Sl.ls.injEq, exists_eq', List.tail_cons, Bool.not_true, Bool.not_false, Nat.reduceAdd, dSeq, dIf, dTst, dBin, dVar, dTup, dNil, dCons, dLst, dC, dRet, dNext, dAsg, dFrz, hTup, hCons, hName, hNil, dSet, dPut, dIfE, dNotT, dAndT, dOrT, dAndV, dOrV, dCB, stl, val, vals, datL, WB, W1, W2, WL, ↓reduceIte, Bool.false_eq_true, backE, bFor, bLoop, bLast, dLc, dLcL, dForL, KP.gEq_unit, KP.gEq_unit0, KP.gEq_str, KP.gEq_int, KP.gIx_t0, KP.gIx_t1, KP.gIx_t2, KP.gLen_lst, KP.gLen_tup, KP.gAll_map_eq, gSorted2_lst_eq, gSorted2_tup_eq, gTuple_lst_eq, List.map_cons, List.map_nil, iSeq, dYes, wipeE, resto, frO, KP.gIn_tup_eq, KP.gIn_lst_eq, List.getElem?_cons_zero, List.getElem?_cons_succ, List.set_cons_zero, List.set_cons_succ, List.cons_append, List.nil_append, List.replicate, Nat.reduceSub, List.length_cons, List.length_nil, true_and, and_true, Bool.false_xor, dEnd, fin1, dFldSet, dFld, dMth, dSlice, dNoP, dPart, slotsOf, slotOf]
  refine ⟨by decide, lw, Nat.lt_of_le_of_lt (length_putD _ _ _) (by decide), ?_⟩
  show rRules c (dEnd 4 Q) [.rs (.ob c.Keeper (putD "own_wants" (kpW t) (putD "own_name" (.str t.tag) []))), .fr (.str t.tag), .fr (.lst (t.w.map .str)), .fr (.lst (t.r.map ruD)), o4, o5, .un, .un, .un]
  refine rules_lc (ρ0 := [.rs (.ob c.Keeper (putD "own_wants" (kpW t) (putD "own_name" (.str t.tag) []))), .fr (.str t.tag), .fr (.lst (t.w.map .str)), .fr (.lst (t.r.map ruD)), o4, o5, .un, .un, .un]) t.r [] _ _ _ ht.r (by have := ht.rl; simp; omega) ?_
  rw [List.nil_append]
  refine ⟨rfl, ?_, h⟩
  have h1 := length_putD "own_name" (.str t.tag) []
  have h2 := length_putD "own_wants" (kpW t) (putD "own_name" (.str t.tag) [])
  show (putD "own_wants" (kpW t) (putD "own_name" (.str t.tag) [])).length < 1000
  have : ([] : List (Str × D)).length = 0 := rfl
  omega
def decD : Option Nat → D
  | none => .non
  | some i => .int i
noncomputable def S_Keeper_decided (c : Ca) : DSp := fun args Q => ∃ (t : Tk) (v : Vw), args = [.fr (kpD c t), .fr (vwD v)] ∧ TkOk t ∧ Q (.dat (decD (dec (kn v t.w) t.r))) [.un, .un]
def bDec : DTS := (dIf ((dTst ((dCB gAll (dCons ((dLc (iSeq ((dBin gIx ((dVar 4)) (dC (.int 0))))) (hName 5) (dYes) ((dBin (gIn false) ((dVar 5)) ((dVar 2)))) [5])) dNil))))) (dRet ((dVar 3))) dNext)
noncomputable def r_Keeper_decided (c : Ca) : DTS := (dSeq (dSet 2 2 (dFrz (dCall 2 S_held_for (dCons ((dFrz (dVar 1))) (dCons ((dFld c.Keeper "own_wants" ((dVar 0)))) dNil)))))
      (dSeq (dFor (iEnumB (dCons ((dFld c.Keeper "own_rules" ((dVar 0)))) dNil)) (hTup 2 (hCons (hName 3) (hCons (hName 4) hNil))) bDec)
      (dRet (dC .non))))
section
variable {E : DEnds} {s0 s1 s2 s3 s4 : Sl} {K : List Str}
theorem fits_lc {ρ0 : TL.Env} {Q : Rs → TL.Env → Prop} : ∀ (zs : List Str) (acc : List Bool) (o5 : Sl), acc.length + zs.length ≤ 900 →
    Q (.nw (.ls ((acc ++ zs.map fun z => decide (z ∈ K)).map .bl))) [s0, s1, .fr (.lst (K.map .str)), s3, s4, frO ρ0[5]?] →
    dLcL (hName 5) dYes (dBin (gIn false) (dVar 5) (dVar 2)) [5] ρ0 (zs.map .str) (acc.map .bl) [s0, s1, .fr (.lst (K.map .str)), s3, s4, o5] Q
  | [], acc, o5, _, h => by
    rw [List.map_nil, List.append_nil] at h
    exact h
  | z :: zs, acc, o5, hl, h => by
    rw [List.length_cons] at hl
    have ih := fits_lc (ρ0 := ρ0) (Q := Q) zs (acc ++ [decide (z ∈ K)]) (.fr (.str z)) (by simp; omega) (by simpa using h)
    rw [List.map_append] at ih
    simp only [eq_self, decide_true, decide_false, Bool.xor_true, Bool.true_xor, Bool.xor_false, Option.some.injEq, Sl.ls.injEq, exists_eq', List.tail_cons, Bool.not_true, Bool.not_false, Nat.reduceAdd, dSeq, dIf, dTst, dBin, dVar, dTup, dNil, dCons, dLst, dC, dRet, dNext, dAsg, dFrz, hTup, hCons, hName, hNil, dSet, dPut, dIfE, dNotT, dAndT, dOrT, dAndV, dOrV, dCB, stl, val, vals, datL, WB, W1, W2, WL, ↓reduceIte, Bool.false_eq_true, backE, bFor, bLoop, bLast, dLc, dLcL, dForL, KP.gEq_unit, KP.gEq_unit0, KP.gEq_str, KP.gEq_int, KP.gIx_t0, KP.gIx_t1, KP.gIx_t2, KP.gLen_lst, KP.gLen_tup, KP.gAll_map_eq, gSorted2_lst_eq, gSorted2_tup_eq, gTuple_lst_eq, List.map_cons, List.map_nil, iSeq, dYes, wipeE, resto, frO, KP.gIn_tup_eq, KP.gIn_lst_eq, List.getElem?_cons_zero, List.getElem?_cons_succ, List.set_cons_zero, List.set_cons_succ, List.cons_append, List.nil_append, List.replicate, Nat.reduceSub, List.length_cons, List.length_nil, true_and, and_true, Bool.false_xor, dEnd, fin1, dFldSet, dFld, dMth, dSlice, dNoP, dPart, slotsOf, slotOf]
    exact ⟨by rw [List.length_map]; exact fin_big (by omega), ih⟩
theorem dec_one {i : Nat} {r : Ru} {o3 o4 o5 : Sl} (hl : r.s.length ≤ 6) (h : if (r.s.all fun z => decide (z ∈ K)) = true then E.rt (.dat (.int i)) [s0, s1, .fr (.lst (K.map .str)), .fr (.int i), .fr (ruD r), .un] else E.nx [s0, s1, .fr (.lst (K.map .str)), .fr (.int i), .fr (ruD r), .un]) :
    bDec E [s0, s1, .fr (.lst (K.map .str)), .fr (.int i), .fr (ruD r), .un] := by
  simp only [bDec, ruD]
  simp only [eq_self, decide_true, decide_false, Bool.xor_true, Bool.true_xor, Bool.xor_false, Option.some.injEq, Sl.ls.injEq, exists_eq', List.tail_cons, Bool.not_true, Bool.not_false, Nat.reduceAdd, dSeq, dIf, dTst, dBin, dVar, dTup, dNil, dCons, dLst, dC, dRet, dNext, dAsg, dFrz, hTup, hCons, hName, hNil, dSet, dPut, dIfE, dNotT, dAndT, dOrT, dAndV, dOrV, dCB, stl, val, vals, datL, WB, W1, W2, WL, ↓reduceIte, Bool.false_eq_true, backE, bFor, bLoop, bLast, dLc, dLcL, dForL, KP.gEq_unit, KP.gEq_unit0, KP.gEq_str, KP.gEq_int, KP.gIx_t0, KP.gIx_t1, KP.gIx_t2, KP.gLen_lst, KP.gLen_tup, KP.gAll_map_eq, gSorted2_lst_eq, gSorted2_tup_eq, gTuple_lst_eq, List.map_cons, List.map_nil, iSeq, dYes, wipeE, resto, frO, KP.gIn_tup_eq, KP.gIn_lst_eq, List.getElem?_cons_zero, List.getElem?_cons_succ, List.set_cons_zero, List.set_cons_succ, List.cons_append, List.nil_append, List.replicate, Nat.reduceSub, List.length_cons, List.length_nil, true_and, and_true, Bool.false_xor, dEnd, fin1, dFldSet, dFld, dMth, dSlice, dNoP, dPart, slotsOf, slotOf]
  refine fits_lc (ρ0 := [s0, s1, .fr (.lst (K.map .str)), .fr (.int i), .fr (ruD r), .un]) r.s [] .un (by simp; omega) ?_
  rw [List.nil_append]
  simp only [eq_self, decide_true, decide_false, Bool.xor_true, Bool.true_xor, Bool.xor_false, Option.some.injEq, Sl.ls.injEq, exists_eq', List.tail_cons, Bool.not_true, Bool.not_false, Nat.reduceAdd, dSeq, dIf, dTst, dBin, dVar, dTup, dNil, dCons, dLst, dC, dRet, dNext, dAsg, dFrz, hTup, hCons, hName, hNil, dSet, dPut, dIfE, dNotT, dAndT, dOrT, dAndV, dOrV, dCB, stl, val, vals, datL, WB, W1, W2, WL, ↓reduceIte, Bool.false_eq_true, backE, bFor, bLoop, bLast, dLc, dLcL, dForL, KP.gEq_unit, KP.gEq_unit0, KP.gEq_str, KP.gEq_int, KP.gIx_t0, KP.gIx_t1, KP.gIx_t2, KP.gLen_lst, KP.gLen_tup, KP.gAll_map_eq, gSorted2_lst_eq, gSorted2_tup_eq, gTuple_lst_eq, List.map_cons, List.map_nil, iSeq, dYes, wipeE, resto, frO, KP.gIn_tup_eq, KP.gIn_lst_eq, List.getElem?_cons_zero, List.getElem?_cons_succ, List.set_cons_zero, List.set_cons_succ, List.cons_append, List.nil_append, List.replicate, Nat.reduceSub, List.length_cons, List.length_nil, true_and, and_true, Bool.false_xor, dEnd, fin1, dFldSet, dFld, dMth, dSlice, dNoP, dPart, slotsOf, slotOf]
  have e : (r.s.map fun z => decide (z ∈ K)).all id = r.s.all fun z => decide (z ∈ K) := by rw [List.all_map]; rfl
  rw [e]
  exact h
theorem dec_loop : ∀ (l : List Ru) (n : Nat) (o3 o4 : Sl), (∀ r ∈ l, r.s.length ≤ 6) →
    (∀ o3 o4, match l.findIdx? (fun r => r.s.all fun z => decide (z ∈ K)) with
      | none => E.nx [s0, s1, .fr (.lst (K.map .str)), o3, o4, .un]
      | some i => E.rt (.dat (.int (n + i : Nat))) [s0, s1, .fr (.lst (K.map .str)), o3, o4, .un]) →
    dForL (hTup 2 (hCons (hName 3) (hCons (hName 4) hNil))) bDec E ((l.zipIdx n).map fun p => .tup [.int p.2, ruD p.1]) [s0, s1, .fr (.lst (K.map .str)), o3, o4, .un]
  | [], n, o3, o4, _, h => h o3 o4
  | r :: l, n, o3, o4, hl, h => by
    refine ⟨rfl, rfl, dec_one (i := n) (o3 := o3) (o4 := o4) (o5 := .un) (hl r (by simp)) ?_⟩
    cases e : r.s.all fun z => decide (z ∈ K) with
    | true =>
      refine iteT ?_
      have := h (.fr (.int n)) (.fr (ruD r))
      rw [List.findIdx?_cons, e] at this
      exact this
    | false =>
      refine iteF ?_
      refine dec_loop l (n + 1) _ _ (fun q hq => hl q (List.mem_cons_of_mem _ hq)) fun o3 o4 => ?_
      have := h o3 o4
      rw [List.findIdx?_cons, e] at this
      simp only [Bool.false_eq_true, if_false] at this
      cases f : l.findIdx? (fun r => r.s.all fun z => decide (z ∈ K)) with
      | none =>
        rw [f] at this
        exact this
      | some i =>
        rw [f] at this
        have e2 : n + 1 + i = n + (i + 1) := by omega
        show E.rt (.dat (.int ((n + 1 + i : Nat) : Int))) _
        rw [e2]
        exact this
end
end KP
namespace KP
open PySem PySem.Spec PyProof.Rows L2 TL
theorem all_perm {a b : List Str} (p : a.Perm b) (f : Str → Bool) : a.all f = b.all f := by
  cases h : b.all f with
  | true => rw [List.all_eq_true] at h ⊢; exact fun x hx => h x (p.mem_iff.mp hx)
  | false =>
    cases h2 : a.all f with
    | false => rfl
    | true =>
      rw [List.all_eq_true] at h2
      have : b.all f = true := List.all_eq_true.mpr fun x hx => h2 x (p.mem_iff.mpr hx)
      rw [this] at h
      cases h
theorem mem_dec {a b : List Str} (h : ∀ z, z ∈ a ↔ z ∈ b) : (fun z => decide (z ∈ a)) = fun z => decide (z ∈ b) := funext fun z => decide_eq_decide.mpr (h z)
theorem dec_srt (K : List Str) (rs : List Ru) : (rs.map srtRu).findIdx? (fun r => r.s.all fun z => decide (z ∈ srt K)) = dec K rs := by
  unfold dec
  rw [List.findIdx?_map]
  congr 1
  funext r
  show ((srt r.s).all fun z => decide (z ∈ srt K)) = r.s.all fun z => decide (z ∈ K)
  rw [mem_dec (fun z => srt_mem), all_perm (srt_perm r.s)]
theorem k_Keeper_decided (c : Ca) : Keeps (S_Keeper_decided c) 2 6 (r_Keeper_decided c) := by
  rintro args Q h0 ⟨t, v, rfl, ht, h⟩
  clear h0
  have ew : kn v (srt t.w) = kn v t.w := kn_congr fun x => srt_mem
  have key : dSeq (dFor (iEnumB (dCons ((dFld c.Keeper "own_rules" ((dVar 0)))) dNil)) (hTup 2 (hCons (hName 3) (hCons (hName 4) hNil))) bDec)
      (dRet (dC .non)) (dEnd 2 Q) [.fr (kpD c t), .fr (vwD v), .fr (.lst ((srt (kn v t.w)).map .str)), .un, .un, .un] := by
    unfold dSeq dFor iEnumB dCons dFld dVar
    simp only [List.getElem?_cons_zero, val, kpD, kp_r]
    refine ⟨trivial, ?_⟩
    show dForL (hTup 2 (hCons (hName 3) (hCons (hName 4) hNil))) bDec _ (enumD ((t.r.map srtRu).map ruD)) [.fr (kpD c t), .fr (vwD v), .fr (.lst ((srt (kn v t.w)).map .str)), .un, .un, .un]
    rw [enum_map]
    refine dec_loop (t.r.map srtRu) 0 .un .un (fun r hr => ?_) fun o3 o4 => ?_
    · obtain ⟨q, hq, rfl⟩ := List.mem_map.mp hr
      show (srt q.s).length ≤ 6
      rw [srt_len]
      exact (ht.r q hq).sl
    · rw [dec_srt]
      cases e : dec (kn v t.w) t.r with
      | none => rw [e] at h; exact h
      | some i =>
        rw [e] at h
        show Q (.dat (.int ((0 + i : Nat) : Int))) _
        rw [Nat.zero_add]
        exact h
  simp only [r_Keeper_decided, kpD] at key ⊢
  simp only [eq_self, decide_true, decide_false, Bool.xor_true, Bool.true_xor, Bool.xor_false, Option.some.injEq, Sl.ls.injEq, exists_eq', List.tail_cons, Bool.not_true, Bool.not_false, Nat.reduceAdd, dSeq, dIf, dTst, dBin, dVar, dTup, dNil, dCons, dLst, dC, dRet, dNext, dAsg, dFrz, hTup, hCons, hName, hNil, dSet, dPut, dIfE, dNotT, dAndT, dOrT, dAndV, dOrV, dCB, stl, val, vals, datL, WB, W1, W2, WL, ↓reduceIte, Bool.false_eq_true, backE, bFor, bLoop, bLast, dLc, dLcL, dForL, KP.gEq_unit, KP.gEq_unit0, KP.gEq_str, KP.gEq_int, KP.gIx_t0, KP.gIx_t1, KP.gIx_t2, KP.gLen_lst, KP.gLen_tup, KP.gAll_map_eq, gSorted2_lst_eq, gSorted2_tup_eq, gTuple_lst_eq, List.map_cons, List.map_nil, iSeq, dYes, wipeE, resto, frO, KP.gIn_tup_eq, KP.gIn_lst_eq, List.getElem?_cons_zero, List.getElem?_cons_succ, List.set_cons_zero, List.set_cons_succ, List.cons_append, List.nil_append, List.replicate, Nat.reduceSub, List.length_cons, List.length_nil, true_and, and_true, Bool.false_xor, dEnd, fin1, dFldSet, dFld, dMth, dSlice, dNoP, dPart, slotsOf, slotOf, dCall, kp_w]
  refine ⟨rfl, v, srt t.w, rfl, ?_⟩
  rw [ew]
  exact key
def S_need_words : DSp := fun args Q => ∃ (ws : List Str) (d : D), args = [.fr d] ∧ (d = .lst (ws.map .str) ∨ d = .tup (ws.map .str)) ∧ (∀ z ∈ ws, Wd z) ∧ ws.Nodup ∧ 1 ≤ ws.length ∧ ws.length ≤ 3 ∧ Q (.dat .non) [.un]
def bNeed : DTS := (dIf ((dOrT ((dNotT ((dTst ((dCall 1 S_is_word (dCons ((dFrz (dVar 2))) dNil))))))) ((dTst (dBin (gIn false) ((dVar 2)) ((dSlice ((dVar 0)) dNoP (dPart ((dVar 1)))))))))) dNever dNext)
def r_need_words : DTS := (dSeq (dIf ((dOrT ((dNotT ((dTst ((dCall 1 S_is_list (dCons ((dFrz (dVar 0))) dNil))))))) ((dNotT ((dTst (dChain gLe gLe (dC (.int 1)) ((dCB gLen (dCons ((dVar 0)) dNil))) ((dC (.int 3)))))))))) dNever dNext)
      (dFor (iEnumB (dCons ((dFrz (dVar 0))) dNil)) (hTup 2 (hCons (hName 1) (hCons (hName 2) hNil))) bNeed))
theorem cut_take {α : Type} (xs : List α) (n : Nat) : ((xs.drop (HT.sIx xs.length 0 none)).take (HT.sIx xs.length xs.length (some ((n : Nat) : Int)) - HT.sIx xs.length 0 none)) = xs.take n := by
  rw [HT.sIx_none, HT.sIx_nat, List.drop_zero, Nat.sub_zero]
  by_cases h : n ≤ xs.length
  · rw [Nat.min_eq_left h]
  · rw [Nat.min_eq_right (by omega), List.take_length, List.take_of_length_le (by omega)]
theorem cutD_take (xs : List D) (n : Nat) : cutD xs none (some (n : Int)) = xs.take n := cut_take xs n
section
variable {E : DEnds} {ws : List Str}
theorem need_one {d : D} (hd : d = .lst (ws.map .str) ∨ d = .tup (ws.map .str)) (hl : ws.length ≤ 3) {i : Nat} {z : Str} (wz : Wd z) (hz : z ∉ ws.take i) (h : E.nx [.fr d, .fr (.int i), .fr (.str z)]) :
    bNeed E [.fr d, .fr (.int i), .fr (.str z)] := by
  refine ⟨rfl, rfl, _, rfl, lk_wd wz, ?_⟩
  rw [isWord_wd wz]
  have hd2 : decide (z ∈ ws.take i) = false := decide_eq_false hz
  have e : cutD (ws.map .str) none (some (i : Int)) = (ws.take i).map .str := by rw [cutD_take, List.map_take]
  rcases hd with rfl | rfl <;> (
    simp only [eq_self, decide_true, decide_false, Bool.xor_true, Bool.true_xor, Bool.xor_false, Option.some.injEq, Sl.ls.injEq, exists_eq', List.tail_cons, Bool.not_true, Bool.not_false, Nat.reduceAdd, dSeq, dIf, dTst, dBin, dVar, dTup, dNil, dCons, dLst, dC, dRet, dNext, dAsg, dFrz, hTup, hCons, hName, hNil, dSet, dPut, dIfE, dNotT, dAndT, dOrT, dAndV, dOrV, dCB, stl, val, vals, datL, WB, W1, W2, WL, ↓reduceIte, Bool.false_eq_true, backE, bFor, bLoop, bLast, dLc, dLcL, dForL, KP.gEq_unit, KP.gEq_unit0, KP.gEq_str, KP.gEq_int, KP.gIx_t0, KP.gIx_t1, KP.gIx_t2, KP.gLen_lst, KP.gLen_tup, KP.gAll_map_eq, gSorted2_lst_eq, gSorted2_tup_eq, gTuple_lst_eq, List.map_cons, List.map_nil, iSeq, dYes, wipeE, resto, frO, KP.gIn_tup_eq, KP.gIn_lst_eq, List.getElem?_cons_zero, List.getElem?_cons_succ, List.set_cons_zero, List.set_cons_succ, List.cons_append, List.nil_append, List.replicate, Nat.reduceSub, List.length_cons, List.length_nil, true_and, and_true, Bool.false_xor, dEnd, fin1, dFldSet, dFld, dMth, dSlice, dNoP, dPart, slotsOf, slotOf, gSlice, e, hd2]
    exact h)
theorem need_loop {d : D} (hd : d = .lst (ws.map .str) ∨ d = .tup (ws.map .str)) (hl : ws.length ≤ 3) : ∀ (l : List (Str × Nat)) (o1 o2 : Sl), (∀ p ∈ l, Wd p.1 ∧ p.1 ∉ ws.take p.2) → (∀ o1 o2, E.nx [.fr d, o1, o2]) →
    dForL (hTup 2 (hCons (hName 1) (hCons (hName 2) hNil))) bNeed E (l.map fun p => .tup [.int p.2, .str p.1]) [.fr d, o1, o2]
  | [], o1, o2, _, h => h o1 o2
  | p :: l, o1, o2, hp, h => by
    obtain ⟨h1, h2⟩ := hp p (by simp)
    refine ⟨rfl, rfl, need_one (i := p.2) (z := p.1) hd hl h1 h2 ?_⟩
    exact need_loop hd hl l _ _ (fun q hq => hp q (List.mem_cons_of_mem _ hq)) h
theorem nodup_zip {ws : List Str} (hn : ws.Nodup) : ∀ p ∈ ws.zipIdx 0, p.1 ∈ ws ∧ p.1 ∉ ws.take p.2 := by
  intro p hp
  obtain ⟨i, hi, e⟩ := List.mem_iff_getElem.mp hp
  rw [List.getElem_zipIdx] at e
  rw [List.length_zipIdx] at hi
  subst e
  refine ⟨List.getElem_mem _, fun z => ?_⟩
  simp only [Nat.zero_add] at z
  obtain ⟨j, hj, e2⟩ := List.mem_iff_getElem.mp z
  rw [List.getElem_take] at e2
  rw [List.length_take] at hj
  exact List.pairwise_iff_getElem.mp hn j i (by omega) hi (by omega) e2
theorem k_need_words : Keeps S_need_words 1 3 r_need_words := by
  rintro args Q h0 ⟨ws, d, rfl, hd, hw, hn, h1, h3, h⟩
  clear h0
  have main : ∀ o1 o2, dForL (hTup 2 (hCons (hName 1) (hCons (hName 2) hNil))) bNeed (dEnd 1 Q) (enumD (ws.map .str)) [.fr d, o1, o2] := by
    intro o1 o2
    rw [enum_map]
    exact need_loop hd h3 _ _ _ (fun p hp => ⟨hw _ (nodup_zip hn p hp).1, (nodup_zip hn p hp).2⟩) fun o1 o2 => h
  have g1 : decide ((1 : Int) ≤ ws.length) = true := decide_eq_true (by omega)
  have g2 : decide ((ws.length : Int) ≤ 3) = true := decide_eq_true (by omega)
  refine ⟨rfl, rfl, d, rfl, ?_, ?_⟩
  · rcases hd with rfl | rfl
    · exact ⟨_, .inl rfl⟩
    · exact ⟨_, .inr rfl⟩
  · rcases hd with rfl | rfl <;> (
      simp only [eq_self, decide_true, decide_false, Bool.xor_true, Bool.true_xor, Bool.xor_false, Option.some.injEq, Sl.ls.injEq, exists_eq', List.tail_cons, Bool.not_true, Bool.not_false, Nat.reduceAdd, dSeq, dIf, dTst, dBin, dVar, dTup, dNil, dCons, dLst, dC, dRet, dNext, dAsg, dFrz, hTup, hCons, hName, hNil, dSet, dPut, dIfE, dNotT, dAndT, dOrT, dAndV, dOrV, dCB, stl, val, vals, datL, WB, W1, W2, WL, ↓reduceIte, Bool.false_eq_true, backE, bFor, bLoop, bLast, dLc, dLcL, dForL, KP.gEq_unit, KP.gEq_unit0, KP.gEq_str, KP.gEq_int, KP.gIx_t0, KP.gIx_t1, KP.gIx_t2, KP.gLen_lst, KP.gLen_tup, KP.gAll_map_eq, gSorted2_lst_eq, gSorted2_tup_eq, gTuple_lst_eq, List.map_cons, List.map_nil, iSeq, dYes, wipeE, resto, frO, KP.gIn_tup_eq, KP.gIn_lst_eq, List.getElem?_cons_zero, List.getElem?_cons_succ, List.set_cons_zero, List.set_cons_succ, List.cons_append, List.nil_append, List.replicate, Nat.reduceSub, List.length_cons, List.length_nil, true_and, and_true, Bool.false_xor, dEnd, fin1, dFldSet, dFld, dMth, dSlice, dNoP, dPart, slotsOf, slotOf, dChain, gLe, gOrd, List.length_map, g1, g2]
      exact main _ _)
noncomputable def S_all_views : DSp := fun args Q => ∃ (ws : List Str) (d : D), args = [.fr d] ∧ (d = .lst (ws.map .str) ∨ d = .tup (ws.map .str)) ∧ (∀ z ∈ ws, Wd z) ∧ ws.Nodup ∧ 1 ≤ ws.length ∧ ws.length ≤ 3 ∧ Q (.nw (.ls ((vws (srt ws)).map vwD))) [.un]
def r_all_views : DTS := (dSeq (dDrop ((dCall 1 S_need_words (dCons ((dFrz (dVar 0))) dNil))))
      (dRet ((dCall 1 S_views_of (dCons ((dCB gSorted2 (dCons ((dVar 0)) dNil))) dNil)))))
theorem k_all_views : Keeps S_all_views 1 1 r_all_views := by
  rintro args Q h0 ⟨ws, d, rfl, hd, hw, hn, h1, h3, h⟩
  clear h0
  refine ⟨rfl, rfl, ws, d, rfl, hd, hw, hn, h1, h3, ?_⟩
  rcases hd with rfl | rfl
  · simp only [eq_self, decide_true, decide_false, Bool.xor_true, Bool.true_xor, Bool.xor_false, Option.some.injEq, Sl.ls.injEq, exists_eq', List.tail_cons, Bool.not_true, Bool.not_false, Nat.reduceAdd, dSeq, dIf, dTst, dBin, dVar, dTup, dNil, dCons, dLst, dC, dRet, dNext, dAsg, dFrz, hTup, hCons, hName, hNil, dSet, dPut, dIfE, dNotT, dAndT, dOrT, dAndV, dOrV, dCB, stl, val, vals, datL, WB, W1, W2, WL, ↓reduceIte, Bool.false_eq_true, backE, bFor, bLoop, bLast, dLc, dLcL, dForL, KP.gEq_unit, KP.gEq_unit0, KP.gEq_str, KP.gEq_int, KP.gIx_t0, KP.gIx_t1, KP.gIx_t2, KP.gLen_lst, KP.gLen_tup, KP.gAll_map_eq, gSorted2_lst_eq, gSorted2_tup_eq, gTuple_lst_eq, List.map_cons, List.map_nil, iSeq, dYes, wipeE, resto, frO, KP.gIn_tup_eq, KP.gIn_lst_eq, List.getElem?_cons_zero, List.getElem?_cons_succ, List.set_cons_zero, List.set_cons_succ, List.cons_append, List.nil_append, List.replicate, Nat.reduceSub, List.length_cons, List.length_nil, true_and, and_true, Bool.false_xor, dEnd, fin1, dFldSet, dFld, dMth, dSlice, dNoP, dPart, slotsOf, slotOf, dCall]
    exact ⟨by omega, rfl, srt ws, rfl, by rw [srt_len]; exact h3, h⟩
  · simp only [eq_self, decide_true, decide_false, Bool.xor_true, Bool.true_xor, Bool.xor_false, Option.some.injEq, Sl.ls.injEq, exists_eq', List.tail_cons, Bool.not_true, Bool.not_false, Nat.reduceAdd, dSeq, dIf, dTst, dBin, dVar, dTup, dNil, dCons, dLst, dC, dRet, dNext, dAsg, dFrz, hTup, hCons, hName, hNil, dSet, dPut, dIfE, dNotT, dAndT, dOrT, dAndV, dOrV, dCB, stl, val, vals, datL, WB, W1, W2, WL, ↓reduceIte, Bool.false_eq_true, backE, bFor, bLoop, bLast, dLc, dLcL, dForL, KP.gEq_unit, KP.gEq_unit0, KP.gEq_str, KP.gEq_int, KP.gIx_t0, KP.gIx_t1, KP.gIx_t2, KP.gLen_lst, KP.gLen_tup, KP.gAll_map_eq, gSorted2_lst_eq, gSorted2_tup_eq, gTuple_lst_eq, List.map_cons, List.map_nil, iSeq, dYes, wipeE, resto, frO, KP.gIn_tup_eq, KP.gIn_lst_eq, List.getElem?_cons_zero, List.getElem?_cons_succ, List.set_cons_zero, List.set_cons_succ, List.cons_append, List.nil_append, List.replicate, Nat.reduceSub, List.length_cons, List.length_nil, true_and, and_true, Bool.false_xor, dEnd, fin1, dFldSet, dFld, dMth, dSlice, dNoP, dPart, slotsOf, slotOf, dCall]
    exact ⟨by omega, rfl, srt ws, rfl, by rw [srt_len]; exact h3, h⟩
noncomputable def S_choice (c : Ca) : DSp := fun args Q => ∃ (t : Tk) (v : Vw), args = [.fr (kpD c t), .fr (vwD v)] ∧ TkOk t ∧ Q (.dat (choD true (cho (kn v t.w) t.r))) [.un, .un]
noncomputable def r_choice (c : Ca) : DTS := (dSeq (dSet 2 2 ((dMth c.Keeper "decided" 2 (S_Keeper_decided c) ((dVar 0)) (dCons ((dFrz (dVar 1))) dNil))))
      (dRet ((dIfE ((dTst (dBin (gIsN false) ((dVar 2)) (dC .non)))) (dC .non) ((dSlice ((dBin gIx ((dFld c.Keeper "own_rules" ((dVar 0)))) ((dVar 2)))) (dPart (dC (.int 1))) dNoP))))))
theorem dec_some {K : List Str} {rs : List Ru} {i : Nat} (h : dec K rs = some i) : ∃ r, rs[i]? = some r := by
  unfold dec at h
  obtain ⟨hi, _⟩ := List.findIdx?_eq_some_iff_getElem.mp h
  exact ⟨rs[i], List.getElem?_eq_getElem hi⟩
theorem gIx_tupn {xs : List D} {i : Nat} {x : D} {P : Rs → Prop} (h : xs[i]? = some x) : gIx (.tup xs) (.int (i : Nat)) P = P (.dat x) := by
  unfold gIx
  simp only [atI_nat h]
theorem k_choice (c : Ca) : Keeps (S_choice c) 2 3 (r_choice c) := by
  rintro args Q h0 ⟨t, v, rfl, ht, h⟩
  clear h0
  simp only [r_choice, kpD]
  simp only [eq_self, decide_true, decide_false, Bool.xor_true, Bool.true_xor, Bool.xor_false, Option.some.injEq, Sl.ls.injEq, exists_eq', List.tail_cons, Bool.not_true, Bool.not_false, Nat.reduceAdd, dSeq, dIf, dTst, dBin, dVar, dTup, dNil, dCons, dLst, dC, dRet, dNext, dAsg, dFrz, hTup, hCons, hName, hNil, dSet, dPut, dIfE, dNotT, dAndT, dOrT, dAndV, dOrV, dCB, stl, val, vals, datL, WB, W1, W2, WL, ↓reduceIte, Bool.false_eq_true, backE, bFor, bLoop, bLast, dLc, dLcL, dForL, KP.gEq_unit, KP.gEq_unit0, KP.gEq_str, KP.gEq_int, KP.gIx_t0, KP.gIx_t1, KP.gIx_t2, KP.gLen_lst, KP.gLen_tup, KP.gAll_map_eq, gSorted2_lst_eq, gSorted2_tup_eq, gTuple_lst_eq, List.map_cons, List.map_nil, iSeq, dYes, wipeE, resto, frO, KP.gIn_tup_eq, KP.gIn_lst_eq, List.getElem?_cons_zero, List.getElem?_cons_succ, List.set_cons_zero, List.set_cons_succ, List.cons_append, List.nil_append, List.replicate, Nat.reduceSub, List.length_cons, List.length_nil, true_and, and_true, Bool.false_xor, dEnd, fin1, dFldSet, dFld, dMth, dSlice, dNoP, dPart, slotsOf, slotOf, kp_d]
  refine ⟨rfl, t, v, rfl, ht, ?_⟩
  simp only [eq_self, decide_true, decide_false, Bool.xor_true, Bool.true_xor, Bool.xor_false, Option.some.injEq, Sl.ls.injEq, exists_eq', List.tail_cons, Bool.not_true, Bool.not_false, Nat.reduceAdd, dSeq, dIf, dTst, dBin, dVar, dTup, dNil, dCons, dLst, dC, dRet, dNext, dAsg, dFrz, hTup, hCons, hName, hNil, dSet, dPut, dIfE, dNotT, dAndT, dOrT, dAndV, dOrV, dCB, stl, val, vals, datL, WB, W1, W2, WL, ↓reduceIte, Bool.false_eq_true, backE, bFor, bLoop, bLast, dLc, dLcL, dForL, KP.gEq_unit, KP.gEq_unit0, KP.gEq_str, KP.gEq_int, KP.gIx_t0, KP.gIx_t1, KP.gIx_t2, KP.gLen_lst, KP.gLen_tup, KP.gAll_map_eq, gSorted2_lst_eq, gSorted2_tup_eq, gTuple_lst_eq, List.map_cons, List.map_nil, iSeq, dYes, wipeE, resto, frO, KP.gIn_tup_eq, KP.gIn_lst_eq, List.getElem?_cons_zero, List.getElem?_cons_succ, List.set_cons_zero, List.set_cons_succ, List.cons_append, List.nil_append, List.replicate, Nat.reduceSub, List.length_cons, List.length_nil, true_and, and_true, Bool.false_xor, dEnd, fin1, dFldSet, dFld, dMth, dSlice, dNoP, dPart, slotsOf, slotOf]
  unfold cho at h
  cases e : dec (kn v t.w) t.r with
  | none =>
    rw [e] at h
    exact h
  | some i =>
    rw [e] at h
    obtain ⟨r, hr⟩ := dec_some e
    simp only [Option.bind_some, hr, Option.map_some] at h
    have e2 : ((t.r.map srtRu).map ruD)[i]? = some (ruD (srtRu r)) := by rw [List.getElem?_map, List.getElem?_map, hr]; rfl
    simp only [eq_self, decide_true, decide_false, Bool.xor_true, Bool.true_xor, Bool.xor_false, Option.some.injEq, Sl.ls.injEq, exists_eq', List.tail_cons, Bool.not_true, Bool.not_false, Nat.reduceAdd, dSeq, dIf, dTst, dBin, dVar, dTup, dNil, dCons, dLst, dC, dRet, dNext, dAsg, dFrz, hTup, hCons, hName, hNil, dSet, dPut, dIfE, dNotT, dAndT, dOrT, dAndV, dOrV, dCB, stl, val, vals, datL, WB, W1, W2, WL, ↓reduceIte, Bool.false_eq_true, backE, bFor, bLoop, bLast, dLc, dLcL, dForL, KP.gEq_unit, KP.gEq_unit0, KP.gEq_str, KP.gEq_int, KP.gIx_t0, KP.gIx_t1, KP.gIx_t2, KP.gLen_lst, KP.gLen_tup, KP.gAll_map_eq, gSorted2_lst_eq, gSorted2_tup_eq, gTuple_lst_eq, List.map_cons, List.map_nil, iSeq, dYes, wipeE, resto, frO, KP.gIn_tup_eq, KP.gIn_lst_eq, List.getElem?_cons_zero, List.getElem?_cons_succ, List.set_cons_zero, List.set_cons_succ, List.cons_append, List.nil_append, List.replicate, Nat.reduceSub, List.length_cons, List.length_nil, true_and, and_true, Bool.false_xor, dEnd, fin1, dFldSet, dFld, dMth, dSlice, dNoP, dPart, slotsOf, slotOf, backE, decD, gIsN, TL.isNon, kp_r, kpR, gIx_tupn e2, gSlice]
    exact h
theorem cho_ok {t : Tk} (ht : TkOk t) (K : List Str) : chOk (cho K t.r) = true := by
  unfold cho
  cases e : dec K t.r with
  | none => rfl
  | some i =>
    obtain ⟨r, hr⟩ := dec_some e
    simp only [Option.bind_some, hr, Option.map_some]
    have hm := ht.r r (List.mem_of_getElem? hr)
    show (r.d.all okS && (srt r.k).all okS) = true
    rw [Bool.and_eq_true, List.all_eq_true, List.all_eq_true]
    exact ⟨fun z hz => okS_wd (hm.dw z hz), fun z hz => okS_wd (hm.kw z (srt_mem.mp hz))⟩
def prtD : Option Vw → D
  | none => .non
  | some v => vwD v
noncomputable def unl (t u : Tk) (v : Vw) : Bool := true ^^ decide (cho (kn v t.w) t.r = cho (kn v u.w) u.r)
noncomputable def S_parted (c : Ca) : DSp := fun args Q => ∃ (t u : Tk) (ws : List Str) (d : D), args = [.fr (kpD c t), .fr (kpD c u), .fr d] ∧ (d = .lst (ws.map .str) ∨ d = .tup (ws.map .str)) ∧ TkOk t ∧ TkOk u ∧ (∀ z ∈ ws, Wd z) ∧ ws.Nodup ∧ 1 ≤ ws.length ∧ ws.length ≤ 3 ∧ Q (.dat (prtD ((vws (srt ws)).find? (unl t u)))) [.un, .un, .un]
noncomputable def bPart (c : Ca) : DTS := (dIf ((dTst (dBin (gEq true) ((dCall 2 (S_choice c) (dCons ((dFrz (dVar 0))) (dCons ((dFrz (dVar 3))) dNil)))) ((dCall 2 (S_choice c) (dCons ((dFrz (dVar 1))) (dCons ((dFrz (dVar 3))) dNil))))))) (dRet ((dVar 3))) dNext)
noncomputable def r_parted (c : Ca) : DTS := (dSeq (dFor (iSeq ((dCall 1 S_all_views (dCons ((dFrz (dVar 2))) dNil)))) (hName 3) (bPart c))
      (dRet (dC .non)))
theorem part_loop {c : Ca} {E : DEnds} {t u : Tk} (ht : TkOk t) (hu : TkOk u) {s2 : Sl} : ∀ (vs : List Vw) (o3 : Sl),
    (∀ o3, match vs.find? (unl t u) with
      | none => E.nx [.fr (kpD c t), .fr (kpD c u), s2, o3]
      | some v => E.rt (.dat (vwD v)) [.fr (kpD c t), .fr (kpD c u), s2, o3]) →
    dForL (hName 3) (bPart c) E (vs.map vwD) [.fr (kpD c t), .fr (kpD c u), s2, o3]
  | [], o3, h => h o3
  | v :: vs, o3, h => by
    refine ⟨rfl, rfl, t, v, rfl, ht, rfl, rfl, u, v, rfl, hu, ?_⟩
    refine W2_mk rfl rfl (gNe_ch true (cho_ok ht _) (cho_ok hu _) ?_)
    show if unl t u v = true then _ else _
    cases e : unl t u v with
    | true =>
      refine iteT ?_
      have := h (.fr (vwD v))
      rw [List.find?_cons_of_pos e] at this
      exact this
    | false =>
      refine iteF ?_
      refine part_loop ht hu vs _ fun o3 => ?_
      have := h o3
      rw [List.find?_cons_of_neg (by rw [e]; simp)] at this
      exact this
theorem k_parted (c : Ca) : Keeps (S_parted c) 3 4 (r_parted c) := by
  rintro args Q h0 ⟨t, u, ws, d, rfl, hd, ht, hu, hw, hn, h1, h3, h⟩
  clear h0
  refine ⟨rfl, rfl, ws, d, rfl, hd, hw, hn, h1, h3, ?_⟩
  refine part_loop (c := c) ht hu (vws (srt ws)) .un fun o3 => ?_
  cases e : (vws (srt ws)).find? (unl t u) with
  | none => rw [e] at h; exact h
  | some v => rw [e] at h; exact h
end
end KP
namespace KP
open PySem PySem.Spec PyProof.Rows L2 TL
section
variable {E : DEnds} {s0 s1 s3 s4 s5 : Sl} {w : List Str} {L : List D}
theorem fb {n : Nat} (h : L.length ≤ n) (hn : n ≤ 1000) : L.length < sizeLine := fin_big (by omega)
end
end KP
namespace KP
end KP
namespace KP
end KP
namespace KP
open PySem PySem.Spec PyProof.Rows L2 TL
section
variable {Q : Rs → TL.Env → Prop} {ρ0 : TL.Env} {f : Nat → Sl → TL.Env} {j : Nat} {n : Int}
theorem draw_lc (hf0 : ∀ b s, (f b s)[0]? = some (.rs (.sg b))) (hfj : ∀ b s, (f b s)[j]? = some s) (hset : ∀ b s s', (f b s).set j s' = f b s') (hset0 : ∀ b s b', (f b s).set 0 (.rs (.sg b')) = f b' s) (hn : 0 < n) (hn2 : n < 1073741824) :
    ∀ (zs acc : List Str) (b : Nat) (o : Sl), acc.length + zs.length ≤ 900 → zs.length ≤ b → (∀ (ys : List Str) (b' : Nat), ys.Sublist zs → b ≤ b' + zs.length → Q (.nw (.ls ((acc ++ ys).map .str))) (f b' (frO ρ0[j]?))) →
      dLcL (hName j) (dTst (dBin (gEq false) (dCall 2 Sg_take (dCons (dVar 0) (dCons (dC (.int n)) dNil))) (dC (.int 0)))) (dFrz (dVar j)) [j] ρ0 (zs.map .str) (acc.map .str) (f b o) Q
  | [], acc, b, o, _, _, h => by
    have := h [] b (List.Sublist.refl _) (Nat.le_refl _)
    rw [List.append_nil] at this
    show Q _ ((f b o).set j (frO ρ0[j]?))
    rw [hset]
    exact this
  | z :: zs, acc, b, o, hl, hb, h => by
    rw [List.length_cons] at hl hb
    simp only [eq_self, decide_true, decide_false, Bool.xor_true, Bool.true_xor, Bool.xor_false, Option.some.injEq, Sl.ls.injEq, exists_eq', List.tail_cons, Bool.not_true, Bool.not_false, Nat.reduceAdd, dSeq, dIf, dTst, dBin, dVar, dTup, dNil, dCons, dLst, dC, dRet, dNext, dAsg, dFrz, hTup, hCons, hName, hNil, dSet, dPut, dIfE, dNotT, dAndT, dOrT, dAndV, dOrV, dCB, stl, val, vals, datL, WB, W1, W2, WL, ↓reduceIte, Bool.false_eq_true, backE, bFor, bLoop, bLast, dLc, dLcL, dForL, KP.gEq_unit, KP.gEq_unit0, KP.gEq_str, KP.gEq_int, KP.gIx_t0, KP.gIx_t1, KP.gIx_t2, KP.gLen_lst, KP.gLen_tup, KP.gAll_map_eq, gSorted2_lst_eq, gSorted2_tup_eq, gTuple_lst_eq, List.map_cons, List.map_nil, iSeq, dYes, wipeE, resto, frO, KP.gIn_tup_eq, KP.gIn_lst_eq, List.getElem?_cons_zero, List.getElem?_cons_succ, List.set_cons_zero, List.set_cons_succ, List.cons_append, List.nil_append, List.replicate, Nat.reduceSub, List.length_cons, List.length_nil, true_and, and_true, Bool.false_xor, dEnd, fin1, dFldSet, dFld, dMth, dSlice, dNoP, dPart, slotsOf, slotOf, dCall, hset, hf0, Sl.own]
    refine ⟨rfl, b, n, rfl, by omega, hn, hn2, fun k b' k0 k1 hb' => ?_⟩
    simp only [eq_self, decide_true, decide_false, Bool.xor_true, Bool.true_xor, Bool.xor_false, Option.some.injEq, Sl.ls.injEq, exists_eq', List.tail_cons, Bool.not_true, Bool.not_false, Nat.reduceAdd, dSeq, dIf, dTst, dBin, dVar, dTup, dNil, dCons, dLst, dC, dRet, dNext, dAsg, dFrz, hTup, hCons, hName, hNil, dSet, dPut, dIfE, dNotT, dAndT, dOrT, dAndV, dOrV, dCB, stl, val, vals, datL, WB, W1, W2, WL, ↓reduceIte, Bool.false_eq_true, backE, bFor, bLoop, bLast, dLc, dLcL, dForL, KP.gEq_unit, KP.gEq_unit0, KP.gEq_str, KP.gEq_int, KP.gIx_t0, KP.gIx_t1, KP.gIx_t2, KP.gLen_lst, KP.gLen_tup, KP.gAll_map_eq, gSorted2_lst_eq, gSorted2_tup_eq, gTuple_lst_eq, List.map_cons, List.map_nil, iSeq, dYes, wipeE, resto, frO, KP.gIn_tup_eq, KP.gIn_lst_eq, List.getElem?_cons_zero, List.getElem?_cons_succ, List.set_cons_zero, List.set_cons_succ, List.cons_append, List.nil_append, List.replicate, Nat.reduceSub, List.length_cons, List.length_nil, true_and, and_true, Bool.false_xor, dEnd, fin1, dFldSet, dFld, dMth, dSlice, dNoP, dPart, slotsOf, slotOf, own', Sl.own, hset0, hfj]
    cases e : decide (k = 0) with
    | true =>
      simp only [eq_self, decide_true, decide_false, Bool.xor_true, Bool.true_xor, Bool.xor_false, Option.some.injEq, Sl.ls.injEq, exists_eq', List.tail_cons, Bool.not_true, Bool.not_false, Nat.reduceAdd, dSeq, dIf, dTst, dBin, dVar, dTup, dNil, dCons, dLst, dC, dRet, dNext, dAsg, dFrz, hTup, hCons, hName, hNil, dSet, dPut, dIfE, dNotT, dAndT, dOrT, dAndV, dOrV, dCB, stl, val, vals, datL, WB, W1, W2, WL, ↓reduceIte, Bool.false_eq_true, backE, bFor, bLoop, bLast, dLc, dLcL, dForL, KP.gEq_unit, KP.gEq_unit0, KP.gEq_str, KP.gEq_int, KP.gIx_t0, KP.gIx_t1, KP.gIx_t2, KP.gLen_lst, KP.gLen_tup, KP.gAll_map_eq, gSorted2_lst_eq, gSorted2_tup_eq, gTuple_lst_eq, List.map_cons, List.map_nil, iSeq, dYes, wipeE, resto, frO, KP.gIn_tup_eq, KP.gIn_lst_eq, List.getElem?_cons_zero, List.getElem?_cons_succ, List.set_cons_zero, List.set_cons_succ, List.cons_append, List.nil_append, List.replicate, Nat.reduceSub, List.length_cons, List.length_nil, true_and, and_true, Bool.false_xor, dEnd, fin1, dFldSet, dFld, dMth, dSlice, dNoP, dPart, slotsOf, slotOf]
      refine ⟨by rw [List.length_map]; exact fin_big (by omega), ?_⟩
      have := draw_lc hf0 hfj hset hset0 hn hn2 zs (acc ++ [z]) b' (.fr (.str z)) (by simp; omega) (by omega) (fun ys b2 hs h2 => by
        have := h (z :: ys) b2 (hs.cons₂ z) (by rw [List.length_cons]; omega)
        simpa using this)
      rw [List.map_append] at this
      exact this
    | false =>
      simp only [eq_self, decide_true, decide_false, Bool.xor_true, Bool.true_xor, Bool.xor_false, Option.some.injEq, Sl.ls.injEq, exists_eq', List.tail_cons, Bool.not_true, Bool.not_false, Nat.reduceAdd, dSeq, dIf, dTst, dBin, dVar, dTup, dNil, dCons, dLst, dC, dRet, dNext, dAsg, dFrz, hTup, hCons, hName, hNil, dSet, dPut, dIfE, dNotT, dAndT, dOrT, dAndV, dOrV, dCB, stl, val, vals, datL, WB, W1, W2, WL, ↓reduceIte, Bool.false_eq_true, backE, bFor, bLoop, bLast, dLc, dLcL, dForL, KP.gEq_unit, KP.gEq_unit0, KP.gEq_str, KP.gEq_int, KP.gIx_t0, KP.gIx_t1, KP.gIx_t2, KP.gLen_lst, KP.gLen_tup, KP.gAll_map_eq, gSorted2_lst_eq, gSorted2_tup_eq, gTuple_lst_eq, List.map_cons, List.map_nil, iSeq, dYes, wipeE, resto, frO, KP.gIn_tup_eq, KP.gIn_lst_eq, List.getElem?_cons_zero, List.getElem?_cons_succ, List.set_cons_zero, List.set_cons_succ, List.cons_append, List.nil_append, List.replicate, Nat.reduceSub, List.length_cons, List.length_nil, true_and, and_true, Bool.false_xor, dEnd, fin1, dFldSet, dFld, dMth, dSlice, dNoP, dPart, slotsOf, slotOf]
      exact draw_lc hf0 hfj hset hset0 hn hn2 zs acc b' (.fr (.str z)) (by omega) (by omega) (fun ys b2 hs h2 => h ys b2 (hs.cons z) (by rw [List.length_cons]; omega))
end
def knA : List Str := ["gone", "there", "going", "free", "held", "wanted", "unwanted", "bare", "child", "right", "wrong", "alone"]
def knB : List Str := ["others", "tidy", "strays"]
def ckA : List Str := ["thing", "stray", "own", "other"]
def ddA : List Str := ["make", "mark", "correct", "strike", "clear", "hold", "release", "turn"]
theorem kn_marks : (knA ++ knB).all (fun z => decide (z ∈ Lk04.marks)) = true := by decide +kernel
theorem kn_nd : (knA ++ knB).Nodup := by decide +kernel
theorem ck_kinds : ckA.all (fun z => decide (z ∈ Lk04.kinds)) = true := by decide +kernel
theorem ck_nd : ckA.Nodup := by decide +kernel
theorem dd_wd : ddA.all wdB = true := by decide +kernel
theorem dd_deeds : ddA.all (fun z => decide (z = "turn") || decide (z ∈ Lk04.deeds)) = true := by decide +kernel
theorem turn_wd : wdB "turn" = true := by decide +kernel
def S__law_any_rule : DSp := fun args Q => ∃ (b : Nat) (ws : List Str), args = [.rs (.sg b), .fr (.lst (ws.map .str))] ∧ ws ≠ [] ∧ ws.length ≤ 3 ∧ (∀ z ∈ ws, Wd z) ∧ 22 ≤ b ∧ ∀ r b', RuOk r → b ≤ b' + 22 → Q (.dat (ruD r)) [.rs (.sg b'), .un]
def arTail : DTS := (dRet ((dTup (dCons ((dCB gTuple (dCons ((dUn gRev ((dVar 3)))) dNil))) (dCons ((dIfE ((dTst (dBin (gEq false) ((dVar 5)) (dC (.str "turn"))))) ((dTup (dCons (dC (.str "turn")) (dCons ((dCall 2 Sg_pick (dCons ((dVar 0)) (dCons ((dFrz (dVar 1))) dNil)))) dNil)))) ((dTup (dCons ((dFrz (dVar 5))) dNil))))) (dCons ((dCB gTuple (dCons ((dVar 6)) dNil))) dNil))))))
def arChecks : DTS := (dSeq (dSet 2 6 (dLc (iSeq ((dLst (dCons (dC (.str "thing")) (dCons (dC (.str "stray")) (dCons (dC (.str "own")) (dCons (dC (.str "other")) dNil))))))) (hName 7) ((dTst (dBin (gEq false) ((dCall 2 Sg_take (dCons ((dVar 0)) (dCons (dC (.int 4)) dNil)))) (dC (.int 0))))) ((dFrz (dVar 7))) [7]))
      arTail)
def arWord : DTS := (dSeq (dSet 2 5 (dFrz (dCall 2 Sg_pick (dCons ((dVar 0)) (dCons ((dLst (dCons (dC (.str "make")) (dCons (dC (.str "mark")) (dCons (dC (.str "correct")) (dCons (dC (.str "strike")) (dCons (dC (.str "clear")) (dCons (dC (.str "hold")) (dCons (dC (.str "release")) (dCons (dC (.str "turn")) dNil)))))))))) dNil)))))
      arChecks)
def arSight : DTS := (dSeq (dSet 2 3 ((dSlice ((dLc (iSeq ((dFrz (dVar 2)))) (hName 4) ((dTst (dBin (gEq false) ((dCall 2 Sg_take (dCons ((dVar 0)) (dCons (dC (.int 6)) dNil)))) (dC (.int 0))))) ((dFrz (dVar 4))) [4])) dNoP (dPart ((dCall 2 Sg_take (dCons ((dVar 0)) (dCons (dC (.int 5)) dNil))))))))
      arWord)
def r__law_any_rule : DTS := (dSeq (dSet 2 2 ((dLst (dCons (dC (.str "gone")) (dCons (dC (.str "there")) (dCons (dC (.str "going")) (dCons (dC (.str "free")) (dCons (dC (.str "held")) (dCons (dC (.str "wanted")) (dCons (dC (.str "unwanted")) (dCons (dC (.str "bare")) (dCons (dC (.str "child")) (dCons (dC (.str "right")) (dCons (dC (.str "wrong")) (dCons (dC (.str "alone")) dNil)))))))))))))))
      (dSeq (dSet 2 2 ((dBin gAdd ((dVar 2)) ((dLst (dCons (dC (.str "others")) (dCons (dC (.str "tidy")) (dCons (dC (.str "strays")) dNil))))))))
      arSight))
section
variable {E : DEnds} {Q : Rs → List Sl → Prop} {s2 s3 s4 s5 s6 s7 : Sl} {ws ss ks : List Str} {b : Nat}
theorem deed_ok {z : Str} (hz : z ∈ ddA) (ht : z ≠ "turn") : Lk04.isDeed (.tup [.str z]) = true := by
  have := List.all_eq_true.mp dd_deeds z hz
  have hd : z ∈ Lk04.deeds := by simpa [ht] using this
  show (if z = "turn" then Lk04.one [] else ([] : List D).isEmpty && decide (z ∈ Lk04.deeds)) = true
  rw [if_neg ht, decide_eq_true hd]
  rfl
theorem turn_ok {y : Str} (hy : Wd y) : Lk04.isDeed (.tup [.str "turn", .str y]) = true := by
  show (if ("turn" : Str) = "turn" then Lk04.one [.str y] else ([.str y] : List D).isEmpty && decide (("turn" : Str) ∈ Lk04.deeds)) = true
  rw [if_pos rfl]
  exact isWord_wd hy
theorem gRev_strs {P : Rs → Prop} (h : P (.nw (.ls (ss.reverse.map .str)))) : gRev (.lst (ss.map .str)) P := by
  rw [List.map_reverse] at h
  exact h
theorem arTail_ok {z : Str} (hz : z ∈ ddA) (hb : 1 ≤ b) (hne : ws ≠ []) (hwl : ws.length ≤ 3) (hw : ∀ z ∈ ws, Wd z) (h : ∀ d b', Lk04.isDeed (.tup (d.map .str)) = true → (∀ z ∈ d, Wd z) → d.length ≤ 2 → b ≤ b' + 1 → Q (.dat (ruD ⟨ss.reverse, d, ks⟩)) [.rs (.sg b'), .un]) :
    arTail (dEnd 2 Q) [.rs (.sg b), .fr (.lst (ws.map .str)), s2, .ls (ss.map .str), s4, .fr (.str z), .ls (ks.map .str), s7] := by
  simp only [arTail]
  simp only [eq_self, decide_true, decide_false, Bool.xor_true, Bool.true_xor, Bool.xor_false, Option.some.injEq, Sl.ls.injEq, exists_eq', List.tail_cons, Bool.not_true, Bool.not_false, Nat.reduceAdd, dSeq, dIf, dTst, dBin, dVar, dTup, dNil, dCons, dLst, dC, dRet, dNext, dAsg, dFrz, hTup, hCons, hName, hNil, dSet, dPut, dIfE, dNotT, dAndT, dOrT, dAndV, dOrV, dCB, stl, val, vals, datL, WB, W1, W2, WL, ↓reduceIte, Bool.false_eq_true, backE, bFor, bLoop, bLast, dLc, dLcL, dForL, KP.gEq_unit, KP.gEq_unit0, KP.gEq_str, KP.gEq_int, KP.gIx_t0, KP.gIx_t1, KP.gIx_t2, KP.gLen_lst, KP.gLen_tup, KP.gAll_map_eq, gSorted2_lst_eq, gSorted2_tup_eq, gTuple_lst_eq, List.map_cons, List.map_nil, iSeq, dYes, wipeE, resto, frO, KP.gIn_tup_eq, KP.gIn_lst_eq, List.getElem?_cons_zero, List.getElem?_cons_succ, List.set_cons_zero, List.set_cons_succ, List.cons_append, List.nil_append, List.replicate, Nat.reduceSub, List.length_cons, List.length_nil, true_and, and_true, Bool.false_xor, dEnd, fin1, dFldSet, dFld, dMth, dSlice, dNoP, dPart, slotsOf, slotOf, dUn, W1]
  refine gRev_strs ?_
  simp only [eq_self, decide_true, decide_false, Bool.xor_true, Bool.true_xor, Bool.xor_false, Option.some.injEq, Sl.ls.injEq, exists_eq', List.tail_cons, Bool.not_true, Bool.not_false, Nat.reduceAdd, dSeq, dIf, dTst, dBin, dVar, dTup, dNil, dCons, dLst, dC, dRet, dNext, dAsg, dFrz, hTup, hCons, hName, hNil, dSet, dPut, dIfE, dNotT, dAndT, dOrT, dAndV, dOrV, dCB, stl, val, vals, datL, WB, W1, W2, WL, ↓reduceIte, Bool.false_eq_true, backE, bFor, bLoop, bLast, dLc, dLcL, dForL, KP.gEq_unit, KP.gEq_unit0, KP.gEq_str, KP.gEq_int, KP.gIx_t0, KP.gIx_t1, KP.gIx_t2, KP.gLen_lst, KP.gLen_tup, KP.gAll_map_eq, gSorted2_lst_eq, gSorted2_tup_eq, gTuple_lst_eq, List.map_cons, List.map_nil, iSeq, dYes, wipeE, resto, frO, KP.gIn_tup_eq, KP.gIn_lst_eq, List.getElem?_cons_zero, List.getElem?_cons_succ, List.set_cons_zero, List.set_cons_succ, List.cons_append, List.nil_append, List.replicate, Nat.reduceSub, List.length_cons, List.length_nil, true_and, and_true, Bool.false_xor, dEnd, fin1, dFldSet, dFld, dMth, dSlice, dNoP, dPart, slotsOf, slotOf]
  cases e : decide (z = "turn") with
  | true =>
    simp only [eq_self, decide_true, decide_false, Bool.xor_true, Bool.true_xor, Bool.xor_false, Option.some.injEq, Sl.ls.injEq, exists_eq', List.tail_cons, Bool.not_true, Bool.not_false, Nat.reduceAdd, dSeq, dIf, dTst, dBin, dVar, dTup, dNil, dCons, dLst, dC, dRet, dNext, dAsg, dFrz, hTup, hCons, hName, hNil, dSet, dPut, dIfE, dNotT, dAndT, dOrT, dAndV, dOrV, dCB, stl, val, vals, datL, WB, W1, W2, WL, ↓reduceIte, Bool.false_eq_true, backE, bFor, bLoop, bLast, dLc, dLcL, dForL, KP.gEq_unit, KP.gEq_unit0, KP.gEq_str, KP.gEq_int, KP.gIx_t0, KP.gIx_t1, KP.gIx_t2, KP.gLen_lst, KP.gLen_tup, KP.gAll_map_eq, gSorted2_lst_eq, gSorted2_tup_eq, gTuple_lst_eq, List.map_cons, List.map_nil, iSeq, dYes, wipeE, resto, frO, KP.gIn_tup_eq, KP.gIn_lst_eq, List.getElem?_cons_zero, List.getElem?_cons_succ, List.set_cons_zero, List.set_cons_succ, List.cons_append, List.nil_append, List.replicate, Nat.reduceSub, List.length_cons, List.length_nil, true_and, and_true, Bool.false_xor, dEnd, fin1, dFldSet, dFld, dMth, dSlice, dNoP, dPart, slotsOf, slotOf, dCall, Sl.own]
    refine ⟨rfl, b, .lst (ws.map .str), ws.map .str, rfl, rfl, hb, wne hne, by rw [List.length_map]; omega, fun x b' hx hb' => ?_⟩
    obtain ⟨y, hy, rfl⟩ := List.mem_map.mp hx
    simp only [eq_self, decide_true, decide_false, Bool.xor_true, Bool.true_xor, Bool.xor_false, Option.some.injEq, Sl.ls.injEq, exists_eq', List.tail_cons, Bool.not_true, Bool.not_false, Nat.reduceAdd, dSeq, dIf, dTst, dBin, dVar, dTup, dNil, dCons, dLst, dC, dRet, dNext, dAsg, dFrz, hTup, hCons, hName, hNil, dSet, dPut, dIfE, dNotT, dAndT, dOrT, dAndV, dOrV, dCB, stl, val, vals, datL, WB, W1, W2, WL, ↓reduceIte, Bool.false_eq_true, backE, bFor, bLoop, bLast, dLc, dLcL, dForL, KP.gEq_unit, KP.gEq_unit0, KP.gEq_str, KP.gEq_int, KP.gIx_t0, KP.gIx_t1, KP.gIx_t2, KP.gLen_lst, KP.gLen_tup, KP.gAll_map_eq, gSorted2_lst_eq, gSorted2_tup_eq, gTuple_lst_eq, List.map_cons, List.map_nil, iSeq, dYes, wipeE, resto, frO, KP.gIn_tup_eq, KP.gIn_lst_eq, List.getElem?_cons_zero, List.getElem?_cons_succ, List.set_cons_zero, List.set_cons_succ, List.cons_append, List.nil_append, List.replicate, Nat.reduceSub, List.length_cons, List.length_nil, true_and, and_true, Bool.false_xor, dEnd, fin1, dFldSet, dFld, dMth, dSlice, dNoP, dPart, slotsOf, slotOf, own', Sl.own]
    refine ⟨sz (Nat.le_of_ble_eq_true rfl), sz (Nat.le_of_ble_eq_true rfl), ?_⟩
    have := h ["turn", y] b' (turn_ok (hw y hy)) (fun x hx => by
      simp only [List.mem_cons, List.not_mem_nil, or_false] at hx
      rcases hx with rfl | rfl
      · exact turn_wd
      · exact hw _ hy) (Nat.le_refl _) hb'
    exact this
  | false =>
    simp only [eq_self, decide_true, decide_false, Bool.xor_true, Bool.true_xor, Bool.xor_false, Option.some.injEq, Sl.ls.injEq, exists_eq', List.tail_cons, Bool.not_true, Bool.not_false, Nat.reduceAdd, dSeq, dIf, dTst, dBin, dVar, dTup, dNil, dCons, dLst, dC, dRet, dNext, dAsg, dFrz, hTup, hCons, hName, hNil, dSet, dPut, dIfE, dNotT, dAndT, dOrT, dAndV, dOrV, dCB, stl, val, vals, datL, WB, W1, W2, WL, ↓reduceIte, Bool.false_eq_true, backE, bFor, bLoop, bLast, dLc, dLcL, dForL, KP.gEq_unit, KP.gEq_unit0, KP.gEq_str, KP.gEq_int, KP.gIx_t0, KP.gIx_t1, KP.gIx_t2, KP.gLen_lst, KP.gLen_tup, KP.gAll_map_eq, gSorted2_lst_eq, gSorted2_tup_eq, gTuple_lst_eq, List.map_cons, List.map_nil, iSeq, dYes, wipeE, resto, frO, KP.gIn_tup_eq, KP.gIn_lst_eq, List.getElem?_cons_zero, List.getElem?_cons_succ, List.set_cons_zero, List.set_cons_succ, List.cons_append, List.nil_append, List.replicate, Nat.reduceSub, List.length_cons, List.length_nil, true_and, and_true, Bool.false_xor, dEnd, fin1, dFldSet, dFld, dMth, dSlice, dNoP, dPart, slotsOf, slotOf]
    refine ⟨sz (Nat.le_of_ble_eq_true rfl), sz (Nat.le_of_ble_eq_true rfl), ?_⟩
    have := h [z] b (deed_ok hz (of_decide_eq_false e)) (fun x hx => by
      have : x = z := by simpa using hx
      subst this
      exact List.all_eq_true.mp dd_wd _ hz) (Nat.le_succ _) (Nat.le_succ _)
    exact this
theorem arChecks_ok {z : Str} (hz : z ∈ ddA) (hb : 5 ≤ b) (hne : ws ≠ []) (hwl : ws.length ≤ 3) (hw : ∀ z ∈ ws, Wd z) (hs : ss.Sublist (knA ++ knB)) (hs4 : ss.length ≤ 4) (h : ∀ r b', RuOk r → b ≤ b' + 5 → Q (.dat (ruD r)) [.rs (.sg b'), .un]) :
    arChecks (dEnd 2 Q) [.rs (.sg b), .fr (.lst (ws.map .str)), s2, .ls (ss.map .str), s4, .fr (.str z), s6, s7] := by
  simp only [arChecks]
  refine ⟨sz (Nat.le_of_ble_eq_true rfl), ?_⟩
  refine draw_lc (f := fun b o => [.rs (.sg b), .fr (.lst (ws.map .str)), s2, .ls (ss.map .str), s4, .fr (.str z), s6, o]) (j := 7) (n := 4) (ρ0 := [.rs (.sg b), .fr (.lst (ws.map .str)), s2, .ls (ss.map .str), s4, .fr (.str z), s6, s7]) (fun _ _ => rfl) (fun _ _ => rfl) (fun _ _ _ => rfl) (fun _ _ _ => rfl) (by decide) (by decide) ckA [] b s7 (by decide) (by show 4 ≤ b; omega) fun ys b' hy hb' => ?_
  have hb' : b ≤ b' + 4 := hb'
  rw [List.nil_append]
  refine ⟨by decide, ?_⟩
  refine arTail_ok hz (by omega) hne hwl hw fun d b2 e1 e2 e3 e4 => h _ b2 ?_ (by omega)
  refine ⟨fun x hx => ?_, ?_, ?_, e1, e2, fun x hx => ?_, hy.nodup ck_nd, ?_, e3⟩
  · have := hs.subset (List.mem_reverse.mp hx)
    exact of_decide_eq_true (List.all_eq_true.mp kn_marks x this)
  · exact (List.reverse_perm ss).nodup_iff.mpr (hs.nodup kn_nd)
  · show ss.reverse.length ≤ 6
    rw [List.length_reverse]
    omega
  · exact of_decide_eq_true (List.all_eq_true.mp ck_kinds x (hy.subset hx))
  · exact hy.length_le
theorem arSight_ok (hb : 22 ≤ b) (hne : ws ≠ []) (hwl : ws.length ≤ 3) (hw : ∀ z ∈ ws, Wd z) (h : ∀ r b', RuOk r → b ≤ b' + 22 → Q (.dat (ruD r)) [.rs (.sg b'), .un]) :
    arSight (dEnd 2 Q) [.rs (.sg b), .fr (.lst (ws.map .str)), .ls ((knA ++ knB).map .str), .un, .un, .un, .un, .un] := by
  simp only [arSight]
  refine draw_lc (f := fun b o => [.rs (.sg b), .fr (.lst (ws.map .str)), .fr (.lst ((knA ++ knB).map .str)), .un, o, .un, .un, .un]) (j := 4) (n := 6) (ρ0 := [.rs (.sg b), .fr (.lst (ws.map .str)), .fr (.lst ((knA ++ knB).map .str)), .un, .un, .un, .un, .un]) (fun _ _ => rfl) (fun _ _ => rfl) (fun _ _ _ => rfl) (fun _ _ _ => rfl) (by decide) (by decide) (knA ++ knB) [] b .un (by decide) (by show 15 ≤ b; omega) fun ys b1 hy hb1 => ?_
  have hb1 : b ≤ b1 + 15 := hb1
  rw [List.nil_append]
  simp only [eq_self, decide_true, decide_false, Bool.xor_true, Bool.true_xor, Bool.xor_false, Option.some.injEq, Sl.ls.injEq, exists_eq', List.tail_cons, Bool.not_true, Bool.not_false, Nat.reduceAdd, dSeq, dIf, dTst, dBin, dVar, dTup, dNil, dCons, dLst, dC, dRet, dNext, dAsg, dFrz, hTup, hCons, hName, hNil, dSet, dPut, dIfE, dNotT, dAndT, dOrT, dAndV, dOrV, dCB, stl, val, vals, datL, WB, W1, W2, WL, ↓reduceIte, Bool.false_eq_true, backE, bFor, bLoop, bLast, dLc, dLcL, dForL, KP.gEq_unit, KP.gEq_unit0, KP.gEq_str, KP.gEq_int, KP.gIx_t0, KP.gIx_t1, KP.gIx_t2, KP.gLen_lst, KP.gLen_tup, KP.gAll_map_eq, gSorted2_lst_eq, gSorted2_tup_eq, gTuple_lst_eq, List.map_cons, List.map_nil, iSeq, dYes, wipeE, resto, frO, KP.gIn_tup_eq, KP.gIn_lst_eq, List.getElem?_cons_zero, List.getElem?_cons_succ, List.set_cons_zero, List.set_cons_succ, List.cons_append, List.nil_append, List.replicate, Nat.reduceSub, List.length_cons, List.length_nil, true_and, and_true, Bool.false_xor, dEnd, fin1, dFldSet, dFld, dMth, dSlice, dNoP, dPart, slotsOf, slotOf, dCall, Sl.own]
  refine ⟨rfl, b1, 5, rfl, by omega, by decide, by decide, fun k b2 k0 k1 hb2 => ?_⟩
  simp only [eq_self, decide_true, decide_false, Bool.xor_true, Bool.true_xor, Bool.xor_false, Option.some.injEq, Sl.ls.injEq, exists_eq', List.tail_cons, Bool.not_true, Bool.not_false, Nat.reduceAdd, dSeq, dIf, dTst, dBin, dVar, dTup, dNil, dCons, dLst, dC, dRet, dNext, dAsg, dFrz, hTup, hCons, hName, hNil, dSet, dPut, dIfE, dNotT, dAndT, dOrT, dAndV, dOrV, dCB, stl, val, vals, datL, WB, W1, W2, WL, ↓reduceIte, Bool.false_eq_true, backE, bFor, bLoop, bLast, dLc, dLcL, dForL, KP.gEq_unit, KP.gEq_unit0, KP.gEq_str, KP.gEq_int, KP.gIx_t0, KP.gIx_t1, KP.gIx_t2, KP.gLen_lst, KP.gLen_tup, KP.gAll_map_eq, gSorted2_lst_eq, gSorted2_tup_eq, gTuple_lst_eq, List.map_cons, List.map_nil, iSeq, dYes, wipeE, resto, frO, KP.gIn_tup_eq, KP.gIn_lst_eq, List.getElem?_cons_zero, List.getElem?_cons_succ, List.set_cons_zero, List.set_cons_succ, List.cons_append, List.nil_append, List.replicate, Nat.reduceSub, List.length_cons, List.length_nil, true_and, and_true, Bool.false_xor, dEnd, fin1, dFldSet, dFld, dMth, dSlice, dNoP, dPart, slotsOf, slotOf, own', Sl.own, gSlice, arWord]
  have ek : cutD (ys.map .str) none (some k) = (ys.take k.toNat).map .str := by
    obtain ⟨n, rfl⟩ : ∃ n : Nat, k = n := ⟨k.toNat, by omega⟩
    rw [cutD_take, List.map_take]
    rfl
  rw [ek]
  refine ⟨by decide, ?_⟩
  refine ⟨sz (Nat.le_of_ble_eq_true rfl), ?_⟩
  refine ⟨rfl, rfl, b2, .lst (ddA.map .str), ddA.map .str, rfl, rfl, by omega, by simp [ddA], by simp [ddA], fun x b3 hx hb3 => ?_⟩
  obtain ⟨z, hz, rfl⟩ := List.mem_map.mp hx
  refine arChecks_ok hz (by omega) hne hwl hw (hs := (List.take_sublist _ _).trans hy) (by rw [List.length_take]; omega) fun r b4 hr hb4 => h r b4 hr (by omega)
theorem k__law_any_rule : Keeps S__law_any_rule 2 8 r__law_any_rule := by
  rintro args Q h0 ⟨b, ws, rfl, hne, hwl, hw, hb, h⟩
  clear h0
  refine ⟨sz (Nat.le_of_ble_eq_true rfl), by decide, sz (Nat.le_of_ble_eq_true rfl), sz (Nat.le_of_ble_eq_true rfl), by decide, ?_⟩
  exact arSight_ok hb hne hwl hw h
end
end KP
namespace KP
end KP
namespace KP
open PySem PySem.Spec PyProof.Rows L2 TL
theorem cut_none {xs : List D} {n : Nat} : cutD xs none (some (n : Int)) = xs.take n := cutD_take xs n
theorem cut_from {xs : List D} {n : Nat} : cutD xs (some (n : Int)) none = xs.drop n := by
  unfold TL.cutD
  rw [HT.sIx_nat, HT.sIx_none, List.take_of_length_le (by rw [List.length_drop]; exact Nat.le_refl _)]
  by_cases h : n ≤ xs.length
  · rw [Nat.min_eq_left h]
  · rw [Nat.min_eq_right (by omega), List.drop_eq_nil_of_le (Nat.le_refl _), List.drop_eq_nil_of_le (by omega)]
theorem cut_from1 {xs : List D} {n : Nat} : cutD xs (some ((n : Int) + 1)) none = xs.drop (n + 1) := cut_from (n := n + 1)
theorem gAdd_int {i j : Int} {P : Rs → Prop} : gAdd (.int i) (.int j) P = P (.dat (.int (i + j))) := rfl
end KP
namespace KP
open PySem PySem.Spec PyProof.Rows L2 TL
abbrev S__law_begun := Sg_begun
abbrev S__law_mixed := Sg_mixed
abbrev S__law_take := Sg_take
abbrev S__law_pick := Sg_pick
abbrev S__law_word := Sg_word
abbrev S__law_words := Sg_words
theorem k__law_begun : Keeps S__law_begun 1 3 rg_begun := kg_begun
theorem k__law_mixed : Keeps S__law_mixed 1 5 rg_mixed := kg_mixed
theorem k__law_take : Keeps S__law_take 2 3 rg_take := kg_take
theorem k__law_pick : Keeps S__law_pick 2 2 rg_pick := kg_pick
theorem k__law_word : Keeps S__law_word 1 4 rg_word := kg_word
theorem k__law_words : Keeps S__law_words 2 6 rg_words := kg_words
theorem vws_len {ws : List Str} (h : ws.length ≤ 3) : (vws ws).length ≤ 208 := by
  unfold vws
  rw [List.length_flatMap]
  have e : ∀ t : Option (Str × Bool × Bool), ((ows ws).flatMap fun o => ([⟨t, o, false, false⟩, ⟨t, o, false, true⟩, ⟨t, o, true, false⟩, ⟨t, o, true, true⟩] : List Vw)).length = 4 * (1 + ws.length) := by
    intro t
    rw [List.length_flatMap]
    have : (ows ws).length = 1 + ws.length := by unfold ows; rw [List.length_cons, List.length_map]; omega
    rw [← this]
    generalize ows ws = os
    induction os with
    | nil => rfl
    | cons o os ih =>
      rw [List.map_cons, List.sum_cons, ih]
      simp only [List.length_cons, List.length_nil]
      omega
  rw [show (List.map (fun t : Option (Str × Bool × Bool) => ((ows ws).flatMap fun o => ([⟨t, o, false, false⟩, ⟨t, o, false, true⟩, ⟨t, o, true, false⟩, ⟨t, o, true, true⟩] : List Vw)).length) (ths ws)) = List.map (fun _ => 4 * (1 + ws.length)) (ths ws) from List.map_congr_left fun t _ => e t]
  rw [List.map_const', List.sum_replicate_nat, ths_len]
  have h1 : 1 + 4 * ws.length ≤ 13 := by omega
  have h2 : 4 * (1 + ws.length) ≤ 16 := by omega
  exact Nat.mul_le_mul h1 h2
end KP
namespace Lk46
open PySem PySem.Spec PyProof.Rows L2 TL KP
section
variable {α β ν : Type}
variable {fits : ν → α → Bool} {f : α → β} {V : List ν}
noncomputable def trimA (al : List α → List α → Bool) : List α → List α → List α
  | [], B => B
  | x :: A, B => if al (A.reverse ++ x :: B) (A.reverse ++ B) = true then trimA al A B else trimA al A (x :: B)
end
end Lk46
namespace Lk46
open PySem PySem.Spec PyProof.Rows L2 TL KP
noncomputable def S_Keeper___init__ (c : Ca) : DSp := fun args Q => ∃ (t : Tk) (dw dr : D), args = [.rs (.ob c.Keeper []), .fr (.str t.tag), .fr dw, .fr dr] ∧ (dw = .lst (t.w.map .str) ∨ dw = .tup (t.w.map .str)) ∧ (dr = .lst (t.r.map ruD) ∨ dr = .tup (t.r.map ruD)) ∧ TkOk t ∧
  Q (.dat .non) [.rs (.ob c.Keeper (kpF t)), .un, .un, .un]
theorem k_Keeper___init__ (c : Ca) : Keeps (S_Keeper___init__ c) 4 9 (r_Keeper___init__ c) := by
  rintro args Q h0 ⟨t, dw, dr, rfl, hdw, hdr, ht, h⟩
  clear h0
  have lw : t.w.length < 64 := by have := ht.wl; omega
  have hzip : ∀ p ∈ t.r.zipIdx 0, RuOk p.1 := fun p hp => ht.r p.1 (by
    obtain ⟨i, hi, e⟩ := List.mem_iff_getElem.mp hp
    rw [List.getElem_zipIdx] at e
    rw [← e]
    exact List.getElem_mem _)
  have h1 := length_putD "own_name" (.str t.tag) []
  have h2 := length_putD "own_wants" (kpW t) (putD "own_name" (.str t.tag) [])
  have h3 : (putD "own_wants" (kpW t) (putD "own_name" (.str t.tag) [])).length < 1000 := by
    have : ([] : List (Str × D)).length = 0 := rfl
    omega
  have hd2 : ∃ xs, dr = .lst xs ∨ dr = .tup xs := by rcases hdr with rfl | rfl <;> first | exact ⟨_, .inl rfl⟩ | exact ⟨_, .inr rfl⟩
  refine ⟨rfl, rfl, _, rfl, lk_wd ht.tag, ?_⟩
  rw [isWord_wd ht.tag]
  refine ⟨rfl, rfl, t.w, _, rfl, hdw, ht.w, ht.wn, ht.wl, ?_⟩
  refine ⟨rfl, rfl, _, rfl, hd2, ?_⟩
  have end_ : ∀ o4 o5, rSets c (dEnd 4 Q) [.rs (.ob c.Keeper []), .fr (.str t.tag), .fr dw, .fr dr, o4, o5, .un, .un, .un] := by
    intro o4 o5
    rcases hdw with rfl | rfl <;> rcases hdr with rfl | rfl
    all_goals
      simp only [rSets]
      simp only [eq_self, decide_true, decide_false, Bool.xor_true, Bool.true_xor, Bool.xor_false, Option.some.injEq, Sl.ls.injEq, exists_eq', List.tail_cons, Bool.not_true, Bool.not_false, Nat.reduceAdd, dSeq, dIf, dTst, dBin, dVar, dTup, dNil, dCons, dLst, dC, dRet, dNext, dAsg, dFrz, hTup, hCons, hName, hNil, dSet, dPut, dIfE, dNotT, dAndT, dOrT, dAndV, dOrV, dCB, stl, val, vals, datL, WB, W1, W2, WL, ↓reduceIte, Bool.false_eq_true, backE, bFor, bLoop, bLast, dLc, dLcL, dForL, KP.gEq_unit, KP.gEq_unit0, KP.gEq_str, KP.gEq_int, KP.gIx_t0, KP.gIx_t1, KP.gIx_t2, KP.gLen_lst, KP.gLen_tup, KP.gAll_map_eq, gSorted2_lst_eq, gSorted2_tup_eq, gTuple_lst_eq, List.map_cons, List.map_nil, iSeq, dYes, wipeE, resto, frO, KP.gIn_tup_eq, KP.gIn_lst_eq, List.getElem?_cons_zero, List.getElem?_cons_succ, List.set_cons_zero, List.set_cons_succ, List.cons_append, List.nil_append, List.replicate, Nat.reduceSub, List.length_cons, List.length_nil, true_and, and_true, Bool.false_xor, dEnd, fin1, dFldSet, dFld, dMth, dSlice, dNoP, dPart, slotsOf, slotOf]
      refine ⟨by decide, lw, Nat.lt_of_le_of_lt (length_putD _ _ _) (by decide), ?_⟩
      refine rules_lc (ρ0 := [.rs (.ob c.Keeper (putD "own_wants" (kpW t) (putD "own_name" (.str t.tag) []))), .fr (.str t.tag), _, _, o4, o5, .un, .un, .un]) t.r [] _ _ _ ht.r (by have := ht.rl; simp; omega) ?_
      rw [List.nil_append]
      exact ⟨rfl, h3, h⟩
  rcases hdr with rfl | rfl
  all_goals
    refine ite2' (c := decide (((t.r.map ruD).length : Int) > 8)) (fun e => by rw [List.length_map] at e; have := ht.rl; have := of_decide_eq_true e; omega) (fun _ => ?_)
    show dForL (hTup 2 (hCons (hName 4) (hCons (hName 5) hNil))) (dIf ((dNotT ((dTst ((dCall 1 S_is_rule (dCons ((dFrz (dVar 5))) dNil))))))) dNever dNext) _ (enumD (t.r.map ruD)) _
    rw [enum_map]
    exact check_loop (t.r.zipIdx 0) .un .un hzip fun o4 o5 => end_ o4 o5
noncomputable def S_Keeper___len__ (c : Ca) : DSp := fun args Q => ∃ t : Tk, args = [.fr (kpD c t)] ∧ Q (.dat (.int (t.r.length : Nat))) [.un]
noncomputable def r_Keeper___len__ (c : Ca) : DTS := (dRet ((dCB gLen (dCons ((dFld c.Keeper "own_rules" ((dVar 0)))) dNil))))
theorem k_Keeper___len__ (c : Ca) : Keeps (S_Keeper___len__ c) 1 1 (r_Keeper___len__ c) := by
  rintro args Q h0 ⟨t, rfl, h⟩
  clear h0
  simp only [r_Keeper___len__, kpD]
  simp only [eq_self, decide_true, decide_false, Bool.xor_true, Bool.true_xor, Bool.xor_false, Option.some.injEq, Sl.ls.injEq, exists_eq', List.tail_cons, Bool.not_true, Bool.not_false, Nat.reduceAdd, dSeq, dIf, dTst, dBin, dVar, dTup, dNil, dCons, dLst, dC, dRet, dNext, dAsg, dFrz, hTup, hCons, hName, hNil, dSet, dPut, dIfE, dNotT, dAndT, dOrT, dAndV, dOrV, dCB, stl, val, vals, datL, WB, W1, W2, WL, ↓reduceIte, Bool.false_eq_true, backE, bFor, bLoop, bLast, dLc, dLcL, dForL, KP.gEq_unit, KP.gEq_unit0, KP.gEq_str, KP.gEq_int, KP.gIx_t0, KP.gIx_t1, KP.gIx_t2, KP.gLen_lst, KP.gLen_tup, KP.gAll_map_eq, gSorted2_lst_eq, gSorted2_tup_eq, gTuple_lst_eq, List.map_cons, List.map_nil, iSeq, dYes, wipeE, resto, frO, KP.gIn_tup_eq, KP.gIn_lst_eq, List.getElem?_cons_zero, List.getElem?_cons_succ, List.set_cons_zero, List.set_cons_succ, List.cons_append, List.nil_append, List.replicate, Nat.reduceSub, List.length_cons, List.length_nil, true_and, and_true, Bool.false_xor, dEnd, fin1, dFldSet, dFld, dMth, dSlice, dNoP, dPart, slotsOf, slotOf, kp_r, kpR, List.length_map]
  exact h
structure Sh (m : Nat) (d : D) : Prop where
  p : plain d = true
  c : PyData.canLay0 (py d) = true
  d : (py d).depth ≤ m
structure ShL (m : Nat) (ds : List D) : Prop where
  p : plainL ds = true
  c : PyData.canLayAll0 (pyL ds) = true
  d : PyData.depthAll (pyL ds) ≤ m
theorem ShL.nil {m : Nat} : ShL m [] := ⟨rfl, rfl, Nat.zero_le _⟩
theorem ShL.cons {m : Nat} {x : D} {xs : List D} (h : Sh m x) (t : ShL m xs) : ShL m (x :: xs) := by
  refine ⟨?_, ?_, ?_⟩
  · show (plain x && plainL xs) = true
    rw [h.p, t.p]
    rfl
  · show PyData.canLayAll0 (py x :: pyL xs) = true
    unfold PyData.canLayAll0
    rw [h.c, t.c]
    rfl
  · show PyData.depthAll (py x :: pyL xs) ≤ m
    unfold PyData.depthAll
    exact Nat.max_le.mpr ⟨h.d, t.d⟩
theorem ShL.map {α : Type} {m : Nat} {f : α → D} : ∀ {l : List α}, (∀ x ∈ l, Sh m (f x)) → ShL m (l.map f)
  | [], _ => .nil
  | x :: l, h => .cons (h x (List.mem_cons_self ..)) (ShL.map fun y hy => h y (List.mem_cons_of_mem _ hy))
theorem Sh.tup {m : Nat} {xs : List D} (h : ShL m xs) : Sh (m + 1) (.tup xs) := by
  refine ⟨h.p, ?_, ?_⟩
  · show PyData.canLay0 (py (.tup xs)) = true
    simp only [py, PyData.canLay0]
    exact h.c
  · simp only [py, PyData.depth]
    have := h.d
    omega
theorem Sh.lst {m : Nat} {xs : List D} (h : ShL m xs) : Sh (m + 1) (.lst xs) := by
  refine ⟨h.p, ?_, ?_⟩
  · show PyData.canLay0 (py (.lst xs)) = true
    simp only [py, PyData.canLay0]
    exact h.c
  · simp only [py, PyData.depth]
    have := h.d
    omega
theorem Sh.str {m : Nat} {z : Str} (h : okS z = true) : Sh m (.str z) := by
  refine ⟨rfl, ?_, ?_⟩
  · simp only [py, PyData.canLay0]
    exact h
  · simp only [py, PyData.depth]
    exact Nat.zero_le _
theorem Sh.non {m : Nat} : Sh m .non := ⟨rfl, rfl, Nat.zero_le _⟩
theorem Sh.refl {m : Nat} {xs : List D} (h : ShL m xs) : eqD (.tup xs) (.tup xs) = true := by
  unfold eqD
  simp only [py, PyData.eqv]
  exact SeqAt.eqvAll_refl _ h.c
theorem srtRu_ok {r : Ru} (h : RuOk r) : RuOk (srtRu r) := ⟨fun z hz => h.sm z (srt_mem.mp hz), ((srt_perm r.s).nodup_iff.mpr h.sn), by show (srt r.s).length ≤ 6; rw [srt_len]; exact h.sl, h.d, h.dw, fun z hz => h.km z (srt_mem.mp hz), ((srt_perm r.k).nodup_iff.mpr h.kn), by show (srt r.k).length ≤ 4; rw [srt_len]; exact h.kl, h.dl⟩
end Lk46
namespace Lk46
open PySem PySem.Spec PyProof.Rows L2 TL KP
def dcO (w : List Str) (rs : List Ru) (v : Vw) : Option Int := (dec (kn v w) rs).map fun i => ((i : Nat) : Int)
theorem koD_dec (o : Option Nat) : koD (decD o) = some (o.map fun i => ((i : Nat) : Int)) := by cases o <;> rfl
noncomputable def dcs (ws : List Str) (t : Tk) : List (Option Int) := (vws (srt ws)).map (dcO t.w t.r)
noncomputable def idl (ws : List Str) (t : Tk) : List Nat := (List.range t.r.length).filter fun i => !decide (some ((i : Nat) : Int) ∈ dcs ws t)
noncomputable def S_idle (c : Ca) : DSp := fun args Q => ∃ (t : Tk) (ws : List Str) (d : D), args = [.fr (kpD c t), .fr d] ∧ (d = .lst (ws.map .str) ∨ d = .tup (ws.map .str)) ∧ TkOk t ∧ (∀ z ∈ ws, Wd z) ∧ ws.Nodup ∧ 1 ≤ ws.length ∧ ws.length ≤ 3 ∧
  Q (.nw (.ls ((idl ws t).map fun i => .int (i : Nat)))) [.un, .un]
noncomputable def r_idle (c : Ca) : DTS := (dSeq (dSet 2 2 (dKc (iSeq ((dCall 1 S_all_views (dCons ((dFrz (dVar 1))) dNil)))) (hName 3) (dYes) ((dMth c.Keeper "decided" 2 (S_Keeper_decided c) ((dVar 0)) (dCons ((dFrz (dVar 3))) dNil))) (dC (.bl true)) [3]))
      (dRet ((dLc (iRange1 (dCons ((dCB (gOLen c.Keeper (S_Keeper___len__ c)) (dCons ((dVar 0)) dNil))) dNil)) (hName 4) ((dTst (dInKd true ((dVar 4)) 2))) ((dFrz (dVar 4))) [4]))))
section
variable {c : Ca} {t : Tk} {s1 s2 s3 s4 : Sl}
theorem idle_kc {Q : Rs → TL.Env → Prop} {ρ0 : TL.Env} (ht : TkOk t) : ∀ (vs : List Vw) (ks : List (Option Int)) (o3 : Sl), ks.length + vs.length ≤ 900 →
    Q (.nw (.rs (.kd (ks ++ vs.map (dcO t.w t.r))))) [.fr (kpD c t), s1, s2, frO ρ0[3]?, s4] →
    dKcL (hName 3) (dYes) ((dMth c.Keeper "decided" 2 (S_Keeper_decided c) ((dVar 0)) (dCons ((dFrz (dVar 3))) dNil))) (dC (.bl true)) [3] ρ0 (vs.map vwD) ks [.fr (kpD c t), s1, s2, o3, s4] Q
  | [], ks, o3, _, h => by
    rw [List.map_nil, List.append_nil] at h
    exact h
  | v :: vs, ks, o3, hl, h => by
    rw [List.length_cons] at hl
    have ih := idle_kc ht vs (ks ++ [dcO t.w t.r v]) (.fr (vwD v)) (by simp; omega) (by simpa using h)
    simp only [kpD] at ih ⊢
    simp only [eq_self, decide_true, decide_false, Bool.xor_true, Bool.true_xor, Bool.xor_false, Option.some.injEq, Sl.ls.injEq, exists_eq', List.tail_cons, Bool.not_true, Bool.not_false, Nat.reduceAdd, dSeq, dIf, dTst, dBin, dVar, dTup, dNil, dCons, dLst, dC, dRet, dNext, dAsg, dFrz, hTup, hCons, hName, hNil, dSet, dPut, dIfE, dNotT, dAndT, dOrT, dAndV, dOrV, dCB, stl, val, vals, datL, WB, W1, W2, WL, ↓reduceIte, Bool.false_eq_true, backE, bFor, bLoop, bLast, dLc, dLcL, dForL, KP.gEq_unit, KP.gEq_unit0, KP.gEq_str, KP.gEq_int, KP.gIx_t0, KP.gIx_t1, KP.gIx_t2, KP.gLen_lst, KP.gLen_tup, KP.gAll_map_eq, gSorted2_lst_eq, gSorted2_tup_eq, gTuple_lst_eq, List.map_cons, List.map_nil, iSeq, dYes, wipeE, resto, frO, KP.gIn_tup_eq, KP.gIn_lst_eq, List.getElem?_cons_zero, List.getElem?_cons_succ, List.set_cons_zero, List.set_cons_succ, List.cons_append, List.nil_append, List.replicate, Nat.reduceSub, List.length_cons, List.length_nil, true_and, and_true, Bool.false_xor, dEnd, fin1, dFldSet, dFld, dMth, dSlice, dNoP, dPart, slotsOf, slotOf, dKcL, kp_d]
    refine ⟨rfl, t, v, rfl, ht, ?_⟩
    simp only [eq_self, decide_true, decide_false, Bool.xor_true, Bool.true_xor, Bool.xor_false, Option.some.injEq, Sl.ls.injEq, exists_eq', List.tail_cons, Bool.not_true, Bool.not_false, Nat.reduceAdd, dSeq, dIf, dTst, dBin, dVar, dTup, dNil, dCons, dLst, dC, dRet, dNext, dAsg, dFrz, hTup, hCons, hName, hNil, dSet, dPut, dIfE, dNotT, dAndT, dOrT, dAndV, dOrV, dCB, stl, val, vals, datL, WB, W1, W2, WL, ↓reduceIte, Bool.false_eq_true, backE, bFor, bLoop, bLast, dLc, dLcL, dForL, KP.gEq_unit, KP.gEq_unit0, KP.gEq_str, KP.gEq_int, KP.gIx_t0, KP.gIx_t1, KP.gIx_t2, KP.gLen_lst, KP.gLen_tup, KP.gAll_map_eq, gSorted2_lst_eq, gSorted2_tup_eq, gTuple_lst_eq, List.map_cons, List.map_nil, iSeq, dYes, wipeE, resto, frO, KP.gIn_tup_eq, KP.gIn_lst_eq, List.getElem?_cons_zero, List.getElem?_cons_succ, List.set_cons_zero, List.set_cons_succ, List.cons_append, List.nil_append, List.replicate, Nat.reduceSub, List.length_cons, List.length_nil, true_and, and_true, Bool.false_xor, dEnd, fin1, dFldSet, dFld, dMth, dSlice, dNoP, dPart, slotsOf, slotOf, koD_dec]
    exact ⟨fin_big (by omega), ih⟩
theorem idle_lc {Q : Rs → TL.Env → Prop} {ρ0 : TL.Env} {ks : List (Option Int)} : ∀ (is acc : List Nat) (o4 : Sl), acc.length + is.length ≤ 900 →
    Q (.nw (.ls ((acc ++ is.filter fun i => !decide (some ((i : Nat) : Int) ∈ ks)).map fun i => .int (i : Nat)))) [s1, s2, .rs (.kd ks), s3, frO ρ0[4]?] →
    dLcL (hName 4) ((dTst (dInKd true ((dVar 4)) 2))) ((dFrz (dVar 4))) [4] ρ0 (is.map fun i => .int (i : Nat)) (acc.map fun i => .int (i : Nat)) [s1, s2, .rs (.kd ks), s3, o4] Q
  | [], acc, o4, _, h => by
    rw [List.filter_nil, List.append_nil] at h
    exact h
  | i :: is, acc, o4, hl, h => by
    rw [List.length_cons] at hl
    simp only [eq_self, decide_true, decide_false, Bool.xor_true, Bool.true_xor, Bool.xor_false, Option.some.injEq, Sl.ls.injEq, exists_eq', List.tail_cons, Bool.not_true, Bool.not_false, Nat.reduceAdd, dSeq, dIf, dTst, dBin, dVar, dTup, dNil, dCons, dLst, dC, dRet, dNext, dAsg, dFrz, hTup, hCons, hName, hNil, dSet, dPut, dIfE, dNotT, dAndT, dOrT, dAndV, dOrV, dCB, stl, val, vals, datL, WB, W1, W2, WL, ↓reduceIte, Bool.false_eq_true, backE, bFor, bLoop, bLast, dLc, dLcL, dForL, KP.gEq_unit, KP.gEq_unit0, KP.gEq_str, KP.gEq_int, KP.gIx_t0, KP.gIx_t1, KP.gIx_t2, KP.gLen_lst, KP.gLen_tup, KP.gAll_map_eq, gSorted2_lst_eq, gSorted2_tup_eq, gTuple_lst_eq, List.map_cons, List.map_nil, iSeq, dYes, wipeE, resto, frO, KP.gIn_tup_eq, KP.gIn_lst_eq, List.getElem?_cons_zero, List.getElem?_cons_succ, List.set_cons_zero, List.set_cons_succ, List.cons_append, List.nil_append, List.replicate, Nat.reduceSub, List.length_cons, List.length_nil, true_and, and_true, Bool.false_xor, dEnd, fin1, dFldSet, dFld, dMth, dSlice, dNoP, dPart, slotsOf, slotOf, dInKd, koD]
    refine ⟨ks, some (i : Nat), rfl, rfl, ?_⟩
    cases e : decide (some ((i : Nat) : Int) ∈ ks) with
    | true =>
      rw [List.filter_cons_of_neg (by rw [e]; simp)] at h
      simp only [eq_self, decide_true, decide_false, Bool.xor_true, Bool.true_xor, Bool.xor_false, Option.some.injEq, Sl.ls.injEq, exists_eq', List.tail_cons, Bool.not_true, Bool.not_false, Nat.reduceAdd, dSeq, dIf, dTst, dBin, dVar, dTup, dNil, dCons, dLst, dC, dRet, dNext, dAsg, dFrz, hTup, hCons, hName, hNil, dSet, dPut, dIfE, dNotT, dAndT, dOrT, dAndV, dOrV, dCB, stl, val, vals, datL, WB, W1, W2, WL, ↓reduceIte, Bool.false_eq_true, backE, bFor, bLoop, bLast, dLc, dLcL, dForL, KP.gEq_unit, KP.gEq_unit0, KP.gEq_str, KP.gEq_int, KP.gIx_t0, KP.gIx_t1, KP.gIx_t2, KP.gLen_lst, KP.gLen_tup, KP.gAll_map_eq, gSorted2_lst_eq, gSorted2_tup_eq, gTuple_lst_eq, List.map_cons, List.map_nil, iSeq, dYes, wipeE, resto, frO, KP.gIn_tup_eq, KP.gIn_lst_eq, List.getElem?_cons_zero, List.getElem?_cons_succ, List.set_cons_zero, List.set_cons_succ, List.cons_append, List.nil_append, List.replicate, Nat.reduceSub, List.length_cons, List.length_nil, true_and, and_true, Bool.false_xor, dEnd, fin1, dFldSet, dFld, dMth, dSlice, dNoP, dPart, slotsOf, slotOf]
      exact idle_lc is acc (.fr (.int (i : Nat))) (by omega) h
    | false =>
      rw [List.filter_cons_of_pos (by rw [e]; rfl)] at h
      have ih := idle_lc (Q := Q) (ρ0 := ρ0) is (acc ++ [i]) (.fr (.int (i : Nat))) (by simp; omega) (by simpa using h)
      rw [List.map_append] at ih
      simp only [eq_self, decide_true, decide_false, Bool.xor_true, Bool.true_xor, Bool.xor_false, Option.some.injEq, Sl.ls.injEq, exists_eq', List.tail_cons, Bool.not_true, Bool.not_false, Nat.reduceAdd, dSeq, dIf, dTst, dBin, dVar, dTup, dNil, dCons, dLst, dC, dRet, dNext, dAsg, dFrz, hTup, hCons, hName, hNil, dSet, dPut, dIfE, dNotT, dAndT, dOrT, dAndV, dOrV, dCB, stl, val, vals, datL, WB, W1, W2, WL, ↓reduceIte, Bool.false_eq_true, backE, bFor, bLoop, bLast, dLc, dLcL, dForL, KP.gEq_unit, KP.gEq_unit0, KP.gEq_str, KP.gEq_int, KP.gIx_t0, KP.gIx_t1, KP.gIx_t2, KP.gLen_lst, KP.gLen_tup, KP.gAll_map_eq, gSorted2_lst_eq, gSorted2_tup_eq, gTuple_lst_eq, List.map_cons, List.map_nil, iSeq, dYes, wipeE, resto, frO, KP.gIn_tup_eq, KP.gIn_lst_eq, List.getElem?_cons_zero, List.getElem?_cons_succ, List.set_cons_zero, List.set_cons_succ, List.cons_append, List.nil_append, List.replicate, Nat.reduceSub, List.length_cons, List.length_nil, true_and, and_true, Bool.false_xor, dEnd, fin1, dFldSet, dFld, dMth, dSlice, dNoP, dPart, slotsOf, slotOf]
      exact ⟨by rw [List.length_map]; exact fin_big (by omega), ih⟩
end
theorem rangeD_zero (n : Nat) : rangeD 0 n = (List.range n).map fun i => .int (i : Nat) := by
  unfold rangeD
  apply List.map_congr_left
  intro i _
  rw [Int.zero_add]
theorem k_idle (c : Ca) : Keeps (S_idle c) 2 5 (r_idle c) := by
  rintro args Q h0 ⟨t, ws, d, rfl, hd, ht, hw, hn, h1, h3, h⟩
  clear h0
  refine ⟨rfl, rfl, ws, d, rfl, hd, hw, hn, h1, h3, ?_⟩
  refine idle_kc (ρ0 := [.fr (kpD c t), .fr d, .un, .un, .un]) ht (vws (srt ws)) [] .un (by have := vws_len (ws := srt ws) (by rw [srt_len]; exact h3); simp; omega) ?_
  rw [List.nil_append]
  refine ⟨by decide, ?_⟩
  show dRet ((dLc (iRange1 (dCons ((dCB (gOLen c.Keeper (S_Keeper___len__ c)) (dCons ((dVar 0)) dNil))) dNil)) (hName 4) ((dTst (dInKd true ((dVar 4)) 2))) ((dFrz (dVar 4))) [4])) (dEnd 2 Q) [.fr (kpD c t), .fr d, .rs (.kd (dcs ws t)), .un, .un]
  have hr := ht.rl
  have p62 : (2 : Int) ^ 62 = 4611686018427387904 := by decide
  have p63 : (2 : Int) ^ 63 = 9223372036854775808 := by decide
  refine ⟨rfl, t, rfl, (t.r.length : Nat), rfl, by omega, by omega, by omega, by omega, ?_⟩
  rw [show ((t.r.length : Nat) : Int).toNat = t.r.length from rfl, rangeD_zero]
  exact idle_lc (ρ0 := [.fr (kpD c t), .fr d, .rs (.kd (dcs ws t)), .un, .un]) (List.range t.r.length) [] .un (by simp; omega) h
end Lk46
namespace Lk46
open PySem PySem.Spec PyProof.Rows L2 TL KP
noncomputable def alR (w ws : List Str) (a b : List Ru) : Bool := ((vws (srt ws)).find? (unl ⟨"", w, a⟩ ⟨"", w, b⟩)).isNone
noncomputable def trimT (ws : List Str) (t : Tk) : Tk := ⟨t.tag, t.w, trimA (alR t.w ws) t.r.reverse []⟩
theorem srtRu2 (r : Ru) : srtRu (srtRu r) = srtRu r := by
  unfold srtRu
  simp only [srt_srt]
theorem kpF_norm (tag : Str) (w : List Str) (l : List Ru) : kpF ⟨tag, srt w, l.map srtRu⟩ = kpF ⟨tag, w, l⟩ := by
  have e : (l.map srtRu).map srtRu = l.map srtRu := by
    rw [List.map_map]
    apply List.map_congr_left
    intro r _
    exact srtRu2 r
  unfold kpF kpR kpW
  simp only [srt_srt, e]
theorem rules_ok {t : Tk} (ht : TkOk t) {l : List Ru} (h1 : ∀ r ∈ l, RuOk r) (h2 : l.length ≤ 8) : TkOk ⟨t.tag, t.w, l⟩ := ⟨ht.tag, ht.w, ht.wn, ht.wl, h1, h2⟩
theorem norm_ok {t : Tk} (ht : TkOk t) {l : List Ru} (h1 : ∀ r ∈ l, RuOk r) (h2 : l.length ≤ 8) : TkOk ⟨t.tag, srt t.w, l.map srtRu⟩ := ⟨ht.tag, fun z hz => ht.w z (srt_mem.mp hz), (srt_perm t.w).nodup_iff.mpr ht.wn, by show (srt t.w).length ≤ 3; rw [srt_len]; exact ht.wl, fun r hr => by
  obtain ⟨q, hq, rfl⟩ := List.mem_map.mp hr
  exact srtRu_ok (h1 q hq), by show (l.map srtRu).length ≤ 8; rw [List.length_map]; exact h2⟩
noncomputable def S_trimmed (c : Ca) : DSp := fun args Q => ∃ (t : Tk) (ws : List Str) (d : D), args = [.fr (kpD c t), .fr d] ∧ (d = .lst (ws.map .str) ∨ d = .tup (ws.map .str)) ∧ TkOk t ∧ (∀ z ∈ ws, Wd z) ∧ ws.Nodup ∧ 1 ≤ ws.length ∧ ws.length ≤ 3 ∧
  Q (.dat (kpD c (trimT ws t))) [.un, .un]
noncomputable def bTrim (c : Ca) : DTS := (dSeq (dSet 2 4 ((dMake 2 c.Keeper 4 (S_Keeper___init__ c) (dCons ((dFld c.Keeper "own_name" ((dVar 2)))) (dCons ((dFld c.Keeper "own_wants" ((dVar 2)))) (dCons ((dBin gAdd ((dSlice ((dFld c.Keeper "own_rules" ((dVar 2)))) dNoP (dPart ((dVar 3))))) ((dSlice ((dFld c.Keeper "own_rules" ((dVar 2)))) (dPart ((dBin gAdd ((dVar 3)) (dC (.int 1))))) dNoP)))) dNil))))))
      (dIf ((dTst (dBin (gIsN false) ((dCall 3 (S_parted c) (dCons ((dFrz (dVar 2))) (dCons ((dFrz (dVar 4))) (dCons ((dFrz (dVar 1))) dNil))))) (dC .non)))) (dSet 2 2 ((dFrz (dVar 4)))) dNext))
noncomputable def r_trimmed (c : Ca) : DTS := (dSeq (dDrop ((dCall 1 S_need_words (dCons ((dFrz (dVar 1))) dNil))))
      (dSeq (dSet 2 2 ((dFrz (dVar 0))))
      (dSeq (dFor (iRange3 (dCons ((dBin gSub ((dCB (gOLen c.Keeper (S_Keeper___len__ c)) (dCons ((dVar 0)) dNil))) (dC (.int 1)))) (dCons ((dUn gNeg (dC (.int 1)))) (dCons ((dUn gNeg (dC (.int 1)))) dNil)))) (hName 3) (bTrim c))
      (dRet ((dVar 2))))))
def downI : Nat → List D
  | 0 => []
  | n + 1 => .int (n : Nat) :: downI n
theorem downD_eq : ∀ n : Nat, downD ((n : Int) - 1) n = downI n
  | 0 => rfl
  | n + 1 => by
    unfold downD
    rw [List.range_succ_eq_map, List.map_cons, List.map_map]
    show _ :: _ = .int (n : Nat) :: downI n
    rw [← downD_eq n]
    unfold downD
    congr 1
    · congr 1
      push_cast
      omega
    · apply List.map_congr_left
      intro i _
      show D.int _ = D.int _
      congr 1
      simp
      omega
section
variable {c : Ca} {t : Tk} {E : DEnds} {k0 : Sl} {ws : List Str} {d : D}
theorem gAdd_tup {xs ys : List D} {P : Rs → Prop} : gAdd (.tup xs) (.tup ys) P = (xs.length + ys.length ≤ sizeLine ∧ P (.dat (.tup (xs ++ ys)))) := rfl
theorem isNon_prt (o : Option Vw) : TL.isNon (prtD o) = o.isNone := by cases o <;> rfl
theorem trim_one (hd : d = .lst (ws.map .str) ∨ d = .tup (ws.map .str)) (hw : ∀ z ∈ ws, Wd z) (hn : ws.Nodup) (h1 : 1 ≤ ws.length) (h3 : ws.length ≤ 3) (ht : TkOk t) {x : Ru} {A B : List Ru} {o4 : Sl} (hl : A.length + B.length ≤ 7) (o1 : ∀ r ∈ A.reverse ++ x :: B, RuOk r) (o2 : ∀ r ∈ A.reverse ++ B, RuOk r)
    (h : ∀ o4, E.nx [k0, .fr d, .fr (kpD c ⟨t.tag, t.w, if alR t.w ws (A.reverse ++ x :: B) (A.reverse ++ B) = true then A.reverse ++ B else A.reverse ++ x :: B⟩), .fr (.int (A.length : Nat)), o4]) :
    bTrim c E [k0, .fr d, .fr (kpD c ⟨t.tag, t.w, A.reverse ++ x :: B⟩), .fr (.int (A.length : Nat)), o4] := by
  have e1 : ((((A.reverse ++ x :: B).map srtRu).map ruD).take A.length) = (A.reverse.map srtRu).map ruD := by
    rw [← List.map_take, ← List.map_take, List.take_left' (by rw [List.length_reverse])]
  have e2 : ((((A.reverse ++ x :: B).map srtRu).map ruD).drop (A.length + 1)) = (B.map srtRu).map ruD := by
    rw [← List.map_drop, ← List.map_drop, show A.reverse ++ x :: B = (A.reverse ++ [x]) ++ B by simp, List.drop_left' (by simp)]
  have e3 : ((A.reverse.map srtRu).map ruD ++ (B.map srtRu).map ruD) = (((A.reverse ++ B).map srtRu).map ruD) := by rw [List.map_append, List.map_append]
  have hl2 : (A.reverse ++ B).length ≤ 8 := by simp; omega
  have hl1 : (A.reverse ++ x :: B).length ≤ 8 := by simp; omega
  simp only [kpD] at h ⊢
  simp only [eq_self, decide_true, decide_false, Bool.xor_true, Bool.true_xor, Bool.xor_false, Option.some.injEq, Sl.ls.injEq, exists_eq', List.tail_cons, Bool.not_true, Bool.not_false, Nat.reduceAdd, dSeq, dIf, dTst, dBin, dVar, dTup, dNil, dCons, dLst, dC, dRet, dNext, dAsg, dFrz, hTup, hCons, hName, hNil, dSet, dPut, dIfE, dNotT, dAndT, dOrT, dAndV, dOrV, dCB, stl, val, vals, datL, WB, W1, W2, WL, ↓reduceIte, Bool.false_eq_true, backE, bFor, bLoop, bLast, dLc, dLcL, dForL, KP.gEq_unit, KP.gEq_unit0, KP.gEq_str, KP.gEq_int, KP.gIx_t0, KP.gIx_t1, KP.gIx_t2, KP.gLen_lst, KP.gLen_tup, KP.gAll_map_eq, gSorted2_lst_eq, gSorted2_tup_eq, gTuple_lst_eq, List.map_cons, List.map_nil, iSeq, dYes, wipeE, resto, frO, KP.gIn_tup_eq, KP.gIn_lst_eq, List.getElem?_cons_zero, List.getElem?_cons_succ, List.set_cons_zero, List.set_cons_succ, List.cons_append, List.nil_append, List.replicate, Nat.reduceSub, List.length_cons, List.length_nil, true_and, and_true, Bool.false_xor, dEnd, fin1, dFldSet, dFld, dMth, dSlice, dNoP, dPart, slotsOf, slotOf, bTrim, kp_n, kp_w, kp_r, kpR, kpW, gSlice, cut_none, cut_from1, gAdd_int, e1, e2, gAdd_tup, e3, dMake]
  refine ⟨sz (by rw [List.length_map, List.length_map, List.length_map, List.length_map, List.length_reverse]; omega), by decide, rfl, ⟨t.tag, srt t.w, (A.reverse ++ B).map srtRu⟩, _, _, rfl, .inr rfl, .inr rfl, norm_ok ht o2 hl2, rfl, _, _, rfl, ?_⟩
  rw [kpF_norm]
  simp only [eq_self, decide_true, decide_false, Bool.xor_true, Bool.true_xor, Bool.xor_false, Option.some.injEq, Sl.ls.injEq, exists_eq', List.tail_cons, Bool.not_true, Bool.not_false, Nat.reduceAdd, dSeq, dIf, dTst, dBin, dVar, dTup, dNil, dCons, dLst, dC, dRet, dNext, dAsg, dFrz, hTup, hCons, hName, hNil, dSet, dPut, dIfE, dNotT, dAndT, dOrT, dAndV, dOrV, dCB, stl, val, vals, datL, WB, W1, W2, WL, ↓reduceIte, Bool.false_eq_true, backE, bFor, bLoop, bLast, dLc, dLcL, dForL, KP.gEq_unit, KP.gEq_unit0, KP.gEq_str, KP.gEq_int, KP.gIx_t0, KP.gIx_t1, KP.gIx_t2, KP.gLen_lst, KP.gLen_tup, KP.gAll_map_eq, gSorted2_lst_eq, gSorted2_tup_eq, gTuple_lst_eq, List.map_cons, List.map_nil, iSeq, dYes, wipeE, resto, frO, KP.gIn_tup_eq, KP.gIn_lst_eq, List.getElem?_cons_zero, List.getElem?_cons_succ, List.set_cons_zero, List.set_cons_succ, List.cons_append, List.nil_append, List.replicate, Nat.reduceSub, List.length_cons, List.length_nil, true_and, and_true, Bool.false_xor, dEnd, fin1, dFldSet, dFld, dMth, dSlice, dNoP, dPart, slotsOf, slotOf, dCall]
  refine ⟨rfl, ⟨t.tag, t.w, A.reverse ++ x :: B⟩, ⟨t.tag, t.w, A.reverse ++ B⟩, ws, d, rfl, hd, rules_ok ht o1 hl1, rules_ok ht o2 hl2, hw, hn, h1, h3, ?_⟩
  simp only [eq_self, decide_true, decide_false, Bool.xor_true, Bool.true_xor, Bool.xor_false, Option.some.injEq, Sl.ls.injEq, exists_eq', List.tail_cons, Bool.not_true, Bool.not_false, Nat.reduceAdd, dSeq, dIf, dTst, dBin, dVar, dTup, dNil, dCons, dLst, dC, dRet, dNext, dAsg, dFrz, hTup, hCons, hName, hNil, dSet, dPut, dIfE, dNotT, dAndT, dOrT, dAndV, dOrV, dCB, stl, val, vals, datL, WB, W1, W2, WL, ↓reduceIte, Bool.false_eq_true, backE, bFor, bLoop, bLast, dLc, dLcL, dForL, KP.gEq_unit, KP.gEq_unit0, KP.gEq_str, KP.gEq_int, KP.gIx_t0, KP.gIx_t1, KP.gIx_t2, KP.gLen_lst, KP.gLen_tup, KP.gAll_map_eq, gSorted2_lst_eq, gSorted2_tup_eq, gTuple_lst_eq, List.map_cons, List.map_nil, iSeq, dYes, wipeE, resto, frO, KP.gIn_tup_eq, KP.gIn_lst_eq, List.getElem?_cons_zero, List.getElem?_cons_succ, List.set_cons_zero, List.set_cons_succ, List.cons_append, List.nil_append, List.replicate, Nat.reduceSub, List.length_cons, List.length_nil, true_and, and_true, Bool.false_xor, dEnd, fin1, dFldSet, dFld, dMth, dSlice, dNoP, dPart, slotsOf, slotOf, gIsN, isNon_prt]
  have ea : (List.find? (unl ⟨t.tag, t.w, A.reverse ++ x :: B⟩ ⟨t.tag, t.w, A.reverse ++ B⟩) (vws (srt ws))).isNone = alR t.w ws (A.reverse ++ x :: B) (A.reverse ++ B) := rfl
  rw [ea]
  cases e : alR t.w ws (A.reverse ++ x :: B) (A.reverse ++ B) with
  | true =>
    rw [e, if_pos rfl] at h
    simp only [eq_self, decide_true, decide_false, Bool.xor_true, Bool.true_xor, Bool.xor_false, Option.some.injEq, Sl.ls.injEq, exists_eq', List.tail_cons, Bool.not_true, Bool.not_false, Nat.reduceAdd, dSeq, dIf, dTst, dBin, dVar, dTup, dNil, dCons, dLst, dC, dRet, dNext, dAsg, dFrz, hTup, hCons, hName, hNil, dSet, dPut, dIfE, dNotT, dAndT, dOrT, dAndV, dOrV, dCB, stl, val, vals, datL, WB, W1, W2, WL, ↓reduceIte, Bool.false_eq_true, backE, bFor, bLoop, bLast, dLc, dLcL, dForL, KP.gEq_unit, KP.gEq_unit0, KP.gEq_str, KP.gEq_int, KP.gIx_t0, KP.gIx_t1, KP.gIx_t2, KP.gLen_lst, KP.gLen_tup, KP.gAll_map_eq, gSorted2_lst_eq, gSorted2_tup_eq, gTuple_lst_eq, List.map_cons, List.map_nil, iSeq, dYes, wipeE, resto, frO, KP.gIn_tup_eq, KP.gIn_lst_eq, List.getElem?_cons_zero, List.getElem?_cons_succ, List.set_cons_zero, List.set_cons_succ, List.cons_append, List.nil_append, List.replicate, Nat.reduceSub, List.length_cons, List.length_nil, true_and, and_true, Bool.false_xor, dEnd, fin1, dFldSet, dFld, dMth, dSlice, dNoP, dPart, slotsOf, slotOf]
    exact h _
  | false =>
    rw [e, if_neg Bool.false_ne_true] at h
    simp only [eq_self, decide_true, decide_false, Bool.xor_true, Bool.true_xor, Bool.xor_false, Option.some.injEq, Sl.ls.injEq, exists_eq', List.tail_cons, Bool.not_true, Bool.not_false, Nat.reduceAdd, dSeq, dIf, dTst, dBin, dVar, dTup, dNil, dCons, dLst, dC, dRet, dNext, dAsg, dFrz, hTup, hCons, hName, hNil, dSet, dPut, dIfE, dNotT, dAndT, dOrT, dAndV, dOrV, dCB, stl, val, vals, datL, WB, W1, W2, WL, ↓reduceIte, Bool.false_eq_true, backE, bFor, bLoop, bLast, dLc, dLcL, dForL, KP.gEq_unit, KP.gEq_unit0, KP.gEq_str, KP.gEq_int, KP.gIx_t0, KP.gIx_t1, KP.gIx_t2, KP.gLen_lst, KP.gLen_tup, KP.gAll_map_eq, gSorted2_lst_eq, gSorted2_tup_eq, gTuple_lst_eq, List.map_cons, List.map_nil, iSeq, dYes, wipeE, resto, frO, KP.gIn_tup_eq, KP.gIn_lst_eq, List.getElem?_cons_zero, List.getElem?_cons_succ, List.set_cons_zero, List.set_cons_succ, List.cons_append, List.nil_append, List.replicate, Nat.reduceSub, List.length_cons, List.length_nil, true_and, and_true, Bool.false_xor, dEnd, fin1, dFldSet, dFld, dMth, dSlice, dNoP, dPart, slotsOf, slotOf]
    exact h _
theorem trim_loop (hd : d = .lst (ws.map .str) ∨ d = .tup (ws.map .str)) (hw : ∀ z ∈ ws, Wd z) (hn : ws.Nodup) (h1 : 1 ≤ ws.length) (h3 : ws.length ≤ 3) (ht : TkOk t) : ∀ (A B : List Ru) (o3 o4 : Sl), A.length + B.length ≤ 8 → (∀ r ∈ A, RuOk r) → (∀ r ∈ B, RuOk r) →
    (∀ o3 o4, E.nx [k0, .fr d, .fr (kpD c ⟨t.tag, t.w, trimA (alR t.w ws) A B⟩), o3, o4]) →
    dForL (hName 3) (bTrim c) E (downI A.length) [k0, .fr d, .fr (kpD c ⟨t.tag, t.w, A.reverse ++ B⟩), o3, o4]
  | [], B, o3, o4, _, _, _, h => h o3 o4
  | x :: A, B, o3, o4, hl, hA, hB, h => by
    rw [List.length_cons] at hl
    have hA' : ∀ r ∈ A, RuOk r := fun r hr => hA r (List.mem_cons_of_mem _ hr)
    have hx : RuOk x := hA x (List.mem_cons_self ..)
    have hB' : ∀ r ∈ x :: B, RuOk r := fun r hr => (List.mem_cons.mp hr).elim (fun e => e ▸ hx) (hB r)
    have o1 : ∀ r ∈ A.reverse ++ x :: B, RuOk r := fun r hr => (List.mem_append.mp hr).elim (fun m => hA' r (List.mem_reverse.mp m)) (hB' r)
    have o2 : ∀ r ∈ A.reverse ++ B, RuOk r := fun r hr => (List.mem_append.mp hr).elim (fun m => hA' r (List.mem_reverse.mp m)) (hB r)
    have e0 : (x :: A).reverse ++ B = A.reverse ++ x :: B := by rw [List.reverse_cons, List.append_assoc]; rfl
    rw [e0]
    show bTrim c { nx := dForL (hName 3) (bTrim c) E (downI A.length), rt := E.rt, bk := E.nx, ct := dForL (hName 3) (bTrim c) E (downI A.length) } [k0, .fr d, .fr (kpD c ⟨t.tag, t.w, A.reverse ++ x :: B⟩), .fr (.int (A.length : Nat)), o4]
    refine trim_one hd hw hn h1 h3 ht (by omega) o1 o2 fun o4 => ?_
    unfold trimA at h
    by_cases e : alR t.w ws (A.reverse ++ x :: B) (A.reverse ++ B) = true
    · rw [if_pos e] at h ⊢
      exact trim_loop hd hw hn h1 h3 ht A B _ _ (by omega) hA' hB h
    · rw [if_neg e] at h ⊢
      exact trim_loop hd hw hn h1 h3 ht A (x :: B) _ _ (by rw [List.length_cons]; omega) hA' hB' h
end
theorem k_trimmed (c : Ca) : Keeps (S_trimmed c) 2 5 (r_trimmed c) := by
  rintro args Q h0 ⟨t, ws, d, rfl, hd, ht, hw, hn, h1, h3, h⟩
  clear h0
  have hr := ht.rl
  have p62 : (2 : Int) ^ 62 = 4611686018427387904 := by decide
  have p63 : (2 : Int) ^ 63 = 9223372036854775808 := by decide
  refine ⟨rfl, rfl, ws, d, rfl, hd, hw, hn, h1, h3, ?_⟩
  show dSeq (dFor (iRange3 (dCons ((dBin gSub ((dCB (gOLen c.Keeper (S_Keeper___len__ c)) (dCons ((dVar 0)) dNil))) (dC (.int 1)))) (dCons ((dUn gNeg (dC (.int 1)))) (dCons ((dUn gNeg (dC (.int 1)))) dNil)))) (hName 3) (bTrim c))
      (dRet ((dVar 2))) (dEnd 2 Q) [.fr (kpD c t), .fr d, .fr (kpD c t), .un, .un]
  refine ⟨rfl, t, rfl, (t.r.length : Nat), rfl, by omega, by omega, trivial, rfl, ⟨by omega, by omega, by omega, by omega⟩, ?_⟩
  rw [show (((t.r.length : Nat) : Int) - 1 - -1).toNat = t.r.length by omega, downD_eq]
  have := trim_loop (c := c) (E := { nx := dRet (dVar 2) (dEnd 2 Q), rt := (dEnd 2 Q).rt, bk := (dEnd 2 Q).bk, ct := (dEnd 2 Q).ct }) (k0 := .fr (kpD c t)) hd hw hn h1 h3 ht t.r.reverse [] .un .un (by rw [List.length_reverse]; exact hr) (fun r hr => ht.r r (List.mem_reverse.mp hr)) (fun r hr => by cases hr) fun o3 o4 => h
  rw [List.reverse_reverse, List.append_nil, List.length_reverse] at this
  exact this
end Lk46
namespace KP
open PySem PySem.Spec PyProof.Rows L2 TL
def nb (b : Bool) : Int := if b = true then 1 else 0
theorem nb_inj {a b : Bool} (h : nb a = nb b) : a = b := by cases a <;> cases b <;> first | rfl | (exact absurd h (by decide))
theorem th_inj : ∀ {t u : Option (Str × Bool × Bool)}, nkD (thD t) = nkD (thD u) → t = u
  | none, none, _ => rfl
  | none, some (_, _, _), h => by simp [thD, nkD, nkDs] at h
  | some (_, _, _), none, h => by simp [thD, nkD, nkDs] at h
  | some (w, g, k), some (w', g', k'), h => by
    have h' : NestedKey.tup [.text w, .num (nb g), .num (nb k)] = .tup [.text w', .num (nb g'), .num (nb k')] := h
    simp only [NestedKey.tup.injEq, List.cons.injEq, NestedKey.text.injEq, NestedKey.num.injEq, and_true] at h'
    rw [h'.1, nb_inj h'.2.1, nb_inj h'.2.2]
theorem ow_inj : ∀ {t u : Option Str}, nkD (owD t) = nkD (owD u) → t = u
  | none, none, _ => rfl
  | none, some _, h => by simp [owD, nkD, nkDs] at h
  | some _, none, h => by simp [owD, nkD, nkDs] at h
  | some w, some w', h => by
    have h' : NestedKey.tup [.num 1, .text w] = .tup [.num 1, .text w'] := h
    simp only [NestedKey.tup.injEq, List.cons.injEq, NestedKey.text.injEq, true_and, and_true] at h'
    rw [h']
theorem vw_inj {v u : Vw} (h : nkD (vwD v) = nkD (vwD u)) : v = u := by
  obtain ⟨t, o, a, b⟩ := v
  obtain ⟨t', o', a', b'⟩ := u
  have h' : NestedKey.tup [nkD (thD t), nkD (owD o), .num (nb a), nkD (stD b)] = .tup [nkD (thD t'), nkD (owD o'), .num (nb a'), nkD (stD b')] := h
  simp only [NestedKey.tup.injEq, List.cons.injEq, NestedKey.num.injEq, and_true] at h'
  obtain ⟨h1, h2, h3, h4⟩ := h'
  have e4 : b = b' := by cases b <;> cases b' <;> first | rfl | (exact absurd h4 (by simp [stD, nkD]))
  rw [th_inj h1, ow_inj h2, nb_inj h3, e4]
theorem nodup_flat {α β : Type} {l : List α} {f : α → List β} (h1 : ∀ a ∈ l, (f a).Nodup) (h2 : l.Pairwise fun a b => ∀ x ∈ f a, x ∉ f b) : (l.flatMap f).Nodup := by
  refine List.pairwise_flatMap.mpr ⟨h1, h2.imp ?_⟩
  intro a b h x hx y hy e
  subst e
  exact h x hx hy
theorem ths_nd {ws : List Str} (h : ws.Nodup) : (ths ws).Nodup := by
  unfold ths
  refine List.nodup_cons.mpr ⟨fun z => ?_, nodup_flat (fun a _ => by simp) (h.imp fun {a b} hab x hx hy => ?_)⟩
  · obtain ⟨x, _, z⟩ := List.mem_flatMap.mp z
    simp at z
  · simp only [List.mem_cons, List.not_mem_nil, or_false] at hx hy
    rcases hx with rfl | rfl | rfl | rfl <;> (simp at hy; exact hab hy)
theorem ows_nd {ws : List Str} (h : ws.Nodup) : (ows ws).Nodup := by
  unfold ows
  refine List.nodup_cons.mpr ⟨fun z => ?_, List.pairwise_map.mpr (h.imp fun {a b} hab e => hab (Option.some.inj e))⟩
  obtain ⟨x, _, z⟩ := List.mem_map.mp z
  cases z
theorem vws_nd {ws : List Str} (h : ws.Nodup) : (vws ws).Nodup := by
  unfold vws
  refine nodup_flat (fun t _ => nodup_flat (fun o _ => by simp) ((ows_nd h).imp fun {a b} hab x hx hy => ?_)) ((ths_nd h).imp fun {a b} hab x hx hy => ?_)
  · simp only [List.mem_cons, List.not_mem_nil, or_false] at hx hy
    rcases hx with rfl | rfl | rfl | rfl <;> (simp at hy; exact hab hy)
  · obtain ⟨o, _, hx⟩ := List.mem_flatMap.mp hx
    obtain ⟨o', _, hy⟩ := List.mem_flatMap.mp hy
    simp only [List.mem_cons, List.not_mem_nil, or_false] at hx hy
    rcases hx with rfl | rfl | rfl | rfl <;> (simp at hy; exact hab hy.1)
theorem vw_ky (v : Vw) : KyOk (vwD v) := by
  obtain ⟨t, o, a, b⟩ := v
  refine ⟨⟨_, rfl⟩, ?_, ?_⟩
  · rcases t with _ | ⟨w, g, k⟩ <;> rcases o with _ | u <;> rfl
  · rcases t with _ | ⟨w, g, k⟩ <;> rcases o with _ | u <;> (simp only [vwD, thD, owD, stD, nkD, nkDs, NestedKey.depth, NestedKey.depthAll]; decide)
def tbO (w : List Str) (rs : List Ru) (v : Vw) : D × Option Int := (vwD v, Option.map (fun i : Nat => (i : Int)) (dec (kn v w) rs))
noncomputable def tbD (t : Tk) (ws : List Str) : List (D × Option Int) := (vws (srt ws)).map (tbO t.w t.r)
theorem koD_dec' (o : Option Nat) : koD (decD o) = some (Option.map (fun i : Nat => (i : Int)) o) := by cases o <;> rfl
noncomputable def S_table_of (c : Ca) (w : World) : DSp := fun args Q => ∃ (t : Tk) (ws : List Str) (d : D), args = [.fr (kpD c t), .fr d] ∧ (d = .lst (ws.map .str) ∨ d = .tup (ws.map .str)) ∧ TkOk t ∧ (∀ z ∈ ws, Wd z) ∧ ws.Nodup ∧ 1 ≤ ws.length ∧ ws.length ≤ 3 ∧ Q (.nw (.rs (.tb w (tbD t ws)))) [.un, .un]
noncomputable def r_table_of (c : Ca) (w : World) : DTS := (dRet ((dTb w (iSeq ((dCall 1 S_all_views (dCons ((dFrz (dVar 1))) dNil)))) (hName 2) (dYes) ((dFrz (dVar 2))) ((dMth c.Keeper "decided" 2 (S_Keeper_decided c) ((dVar 0)) (dCons ((dFrz (dVar 2))) dNil))) [2])))
section
variable {c : Ca} {w : World} {t : Tk} {d : D}
theorem table_loop {ρ0 : TL.Env} {Q : Rs → TL.Env → Prop} (ht : TkOk t) : ∀ (vs us : List Vw) (o : Sl), (us ++ vs).Nodup → us.length + vs.length ≤ 900 → Q (.nw (.rs (.tb w ((us ++ vs).map (tbO t.w t.r))))) [.fr (kpD c t), .fr d, frO ρ0[2]?] →
    dTbL w (hName 2) (dYes) ((dFrz (dVar 2))) ((dMth c.Keeper "decided" 2 (S_Keeper_decided c) ((dVar 0)) (dCons ((dFrz (dVar 2))) dNil))) [2] ρ0 (vs.map vwD) (us.map (tbO t.w t.r)) [.fr (kpD c t), .fr d, o] Q
  | [], us, o, _, _, h => by
    rw [List.append_nil] at h
    exact h
  | v :: vs, us, o, hn, hl, h => by
    rw [List.length_cons] at hl
    have ih := table_loop (Q := Q) (ρ0 := ρ0) ht vs (us ++ [v]) (.fr (vwD v)) (by simpa using hn) (by simp; omega) (by simpa using h)
    rw [List.map_append, List.map_cons, List.map_nil] at ih
    have hnv : v ∉ us := fun z => by
      have := List.nodup_append.mp hn
      exact this.2.2 v z v (by simp) rfl
    have hk : nkD (vwD v) ∉ (us.map (tbO t.w t.r)).map fun y => nkD y.1 := fun z => by
      rw [List.map_map] at z
      obtain ⟨u, hu, e⟩ := List.mem_map.mp z
      exact hnv (vw_inj e ▸ hu)
    refine ⟨rfl, rfl, rfl, rfl, t, v, rfl, ht, ?_⟩
    simp only [Sl.own, own', koD_dec']
    refine ⟨vw_ky v, hk, ?_, ih⟩
    rw [List.length_map]
    exact fin_big (by omega)
end
theorem k_table_of (c : Ca) (w : World) : Keeps (S_table_of c w) 2 3 (r_table_of c w) := by
  rintro args Q h0 ⟨t, ws, d, rfl, hd, ht, hw, hn, h1, h3, h⟩
  clear h0
  have hl := vws_len (ws := srt ws) (by rw [srt_len]; exact h3)
  have key := table_loop (c := c) (w := w) (t := t) (d := d) (ρ0 := [.fr (kpD c t), .fr d, .un]) (Q := (dEnd 2 Q).rt) ht (vws (srt ws)) [] .un (vws_nd ((srt_perm ws).nodup_iff.mpr hn)) (by simp; omega) h
  refine ⟨rfl, rfl, ws, d, rfl, hd, hw, hn, h1, h3, ?_⟩
  exact key
end KP
namespace Lk47
open PySem PySem.Spec PyProof.Rows L2 TL KP
def isLT : D → Bool
  | .lst _ => true
  | .tup _ => true
  | _ => false
theorem sz {n : Nat} (h : n ≤ 1000) : n ≤ sizeLine := Nat.le_of_lt (fin_big h)
def S_is_listG : DSp := fun args Q => ∃ d, args = [.fr d] ∧ Lk d ∧ Q (.dat (.bl (isLT d))) [.un]
def r_is_listG : DTS := (dRet ((dCB gIsi (dCons ((dVar 0)) (dCons ((dTup (dCons ((dC (.ty "list"))) (dCons ((dC (.ty "tuple"))) dNil)))) dNil)))))
theorem k_is_listG : Keeps S_is_listG 1 1 r_is_listG := by
  rintro args Q h0 ⟨d, rfl, hd, h⟩
  clear h0
  have ok := hd.ok
  cases d <;> first | (cases ok; done) | skip
  all_goals exact ⟨sz (by decide), rfl, by decide, by decide, h⟩
def fb (pre : List Str) : List D → Option D
  | [] => none
  | x :: xs => match x with
    | .str y => if isWord (.str y) = true ∧ y ∉ pre then fb (pre ++ [y]) xs else some (.str y)
    | d => some d
def itD : D → Option (List D)
  | .lst xs => some xs
  | .tup xs => some xs
  | _ => none
def wdue (d : D) : Option D := match itD d with
  | some xs => if 1 ≤ xs.length ∧ xs.length ≤ 3 then fb [] xs else some .non
  | none => some .non
def dueL (d : D) : List D := match wdue d with
  | some x => [x]
  | none => []
theorem word_wd {y : Str} (h : isWord (.str y) = true) : Wd y := by
  show (decide (1 ≤ y.length) && (decide (y.length ≤ 8) && y.cps.toList.all fun c => decide (c ∈ lets))) = true
  rw [← Bool.and_assoc]
  exact h
def goodW (pre : List Str) (x : D) : Prop := ∃ y, x = .str y ∧ isWord (.str y) = true ∧ y ∉ pre
theorem fb_good {pre : List Str} {y : Str} {xs : List D} (h1 : isWord (.str y) = true) (h2 : y ∉ pre) : fb pre (.str y :: xs) = fb (pre ++ [y]) xs := by
  show (if isWord (.str y) = true ∧ y ∉ pre then fb (pre ++ [y]) xs else some (.str y)) = _
  rw [if_pos ⟨h1, h2⟩]
theorem fb_bad {pre : List Str} {x : D} {xs : List D} (h : ¬ goodW pre x) : fb pre (x :: xs) = some x := by
  cases x with
  | str y =>
    show (if isWord (.str y) = true ∧ y ∉ pre then fb (pre ++ [y]) xs else some (.str y)) = _
    rw [if_neg fun z => h ⟨y, rfl, z.1, z.2⟩]
  | _ => rfl
theorem fb_none : ∀ (xs : List D) (pre : List Str), fb pre xs = none → pre.Nodup → (∀ z ∈ pre, Wd z) → ∃ ws : List Str, pre.map .str ++ xs = ws.map .str ∧ ws.Nodup ∧ ∀ z ∈ ws, Wd z
  | [], pre, _, hn, hw => ⟨pre, by rw [List.append_nil], hn, hw⟩
  | x :: xs, pre, h, hn, hw => by
    by_cases g : goodW pre x
    · obtain ⟨y, rfl, h1, h2⟩ := g
      rw [fb_good h1 h2] at h
      obtain ⟨ws, e, a, b⟩ := fb_none xs (pre ++ [y]) h (List.nodup_append.mpr ⟨hn, List.pairwise_singleton _ _, fun a ha b hb e => by
        rw [List.mem_singleton] at hb
        subst hb
        exact h2 (e ▸ ha)⟩) fun z hz => (List.mem_append.mp hz).elim (hw z) fun hz => by
          rw [List.mem_singleton] at hz
          subst hz
          exact word_wd h1
      refine ⟨ws, ?_, a, b⟩
      rw [← e, List.map_append, List.append_assoc]
      rfl
    · rw [fb_bad g] at h
      cases h
theorem due_none {d : D} (h : wdue d = none) : ∃ ws : List Str, (d = .lst (ws.map .str) ∨ d = .tup (ws.map .str)) ∧ (∀ z ∈ ws, Wd z) ∧ ws.Nodup ∧ 1 ≤ ws.length ∧ ws.length ≤ 3 := by
  have key : ∀ xs : List D, itD d = some xs → ∃ ws : List Str, xs = ws.map .str ∧ (∀ z ∈ ws, Wd z) ∧ ws.Nodup ∧ 1 ≤ ws.length ∧ ws.length ≤ 3 := fun xs e => by
    unfold wdue at h
    rw [e] at h
    by_cases c : 1 ≤ xs.length ∧ xs.length ≤ 3
    · have h : (if 1 ≤ xs.length ∧ xs.length ≤ 3 then fb [] xs else some .non) = none := h
      rw [if_pos c] at h
      obtain ⟨ws, e, a, b⟩ := fb_none xs [] h List.nodup_nil fun z hz => by cases hz
      have e : xs = ws.map .str := e
      subst e
      rw [List.length_map] at c
      exact ⟨ws, rfl, b, a, c.1, c.2⟩
    · have h : (if 1 ≤ xs.length ∧ xs.length ≤ 3 then fb [] xs else some .non) = none := h
      rw [if_neg c] at h
      cases h
  cases d with
  | lst xs =>
    obtain ⟨ws, rfl, r⟩ := key xs rfl
    exact ⟨ws, .inl rfl, r⟩
  | tup xs =>
    obtain ⟨ws, rfl, r⟩ := key xs rfl
    exact ⟨ws, .inr rfl, r⟩
  | _ => cases h
theorem fb_words : ∀ (ws pre : List Str), (∀ z ∈ ws, Wd z) → (pre ++ ws).Nodup → fb pre (ws.map .str) = none
  | [], _, _, _ => rfl
  | y :: ws, pre, hw, hn => by
    have h2 : y ∉ pre := fun z => (List.nodup_append.mp hn).2.2 y z y (List.mem_cons_self) rfl
    show fb pre (.str y :: ws.map .str) = none
    rw [fb_good (isWord_wd (hw y List.mem_cons_self)) h2]
    exact fb_words ws (pre ++ [y]) (fun z hz => hw z (List.mem_cons_of_mem _ hz)) (by rw [List.append_assoc]; exact hn)
theorem due_good {d : D} {ws : List Str} (hd : d = .lst (ws.map .str) ∨ d = .tup (ws.map .str)) (hw : ∀ z ∈ ws, Wd z) (hn : ws.Nodup) (h1 : 1 ≤ ws.length) (h3 : ws.length ≤ 3) : wdue d = none := by
  have key : (if 1 ≤ (ws.map D.str).length ∧ (ws.map D.str).length ≤ 3 then fb [] (ws.map .str) else some .non) = none := by
    rw [List.length_map, if_pos ⟨h1, h3⟩]
    exact fb_words ws [] hw hn
  rcases hd with rfl | rfl <;> exact key
def S_need_words (c : Ca) : DSpX := fun args Q X => ∃ d, args = [.fr d] ∧ Lk d ∧ ((wdue d = none ∧ Q (.dat .non) [.un]) ∨ (∃ x, wdue d = some x ∧ X c.BadWord [("thing", x)] [.un]))
def r_need_words (c : Ca) (XC : XCont) : DTS := (dSeq (dIf ((dOrT ((dNotT ((dTst ((dCall 1 S_is_listG (dCons ((dFrz (dVar 0))) dNil))))))) ((dNotT ((dTst (dChain gLe gLe (dC (.int 1)) ((dCB gLen (dCons ((dVar 0)) dNil))) ((dC (.int 3)))))))))) (dRaise XC c.BadWord "thing" (dC .non)) dNext)
      (dFor (iEnumB (dCons ((dFrz (dVar 0))) dNil)) (hTup 2 (hCons (hName 1) (hCons (hName 2) hNil))) (dIf ((dOrT ((dNotT ((dTst ((dCall 1 S_is_word (dCons ((dFrz (dVar 2))) dNil))))))) ((dTst (dBin (gIn false) ((dVar 2)) ((dSlice ((dVar 0)) dNoP (dPart ((dVar 1)))))))))) (dRaise XC c.BadWord "thing" ((dFrz (dVar 2)))) dNext)))
def bNeed (c : Ca) (XC : XCont) : DTS := (dIf ((dOrT ((dNotT ((dTst ((dCall 1 S_is_word (dCons ((dFrz (dVar 2))) dNil))))))) ((dTst (dBin (gIn false) ((dVar 2)) ((dSlice ((dVar 0)) dNoP (dPart ((dVar 1)))))))))) (dRaise XC c.BadWord "thing" ((dFrz (dVar 2)))) dNext)
def gNd : DTG := (hTup 2 (hCons (hName 1) (hCons (hName 2) hNil)))
section
variable {c : Ca} {XC : XCont} {E : DEnds} {d : D} {xs : List D}
theorem cut_pre {pre : List Str} {rest : List D} : cutD (pre.map D.str ++ rest) none (some (pre.length : Int)) = pre.map .str := by
  rw [cutD_take]
  exact List.take_left' (by rw [List.length_map])
def tP : DTT := ((dTst (dBin (gIn false) ((dVar 2)) ((dSlice ((dVar 0)) dNoP (dPart ((dVar 1))))))))
theorem tP_ok {R : Bool → TL.Env → Prop} {pre : List Str} {rest : List D} {y : Str} (hd : d = .lst (pre.map .str ++ rest) ∨ d = .tup (pre.map .str ++ rest)) (hl : pre.length ≤ 3) (h : R (decide (y ∈ pre)) [.fr d, .fr (.int pre.length), .fr (.str y)]) :
    tP [.fr d, .fr (.int pre.length), .fr (.str y)] R := by
  unfold tP
  rcases hd with rfl | rfl <;> (
    simp only [eq_self, decide_true, decide_false, Bool.xor_true, Bool.true_xor, Bool.xor_false, Option.some.injEq, Sl.ls.injEq, exists_eq', List.tail_cons, Bool.not_true, Bool.not_false, Nat.reduceAdd, dSeq, dIf, dTst, dBin, dVar, dTup, dNil, dCons, dLst, dC, dRet, dNext, dAsg, dFrz, hTup, hCons, hName, hNil, dSet, dPut, dIfE, dNotT, dAndT, dOrT, dAndV, dOrV, dCB, stl, val, vals, datL, WB, W1, W2, WL, ↓reduceIte, Bool.false_eq_true, backE, bFor, bLoop, bLast, dLc, dLcL, dForL, KP.gEq_unit, KP.gEq_unit0, KP.gEq_str, KP.gEq_int, KP.gIx_t0, KP.gIx_t1, KP.gIx_t2, KP.gLen_lst, KP.gLen_tup, KP.gAll_map_eq, gSorted2_lst_eq, gSorted2_tup_eq, gTuple_lst_eq, List.map_cons, List.map_nil, iSeq, dYes, wipeE, resto, frO, KP.gIn_tup_eq, KP.gIn_lst_eq, List.getElem?_cons_zero, List.getElem?_cons_succ, List.set_cons_zero, List.set_cons_succ, List.cons_append, List.nil_append, List.replicate, Nat.reduceSub, List.length_cons, List.length_nil, true_and, and_true, Bool.false_xor, dEnd, fin1, dFldSet, dFld, dMth, dSlice, dNoP, dPart, slotsOf, slotOf, gSlice, cut_pre]
    exact h)
theorem ifOr2 {t u : DTT} {k : DTS} {E : DEnds} {ρ ρ1 ρ2 : TL.Env} {b1 b2 : Bool} (h1 : ∀ R : Bool → TL.Env → Prop, R b1 ρ1 → t ρ R) (h2 : b1 = false → ∀ R : Bool → TL.Env → Prop, R b2 ρ2 → u ρ1 R) (ht : b1 = true → k E ρ1) (ht2 : b1 = false → b2 = true → k E ρ2) (hf : b1 = false → b2 = false → E.nx ρ2) :
    dIf (dOrT t u) k dNext E ρ := by
  refine h1 _ ?_
  cases b1 with
  | true => exact ht rfl
  | false =>
    refine h2 rfl _ ?_
    cases b2 with
    | true => exact ht2 rfl rfl
    | false => exact hf rfl rfl
theorem isw_ok {x : D} {s0 s1 : Sl} (lx : Lk x) {R : Bool → TL.Env → Prop} (h : R (!isWord x) [s0, s1, .fr x]) : dNotT ((dTst ((dCall 1 S_is_word (dCons ((dFrz (dVar 2))) dNil))))) [s0, s1, .fr x] R := by
  refine ⟨rfl, rfl, x, rfl, lx, ?_⟩
  exact h
theorem need_good {pre : List Str} {rest : List D} {y : Str} (hd : d = .lst (pre.map .str ++ rest) ∨ d = .tup (pre.map .str ++ rest)) (hl : pre.length ≤ 3) (ly : Lk (.str y)) (h1 : isWord (.str y) = true) (h2 : y ∉ pre) (h : E.nx [.fr d, .fr (.int pre.length), .fr (.str y)]) :
    bNeed c XC E [.fr d, .fr (.int pre.length), .fr (.str y)] :=
  ifOr2 (ρ1 := [.fr d, .fr (.int pre.length), .fr (.str y)]) (b1 := false) (b2 := false) (fun R hR => isw_ok ly (by rw [h1]; exact hR)) (fun _ R hR => tP_ok hd hl (by rw [decide_eq_false h2]; exact hR)) (fun z => nomatch z) (fun _ z => nomatch z) fun _ _ => h
theorem need_bad {pre : List Str} {rest : List D} {x : D} (hd : d = .lst (pre.map .str ++ rest) ∨ d = .tup (pre.map .str ++ rest)) (hl : pre.length ≤ 3) (lx : Lk x) (hx : ¬ goodW pre x) (h : XC c.BadWord [("thing", x)] [.fr d, .fr (.int pre.length), .fr x]) :
    bNeed c XC E [.fr d, .fr (.int pre.length), .fr x] := by
  cases e : isWord x with
  | false => exact ifOr2 (ρ1 := [.fr d, .fr (.int pre.length), .fr x]) (ρ2 := []) (b1 := true) (b2 := true) (fun R hR => isw_ok lx (by rw [e]; exact hR)) (fun z => nomatch z) (fun _ => h) (fun z => nomatch z) fun z => nomatch z
  | true =>
    cases x with
    | str y =>
      have hy : y ∈ pre := Classical.byContradiction fun z => hx ⟨y, rfl, e, z⟩
      exact ifOr2 (ρ1 := [.fr d, .fr (.int pre.length), .fr (.str y)]) (ρ2 := [.fr d, .fr (.int pre.length), .fr (.str y)]) (b1 := false) (b2 := true) (fun R hR => isw_ok lx (by rw [e]; exact hR)) (fun _ R hR => tP_ok hd hl (by rw [decide_eq_true hy]; exact hR)) (fun z => nomatch z) (fun _ _ => h) fun _ z => nomatch z
    | _ => cases e
theorem need_loop : ∀ (rest : List D) (pre : List Str) (o1 o2 : Sl), (d = .lst (pre.map .str ++ rest) ∨ d = .tup (pre.map .str ++ rest)) → pre.length + rest.length ≤ 3 → (∀ x ∈ rest, Lk x) → (fb pre rest = none → ∀ o1 o2, E.nx [.fr d, o1, o2]) → (∀ x, fb pre rest = some x → ∀ o1 o2, XC c.BadWord [("thing", x)] [.fr d, o1, o2]) →
    dForL gNd (bNeed c XC) E ((rest.zipIdx pre.length).map fun p => .tup [.int p.2, p.1]) [.fr d, o1, o2]
  | [], pre, o1, o2, _, _, _, hn, _ => hn rfl o1 o2
  | x :: rest, pre, o1, o2, hd, hl, lk, hn, hs => by
    rw [List.length_cons] at hl
    refine ⟨rfl, rfl, ?_⟩
    by_cases g : goodW pre x
    · obtain ⟨y, rfl, h1, h2⟩ := g
      rw [fb_good h1 h2] at hn hs
      refine need_good hd (by omega) (lk _ List.mem_cons_self) h1 h2 ?_
      have ih := need_loop rest (pre ++ [y]) (.fr (.int pre.length)) (.fr (.str y)) (by rw [List.map_append, List.append_assoc]; exact hd) (by rw [List.length_append, List.length_singleton]; omega) (fun z hz => lk z (List.mem_cons_of_mem _ hz)) hn hs
      rw [List.length_append, List.length_singleton] at ih
      exact ih
    · rw [fb_bad g] at hs
      exact need_bad hd (by omega) (lk _ List.mem_cons_self) g (hs x rfl _ _)
end
theorem items_lk {d : D} {xs : List D} (h : Lk d) (e : d = .lst xs ∨ d = .tup xs) : ∀ x ∈ xs, Lk x := fun x hx => by
  rcases e with rfl | rfl
  · obtain ⟨m', e, f⟩ := Fine.lst' h
    exact (f.mem hx).mono (Nat.le_refl _) (by omega)
  · obtain ⟨m', e, f⟩ := Fine.tup' h
    exact (f.mem hx).mono (Nat.le_refl _) (by omega)
theorem len_lk {d : D} {xs : List D} (h : Lk d) (e : d = .lst xs ∨ d = .tup xs) : xs.length ≤ sizeLine := by
  have hb := line_big
  have key : ∀ m, FineL topN 100000 m xs → xs.length ≤ 100000 := fun m f => Nat.le_trans (wtL_length xs) f.lw
  rcases e with rfl | rfl
  · obtain ⟨m', _, f⟩ := Fine.lst' h
    have := key _ f
    omega
  · obtain ⟨m', _, f⟩ := Fine.tup' h
    have := key _ f
    omega
theorem k_need_words (c : Ca) : KeepsX (S_need_words c) 1 3 (r_need_words c) := by
  rintro args Q X h0 ⟨d, rfl, ld, h⟩
  clear h0
  have main : ∀ xs : List D, (d = .lst xs ∨ d = .tup xs) → 1 ≤ xs.length → xs.length ≤ 3 → ∀ o1 o2, dForL gNd (bNeed c fun C fs ρ => X C fs (TL.ownsOf 1 ρ)) (dEnd 1 Q) (enumD xs) [.fr d, o1, o2] := fun xs e h1 h3 o1 o2 => by
    have w : wdue d = fb [] xs := by
      have k : (if 1 ≤ xs.length ∧ xs.length ≤ 3 then fb [] xs else some .non) = fb [] xs := if_pos ⟨h1, h3⟩
      rcases e with rfl | rfl <;> exact k
    refine need_loop xs [] o1 o2 e (by show 0 + xs.length ≤ 3; omega) (items_lk ld e) (fun z o1 o2 => ?_) fun x z o1 o2 => ?_
    · rcases h with ⟨_, h⟩ | ⟨x, e2, _⟩
      · exact h
      · rw [w, z] at e2; cases e2
    · rcases h with ⟨e2, _⟩ | ⟨y, e2, h⟩
      · rw [w, z] at e2; cases e2
      · rw [w, z] at e2
        cases e2
        exact h
  have bad : ∀ xs : List D, (d = .lst xs ∨ d = .tup xs) → ¬ (1 ≤ xs.length ∧ xs.length ≤ 3) → X c.BadWord [("thing", .non)] [.un] := fun xs e hn => by
    have w : wdue d = some .non := by
      have k : (if 1 ≤ xs.length ∧ xs.length ≤ 3 then fb [] xs else some .non) = some .non := if_neg hn
      rcases e with rfl | rfl <;> exact k
    rcases h with ⟨e2, _⟩ | ⟨y, e2, h⟩
    · rw [w] at e2; cases e2
    · rw [w] at e2
      cases e2
      exact h
  have seq : ∀ xs : List D, (d = .lst xs ∨ d = .tup xs) → r_need_words c (fun C fs ρ => X C fs (TL.ownsOf 1 ρ)) (dEnd 1 Q) [.fr d, .un, .un] := fun xs e => by
    have hl := len_lk ld e
    have m := main xs e
    have bd := bad xs e
    refine ⟨rfl, rfl, d, rfl, ld, ?_⟩
    rcases e with rfl | rfl <;> (
      by_cases h1 : 1 ≤ xs.length
      · have g1 : decide ((1 : Int) ≤ xs.length) = true := decide_eq_true (by omega)
        by_cases h3 : xs.length ≤ 3
        · have g2 : decide ((xs.length : Int) ≤ 3) = true := decide_eq_true (by omega)
          simp only [eq_self, decide_true, decide_false, Bool.xor_true, Bool.true_xor, Bool.xor_false, Option.some.injEq, Sl.ls.injEq, exists_eq', List.tail_cons, Bool.not_true, Bool.not_false, Nat.reduceAdd, dSeq, dIf, dTst, dBin, dVar, dTup, dNil, dCons, dLst, dC, dRet, dNext, dAsg, dFrz, hTup, hCons, hName, hNil, dSet, dPut, dIfE, dNotT, dAndT, dOrT, dAndV, dOrV, dCB, stl, val, vals, datL, WB, W1, W2, WL, ↓reduceIte, Bool.false_eq_true, backE, bFor, bLoop, bLast, dLc, dLcL, dForL, KP.gEq_unit, KP.gEq_unit0, KP.gEq_str, KP.gEq_int, KP.gIx_t0, KP.gIx_t1, KP.gIx_t2, KP.gLen_lst, KP.gLen_tup, KP.gAll_map_eq, gSorted2_lst_eq, gSorted2_tup_eq, gTuple_lst_eq, List.map_cons, List.map_nil, iSeq, dYes, wipeE, resto, frO, KP.gIn_tup_eq, KP.gIn_lst_eq, List.getElem?_cons_zero, List.getElem?_cons_succ, List.set_cons_zero, List.set_cons_succ, List.cons_append, List.nil_append, List.replicate, Nat.reduceSub, List.length_cons, List.length_nil, true_and, and_true, Bool.false_xor, dEnd, fin1, dFldSet, dFld, dMth, dSlice, dNoP, dPart, slotsOf, slotOf, dChain, gLe, gOrd, isLT, hl, g1, g2]
          exact m h1 h3 _ _
        · have g2 : decide ((xs.length : Int) ≤ 3) = false := decide_eq_false (by omega)
          simp only [eq_self, decide_true, decide_false, Bool.xor_true, Bool.true_xor, Bool.xor_false, Option.some.injEq, Sl.ls.injEq, exists_eq', List.tail_cons, Bool.not_true, Bool.not_false, Nat.reduceAdd, dSeq, dIf, dTst, dBin, dVar, dTup, dNil, dCons, dLst, dC, dRet, dNext, dAsg, dFrz, hTup, hCons, hName, hNil, dSet, dPut, dIfE, dNotT, dAndT, dOrT, dAndV, dOrV, dCB, stl, val, vals, datL, WB, W1, W2, WL, ↓reduceIte, Bool.false_eq_true, backE, bFor, bLoop, bLast, dLc, dLcL, dForL, KP.gEq_unit, KP.gEq_unit0, KP.gEq_str, KP.gEq_int, KP.gIx_t0, KP.gIx_t1, KP.gIx_t2, KP.gLen_lst, KP.gLen_tup, KP.gAll_map_eq, gSorted2_lst_eq, gSorted2_tup_eq, gTuple_lst_eq, List.map_cons, List.map_nil, iSeq, dYes, wipeE, resto, frO, KP.gIn_tup_eq, KP.gIn_lst_eq, List.getElem?_cons_zero, List.getElem?_cons_succ, List.set_cons_zero, List.set_cons_succ, List.cons_append, List.nil_append, List.replicate, Nat.reduceSub, List.length_cons, List.length_nil, true_and, and_true, Bool.false_xor, dEnd, fin1, dFldSet, dFld, dMth, dSlice, dNoP, dPart, slotsOf, slotOf, dChain, gLe, gOrd, isLT, hl, g1, g2]
          exact bd fun z => h3 z.2
      · have g1 : decide ((1 : Int) ≤ xs.length) = false := decide_eq_false (by omega)
        simp only [eq_self, decide_true, decide_false, Bool.xor_true, Bool.true_xor, Bool.xor_false, Option.some.injEq, Sl.ls.injEq, exists_eq', List.tail_cons, Bool.not_true, Bool.not_false, Nat.reduceAdd, dSeq, dIf, dTst, dBin, dVar, dTup, dNil, dCons, dLst, dC, dRet, dNext, dAsg, dFrz, hTup, hCons, hName, hNil, dSet, dPut, dIfE, dNotT, dAndT, dOrT, dAndV, dOrV, dCB, stl, val, vals, datL, WB, W1, W2, WL, ↓reduceIte, Bool.false_eq_true, backE, bFor, bLoop, bLast, dLc, dLcL, dForL, KP.gEq_unit, KP.gEq_unit0, KP.gEq_str, KP.gEq_int, KP.gIx_t0, KP.gIx_t1, KP.gIx_t2, KP.gLen_lst, KP.gLen_tup, KP.gAll_map_eq, gSorted2_lst_eq, gSorted2_tup_eq, gTuple_lst_eq, List.map_cons, List.map_nil, iSeq, dYes, wipeE, resto, frO, KP.gIn_tup_eq, KP.gIn_lst_eq, List.getElem?_cons_zero, List.getElem?_cons_succ, List.set_cons_zero, List.set_cons_succ, List.cons_append, List.nil_append, List.replicate, Nat.reduceSub, List.length_cons, List.length_nil, true_and, and_true, Bool.false_xor, dEnd, fin1, dFldSet, dFld, dMth, dSlice, dNoP, dPart, slotsOf, slotOf, dChain, gLe, gOrd, isLT, hl, g1]
        exact bd fun z => h1 z.1)
  have no : itD d = none → r_need_words c (fun C fs ρ => X C fs (TL.ownsOf 1 ρ)) (dEnd 1 Q) [.fr d, .un, .un] := fun e => by
    have w : wdue d = some .non := by unfold wdue; rw [e]
    have e2 : isLT d = false := by cases d <;> first | rfl | cases e
    refine ⟨rfl, rfl, d, rfl, ld, ?_⟩
    rw [e2]
    rcases h with ⟨z, _⟩ | ⟨y, z, h⟩
    · rw [w] at z; cases z
    · rw [w] at z
      cases z
      exact h
  cases d with
  | lst xs => exact seq xs (.inl rfl)
  | tup xs => exact seq xs (.inr rfl)
  | _ => exact no rfl
end Lk47
namespace Lk47
open PySem PySem.Spec PyProof.Rows L2 TL KP
open Lk46 (idle_kc idle_lc rangeD_zero downI downD_eq isNon_prt alR trimA trimT dcs idl norm_ok kpF_norm rules_ok)
noncomputable abbrev S_Keeper___init__ (c : Ca) : DSp := Lk46.S_Keeper___init__ c
noncomputable abbrev S_Keeper___len__ (c : Ca) : DSp := Lk46.S_Keeper___len__ c
theorem k_Keeper___init__ (c : Ca) : Keeps (S_Keeper___init__ c) 4 9 (r_Keeper___init__ c) := Lk46.k_Keeper___init__ c
theorem k_Keeper___len__ (c : Ca) : Keeps (S_Keeper___len__ c) 1 1 (Lk46.r_Keeper___len__ c) := Lk46.k_Keeper___len__ c
theorem strs_fine {N : Nat} : ∀ l : List Str, (∀ x ∈ l, Wd x) → FineL N (9 * l.length) 0 (l.map .str)
  | [], _ => FineL.nil
  | x :: l, h => (FineL.cons ((h x List.mem_cons_self).fine (w := 8) (by decide)) (strs_fine l fun z hz => h z (List.mem_cons_of_mem _ hz))).mono (by rw [List.length_cons]; omega) (Nat.le_refl _)
theorem ws_lk {d : D} {ws : List Str} (hd : d = .lst (ws.map .str) ∨ d = .tup (ws.map .str)) (hw : ∀ z ∈ ws, Wd z) (h3 : ws.length ≤ 3) : Lk d := by
  have f := strs_fine (N := topN) ws hw
  rcases hd with rfl | rfl
  · exact (Fine.lst f).mono (by omega) (by decide)
  · exact (Fine.tup f).mono (by omega) (by decide)
def S_all_views (c : Ca) : DSpX := fun args Q X => KP.S_all_views args Q ∨ ∃ d x, args = [.fr d] ∧ Lk d ∧ wdue d = some x ∧ X c.BadWord [("thing", x)] [.un]
def r_all_views (c : Ca) (XC : XCont) : DTS := (dSeq (dDrop ((dCallX 1 (S_need_words c) XC (dCons ((dFrz (dVar 0))) dNil))))
      (dRet ((dCall 1 S_views_of (dCons ((dCB gSorted2 (dCons ((dVar 0)) dNil))) dNil)))))
theorem k_all_views (c : Ca) : KeepsX (S_all_views c) 1 1 (r_all_views c) := by
  rintro args Q X h0 (⟨ws, d, rfl, hd, hw, hn, h1, h3, h⟩ | ⟨d, x, rfl, ld, e, h⟩)
  · refine ⟨rfl, rfl, d, rfl, ws_lk hd hw h3, .inl ⟨due_good hd hw hn h1 h3, ?_⟩⟩
    rcases hd with rfl | rfl
    · simp only [eq_self, decide_true, decide_false, Bool.xor_true, Bool.true_xor, Bool.xor_false, Option.some.injEq, Sl.ls.injEq, exists_eq', List.tail_cons, Bool.not_true, Bool.not_false, Nat.reduceAdd, dSeq, dIf, dTst, dBin, dVar, dTup, dNil, dCons, dLst, dC, dRet, dNext, dAsg, dFrz, hTup, hCons, hName, hNil, dSet, dPut, dIfE, dNotT, dAndT, dOrT, dAndV, dOrV, dCB, stl, val, vals, datL, WB, W1, W2, WL, ↓reduceIte, Bool.false_eq_true, backE, bFor, bLoop, bLast, dLc, dLcL, dForL, KP.gEq_unit, KP.gEq_unit0, KP.gEq_str, KP.gEq_int, KP.gIx_t0, KP.gIx_t1, KP.gIx_t2, KP.gLen_lst, KP.gLen_tup, KP.gAll_map_eq, gSorted2_lst_eq, gSorted2_tup_eq, gTuple_lst_eq, List.map_cons, List.map_nil, iSeq, dYes, wipeE, resto, frO, KP.gIn_tup_eq, KP.gIn_lst_eq, List.getElem?_cons_zero, List.getElem?_cons_succ, List.set_cons_zero, List.set_cons_succ, List.cons_append, List.nil_append, List.replicate, Nat.reduceSub, List.length_cons, List.length_nil, true_and, and_true, Bool.false_xor, dEnd, fin1, dFldSet, dFld, dMth, dSlice, dNoP, dPart, slotsOf, slotOf, dCall]
      exact ⟨by omega, rfl, srt ws, rfl, by rw [srt_len]; exact h3, h⟩
    · simp only [eq_self, decide_true, decide_false, Bool.xor_true, Bool.true_xor, Bool.xor_false, Option.some.injEq, Sl.ls.injEq, exists_eq', List.tail_cons, Bool.not_true, Bool.not_false, Nat.reduceAdd, dSeq, dIf, dTst, dBin, dVar, dTup, dNil, dCons, dLst, dC, dRet, dNext, dAsg, dFrz, hTup, hCons, hName, hNil, dSet, dPut, dIfE, dNotT, dAndT, dOrT, dAndV, dOrV, dCB, stl, val, vals, datL, WB, W1, W2, WL, ↓reduceIte, Bool.false_eq_true, backE, bFor, bLoop, bLast, dLc, dLcL, dForL, KP.gEq_unit, KP.gEq_unit0, KP.gEq_str, KP.gEq_int, KP.gIx_t0, KP.gIx_t1, KP.gIx_t2, KP.gLen_lst, KP.gLen_tup, KP.gAll_map_eq, gSorted2_lst_eq, gSorted2_tup_eq, gTuple_lst_eq, List.map_cons, List.map_nil, iSeq, dYes, wipeE, resto, frO, KP.gIn_tup_eq, KP.gIn_lst_eq, List.getElem?_cons_zero, List.getElem?_cons_succ, List.set_cons_zero, List.set_cons_succ, List.cons_append, List.nil_append, List.replicate, Nat.reduceSub, List.length_cons, List.length_nil, true_and, and_true, Bool.false_xor, dEnd, fin1, dFldSet, dFld, dMth, dSlice, dNoP, dPart, slotsOf, slotOf, dCall]
      exact ⟨by omega, rfl, srt ws, rfl, by rw [srt_len]; exact h3, h⟩
  · exact ⟨rfl, rfl, d, rfl, ld, .inr ⟨x, e, h⟩⟩
def S_table_of (c : Ca) (w : World) : DSpX := fun args Q X => KP.S_table_of c w args Q ∨ ∃ t d x, args = [.fr t, .fr d] ∧ Lk d ∧ wdue d = some x ∧ X c.BadWord [("thing", x)] [.un, .un]
def r_table_of (c : Ca) (w : World) (XC : XCont) : DTS := (dRet ((dTb w (iSeq ((dCallX 1 (S_all_views c) XC (dCons ((dFrz (dVar 1))) dNil)))) (hName 2) (dYes) ((dFrz (dVar 2))) ((dMth c.Keeper "decided" 2 (S_Keeper_decided c) ((dVar 0)) (dCons ((dFrz (dVar 2))) dNil))) [2])))
theorem k_table_of (c : Ca) (w : World) : KeepsX (S_table_of c w) 2 3 (r_table_of c w) := by
  rintro args Q X h0 (⟨t, ws, d, rfl, hd, ht, hw, hn, h1, h3, h⟩ | ⟨t, d, x, rfl, ld, e, h⟩)
  · have hl := vws_len (ws := srt ws) (by rw [srt_len]; exact h3)
    have key := table_loop (c := c) (w := w) (t := t) (d := d) (ρ0 := [.fr (kpD c t), .fr d, .un]) (Q := (dEnd 2 Q).rt) ht (vws (srt ws)) [] .un (vws_nd ((srt_perm ws).nodup_iff.mpr hn)) (by simp; omega) h
    refine ⟨rfl, rfl, .inl ⟨ws, d, rfl, hd, hw, hn, h1, h3, ?_⟩⟩
    exact key
  · exact ⟨rfl, rfl, .inr ⟨d, x, rfl, ld, e, h⟩⟩
def S_parted (c : Ca) : DSpX := fun args Q X => KP.S_parted c args Q ∨ ∃ t u d x, args = [.fr t, .fr u, .fr d] ∧ Lk d ∧ wdue d = some x ∧ X c.BadWord [("thing", x)] [.un, .un, .un]
def r_parted (c : Ca) (XC : XCont) : DTS := (dSeq (dFor (iSeq ((dCallX 1 (S_all_views c) XC (dCons ((dFrz (dVar 2))) dNil)))) (hName 3) (dIf ((dTst (dBin (gEq true) ((dCall 2 (S_choice c) (dCons ((dFrz (dVar 0))) (dCons ((dFrz (dVar 3))) dNil)))) ((dCall 2 (S_choice c) (dCons ((dFrz (dVar 1))) (dCons ((dFrz (dVar 3))) dNil))))))) (dRet ((dVar 3))) dNext))
      (dRet (dC .non)))
theorem k_parted (c : Ca) : KeepsX (S_parted c) 3 4 (r_parted c) := by
  rintro args Q X h0 (⟨t, u, ws, d, rfl, hd, ht, hu, hw, hn, h1, h3, h⟩ | ⟨t, u, d, x, rfl, ld, e, h⟩)
  · refine ⟨rfl, rfl, .inl ⟨ws, d, rfl, hd, hw, hn, h1, h3, ?_⟩⟩
    refine part_loop (c := c) ht hu (vws (srt ws)) .un fun o3 => ?_
    cases e : (vws (srt ws)).find? (unl t u) with
    | none => rw [e] at h; exact h
    | some v => rw [e] at h; exact h
  · exact ⟨rfl, rfl, .inr ⟨d, x, rfl, ld, e, h⟩⟩
def S_idle (c : Ca) : DSpX := fun args Q X => Lk46.S_idle c args Q ∨ ∃ t d x, args = [.fr t, .fr d] ∧ Lk d ∧ wdue d = some x ∧ X c.BadWord [("thing", x)] [.un, .un]
def r_idle (c : Ca) (XC : XCont) : DTS := (dSeq (dSet 2 2 (dKc (iSeq ((dCallX 1 (S_all_views c) XC (dCons ((dFrz (dVar 1))) dNil)))) (hName 3) (dYes) ((dMth c.Keeper "decided" 2 (S_Keeper_decided c) ((dVar 0)) (dCons ((dFrz (dVar 3))) dNil))) (dC (.bl true)) [3]))
      (dRet ((dLc (iRange1 (dCons ((dCB (gOLen c.Keeper (S_Keeper___len__ c)) (dCons ((dVar 0)) dNil))) dNil)) (hName 4) ((dTst (dInKd true ((dVar 4)) 2))) ((dFrz (dVar 4))) [4]))))
theorem k_idle (c : Ca) : KeepsX (S_idle c) 2 5 (r_idle c) := by
  rintro args Q X h0 (⟨t, ws, d, rfl, hd, ht, hw, hn, h1, h3, h⟩ | ⟨t, d, x, rfl, ld, e, h⟩)
  · refine ⟨rfl, rfl, .inl ⟨ws, d, rfl, hd, hw, hn, h1, h3, ?_⟩⟩
    refine idle_kc (ρ0 := [.fr (kpD c t), .fr d, .un, .un, .un]) ht (vws (srt ws)) [] .un (by have := vws_len (ws := srt ws) (by rw [srt_len]; exact h3); simp; omega) ?_
    rw [List.nil_append]
    refine ⟨by decide, ?_⟩
    show dRet ((dLc (iRange1 (dCons ((dCB (gOLen c.Keeper (S_Keeper___len__ c)) (dCons ((dVar 0)) dNil))) dNil)) (hName 4) ((dTst (dInKd true ((dVar 4)) 2))) ((dFrz (dVar 4))) [4])) (dEnd 2 Q) [.fr (kpD c t), .fr d, .rs (.kd (dcs ws t)), .un, .un]
    have hr := ht.rl
    have p62 : (2 : Int) ^ 62 = 4611686018427387904 := by decide
    have p63 : (2 : Int) ^ 63 = 9223372036854775808 := by decide
    refine ⟨rfl, t, rfl, (t.r.length : Nat), rfl, by omega, by omega, by omega, by omega, ?_⟩
    rw [show ((t.r.length : Nat) : Int).toNat = t.r.length from rfl, rangeD_zero]
    exact idle_lc (ρ0 := [.fr (kpD c t), .fr d, .rs (.kd (dcs ws t)), .un, .un]) (List.range t.r.length) [] .un (by simp; omega) h
  · exact ⟨rfl, rfl, .inr ⟨d, x, rfl, ld, e, h⟩⟩
def S_trimmed (c : Ca) : DSpX := fun args Q X => Lk46.S_trimmed c args Q ∨ ∃ t d x, args = [.fr t, .fr d] ∧ Lk d ∧ wdue d = some x ∧ X c.BadWord [("thing", x)] [.un, .un]
def r_trimmed (c : Ca) (XC : XCont) : DTS := (dSeq (dDrop ((dCallX 1 (S_need_words c) XC (dCons ((dFrz (dVar 1))) dNil))))
      (dSeq (dSet 2 2 ((dFrz (dVar 0))))
      (dSeq (dFor (iRange3 (dCons ((dBin gSub ((dCB (gOLen c.Keeper (S_Keeper___len__ c)) (dCons ((dVar 0)) dNil))) (dC (.int 1)))) (dCons ((dUn gNeg (dC (.int 1)))) (dCons ((dUn gNeg (dC (.int 1)))) dNil)))) (hName 3) (dSeq (dSet 2 4 ((dMake 2 c.Keeper 4 (S_Keeper___init__ c) (dCons ((dFld c.Keeper "own_name" ((dVar 2)))) (dCons ((dFld c.Keeper "own_wants" ((dVar 2)))) (dCons ((dBin gAdd ((dSlice ((dFld c.Keeper "own_rules" ((dVar 2)))) dNoP (dPart ((dVar 3))))) ((dSlice ((dFld c.Keeper "own_rules" ((dVar 2)))) (dPart ((dBin gAdd ((dVar 3)) (dC (.int 1))))) dNoP)))) dNil))))))
      (dIf ((dTst (dBin (gIsN false) ((dCallX 3 (S_parted c) XC (dCons ((dFrz (dVar 2))) (dCons ((dFrz (dVar 4))) (dCons ((dFrz (dVar 1))) dNil))))) (dC .non)))) (dSet 2 2 ((dFrz (dVar 4)))) dNext)))
      (dRet ((dVar 2))))))
noncomputable def bTrim (c : Ca) (XC : XCont) : DTS := (dSeq (dSet 2 4 ((dMake 2 c.Keeper 4 (S_Keeper___init__ c) (dCons ((dFld c.Keeper "own_name" ((dVar 2)))) (dCons ((dFld c.Keeper "own_wants" ((dVar 2)))) (dCons ((dBin gAdd ((dSlice ((dFld c.Keeper "own_rules" ((dVar 2)))) dNoP (dPart ((dVar 3))))) ((dSlice ((dFld c.Keeper "own_rules" ((dVar 2)))) (dPart ((dBin gAdd ((dVar 3)) (dC (.int 1))))) dNoP)))) dNil))))))
      (dIf ((dTst (dBin (gIsN false) ((dCallX 3 (S_parted c) XC (dCons ((dFrz (dVar 2))) (dCons ((dFrz (dVar 4))) (dCons ((dFrz (dVar 1))) dNil))))) (dC .non)))) (dSet 2 2 ((dFrz (dVar 4)))) dNext))
section
variable {c : Ca} {XC : XCont} {t : Tk} {E : DEnds} {k0 : Sl} {ws : List Str} {d : D}
theorem gAdd_tup {xs ys : List D} {P : Rs → Prop} : gAdd (.tup xs) (.tup ys) P = (xs.length + ys.length ≤ sizeLine ∧ P (.dat (.tup (xs ++ ys)))) := rfl
theorem trim_one (hd : d = .lst (ws.map .str) ∨ d = .tup (ws.map .str)) (hw : ∀ z ∈ ws, Wd z) (hn : ws.Nodup) (h1 : 1 ≤ ws.length) (h3 : ws.length ≤ 3) (ht : TkOk t) {x : Ru} {A B : List Ru} {o4 : Sl} (hl : A.length + B.length ≤ 7) (o1 : ∀ r ∈ A.reverse ++ x :: B, RuOk r) (o2 : ∀ r ∈ A.reverse ++ B, RuOk r)
    (h : ∀ o4, E.nx [k0, .fr d, .fr (kpD c ⟨t.tag, t.w, if alR t.w ws (A.reverse ++ x :: B) (A.reverse ++ B) = true then A.reverse ++ B else A.reverse ++ x :: B⟩), .fr (.int (A.length : Nat)), o4]) :
    bTrim c XC E [k0, .fr d, .fr (kpD c ⟨t.tag, t.w, A.reverse ++ x :: B⟩), .fr (.int (A.length : Nat)), o4] := by
  have e1 : ((((A.reverse ++ x :: B).map srtRu).map ruD).take A.length) = (A.reverse.map srtRu).map ruD := by
    rw [← List.map_take, ← List.map_take, List.take_left' (by rw [List.length_reverse])]
  have e2 : ((((A.reverse ++ x :: B).map srtRu).map ruD).drop (A.length + 1)) = (B.map srtRu).map ruD := by
    rw [← List.map_drop, ← List.map_drop, show A.reverse ++ x :: B = (A.reverse ++ [x]) ++ B by simp, List.drop_left' (by simp)]
  have e3 : ((A.reverse.map srtRu).map ruD ++ (B.map srtRu).map ruD) = (((A.reverse ++ B).map srtRu).map ruD) := by rw [List.map_append, List.map_append]
  have hl2 : (A.reverse ++ B).length ≤ 8 := by simp; omega
  have hl1 : (A.reverse ++ x :: B).length ≤ 8 := by simp; omega
  simp only [kpD] at h ⊢
  simp only [eq_self, decide_true, decide_false, Bool.xor_true, Bool.true_xor, Bool.xor_false, Option.some.injEq, Sl.ls.injEq, exists_eq', List.tail_cons, Bool.not_true, Bool.not_false, Nat.reduceAdd, dSeq, dIf, dTst, dBin, dVar, dTup, dNil, dCons, dLst, dC, dRet, dNext, dAsg, dFrz, hTup, hCons, hName, hNil, dSet, dPut, dIfE, dNotT, dAndT, dOrT, dAndV, dOrV, dCB, stl, val, vals, datL, WB, W1, W2, WL, ↓reduceIte, Bool.false_eq_true, backE, bFor, bLoop, bLast, dLc, dLcL, dForL, KP.gEq_unit, KP.gEq_unit0, KP.gEq_str, KP.gEq_int, KP.gIx_t0, KP.gIx_t1, KP.gIx_t2, KP.gLen_lst, KP.gLen_tup, KP.gAll_map_eq, gSorted2_lst_eq, gSorted2_tup_eq, gTuple_lst_eq, List.map_cons, List.map_nil, iSeq, dYes, wipeE, resto, frO, KP.gIn_tup_eq, KP.gIn_lst_eq, List.getElem?_cons_zero, List.getElem?_cons_succ, List.set_cons_zero, List.set_cons_succ, List.cons_append, List.nil_append, List.replicate, Nat.reduceSub, List.length_cons, List.length_nil, true_and, and_true, Bool.false_xor, dEnd, fin1, dFldSet, dFld, dMth, dSlice, dNoP, dPart, slotsOf, slotOf, bTrim, kp_n, kp_w, kp_r, kpR, kpW, gSlice, cut_none, cut_from1, gAdd_int, e1, e2, gAdd_tup, e3, dMake]
  refine ⟨sz (by rw [List.length_map, List.length_map, List.length_map, List.length_map, List.length_reverse]; omega), by decide, rfl, ⟨t.tag, srt t.w, (A.reverse ++ B).map srtRu⟩, _, _, rfl, .inr rfl, .inr rfl, norm_ok ht o2 hl2, rfl, _, _, rfl, ?_⟩
  rw [kpF_norm]
  simp only [eq_self, decide_true, decide_false, Bool.xor_true, Bool.true_xor, Bool.xor_false, Option.some.injEq, Sl.ls.injEq, exists_eq', List.tail_cons, Bool.not_true, Bool.not_false, Nat.reduceAdd, dSeq, dIf, dTst, dBin, dVar, dTup, dNil, dCons, dLst, dC, dRet, dNext, dAsg, dFrz, hTup, hCons, hName, hNil, dSet, dPut, dIfE, dNotT, dAndT, dOrT, dAndV, dOrV, dCB, stl, val, vals, datL, WB, W1, W2, WL, ↓reduceIte, Bool.false_eq_true, backE, bFor, bLoop, bLast, dLc, dLcL, dForL, KP.gEq_unit, KP.gEq_unit0, KP.gEq_str, KP.gEq_int, KP.gIx_t0, KP.gIx_t1, KP.gIx_t2, KP.gLen_lst, KP.gLen_tup, KP.gAll_map_eq, gSorted2_lst_eq, gSorted2_tup_eq, gTuple_lst_eq, List.map_cons, List.map_nil, iSeq, dYes, wipeE, resto, frO, KP.gIn_tup_eq, KP.gIn_lst_eq, List.getElem?_cons_zero, List.getElem?_cons_succ, List.set_cons_zero, List.set_cons_succ, List.cons_append, List.nil_append, List.replicate, Nat.reduceSub, List.length_cons, List.length_nil, true_and, and_true, Bool.false_xor, dEnd, fin1, dFldSet, dFld, dMth, dSlice, dNoP, dPart, slotsOf, slotOf, dCallX]
  refine ⟨rfl, .inl ⟨⟨t.tag, t.w, A.reverse ++ x :: B⟩, ⟨t.tag, t.w, A.reverse ++ B⟩, ws, d, rfl, hd, rules_ok ht o1 hl1, rules_ok ht o2 hl2, hw, hn, h1, h3, ?_⟩⟩
  simp only [eq_self, decide_true, decide_false, Bool.xor_true, Bool.true_xor, Bool.xor_false, Option.some.injEq, Sl.ls.injEq, exists_eq', List.tail_cons, Bool.not_true, Bool.not_false, Nat.reduceAdd, dSeq, dIf, dTst, dBin, dVar, dTup, dNil, dCons, dLst, dC, dRet, dNext, dAsg, dFrz, hTup, hCons, hName, hNil, dSet, dPut, dIfE, dNotT, dAndT, dOrT, dAndV, dOrV, dCB, stl, val, vals, datL, WB, W1, W2, WL, ↓reduceIte, Bool.false_eq_true, backE, bFor, bLoop, bLast, dLc, dLcL, dForL, KP.gEq_unit, KP.gEq_unit0, KP.gEq_str, KP.gEq_int, KP.gIx_t0, KP.gIx_t1, KP.gIx_t2, KP.gLen_lst, KP.gLen_tup, KP.gAll_map_eq, gSorted2_lst_eq, gSorted2_tup_eq, gTuple_lst_eq, List.map_cons, List.map_nil, iSeq, dYes, wipeE, resto, frO, KP.gIn_tup_eq, KP.gIn_lst_eq, List.getElem?_cons_zero, List.getElem?_cons_succ, List.set_cons_zero, List.set_cons_succ, List.cons_append, List.nil_append, List.replicate, Nat.reduceSub, List.length_cons, List.length_nil, true_and, and_true, Bool.false_xor, dEnd, fin1, dFldSet, dFld, dMth, dSlice, dNoP, dPart, slotsOf, slotOf, gIsN, isNon_prt]
  have ea : (List.find? (unl ⟨t.tag, t.w, A.reverse ++ x :: B⟩ ⟨t.tag, t.w, A.reverse ++ B⟩) (vws (srt ws))).isNone = alR t.w ws (A.reverse ++ x :: B) (A.reverse ++ B) := rfl
  rw [ea]
  cases e : alR t.w ws (A.reverse ++ x :: B) (A.reverse ++ B) with
  | true =>
    rw [e, if_pos rfl] at h
    simp only [eq_self, decide_true, decide_false, Bool.xor_true, Bool.true_xor, Bool.xor_false, Option.some.injEq, Sl.ls.injEq, exists_eq', List.tail_cons, Bool.not_true, Bool.not_false, Nat.reduceAdd, dSeq, dIf, dTst, dBin, dVar, dTup, dNil, dCons, dLst, dC, dRet, dNext, dAsg, dFrz, hTup, hCons, hName, hNil, dSet, dPut, dIfE, dNotT, dAndT, dOrT, dAndV, dOrV, dCB, stl, val, vals, datL, WB, W1, W2, WL, ↓reduceIte, Bool.false_eq_true, backE, bFor, bLoop, bLast, dLc, dLcL, dForL, KP.gEq_unit, KP.gEq_unit0, KP.gEq_str, KP.gEq_int, KP.gIx_t0, KP.gIx_t1, KP.gIx_t2, KP.gLen_lst, KP.gLen_tup, KP.gAll_map_eq, gSorted2_lst_eq, gSorted2_tup_eq, gTuple_lst_eq, List.map_cons, List.map_nil, iSeq, dYes, wipeE, resto, frO, KP.gIn_tup_eq, KP.gIn_lst_eq, List.getElem?_cons_zero, List.getElem?_cons_succ, List.set_cons_zero, List.set_cons_succ, List.cons_append, List.nil_append, List.replicate, Nat.reduceSub, List.length_cons, List.length_nil, true_and, and_true, Bool.false_xor, dEnd, fin1, dFldSet, dFld, dMth, dSlice, dNoP, dPart, slotsOf, slotOf]
    exact h _
  | false =>
    rw [e, if_neg Bool.false_ne_true] at h
    simp only [eq_self, decide_true, decide_false, Bool.xor_true, Bool.true_xor, Bool.xor_false, Option.some.injEq, Sl.ls.injEq, exists_eq', List.tail_cons, Bool.not_true, Bool.not_false, Nat.reduceAdd, dSeq, dIf, dTst, dBin, dVar, dTup, dNil, dCons, dLst, dC, dRet, dNext, dAsg, dFrz, hTup, hCons, hName, hNil, dSet, dPut, dIfE, dNotT, dAndT, dOrT, dAndV, dOrV, dCB, stl, val, vals, datL, WB, W1, W2, WL, ↓reduceIte, Bool.false_eq_true, backE, bFor, bLoop, bLast, dLc, dLcL, dForL, KP.gEq_unit, KP.gEq_unit0, KP.gEq_str, KP.gEq_int, KP.gIx_t0, KP.gIx_t1, KP.gIx_t2, KP.gLen_lst, KP.gLen_tup, KP.gAll_map_eq, gSorted2_lst_eq, gSorted2_tup_eq, gTuple_lst_eq, List.map_cons, List.map_nil, iSeq, dYes, wipeE, resto, frO, KP.gIn_tup_eq, KP.gIn_lst_eq, List.getElem?_cons_zero, List.getElem?_cons_succ, List.set_cons_zero, List.set_cons_succ, List.cons_append, List.nil_append, List.replicate, Nat.reduceSub, List.length_cons, List.length_nil, true_and, and_true, Bool.false_xor, dEnd, fin1, dFldSet, dFld, dMth, dSlice, dNoP, dPart, slotsOf, slotOf]
    exact h _
theorem trim_loop (hd : d = .lst (ws.map .str) ∨ d = .tup (ws.map .str)) (hw : ∀ z ∈ ws, Wd z) (hn : ws.Nodup) (h1 : 1 ≤ ws.length) (h3 : ws.length ≤ 3) (ht : TkOk t) : ∀ (A B : List Ru) (o3 o4 : Sl), A.length + B.length ≤ 8 → (∀ r ∈ A, RuOk r) → (∀ r ∈ B, RuOk r) →
    (∀ o3 o4, E.nx [k0, .fr d, .fr (kpD c ⟨t.tag, t.w, trimA (alR t.w ws) A B⟩), o3, o4]) →
    dForL (hName 3) (bTrim c XC) E (downI A.length) [k0, .fr d, .fr (kpD c ⟨t.tag, t.w, A.reverse ++ B⟩), o3, o4]
  | [], B, o3, o4, _, _, _, h => h o3 o4
  | x :: A, B, o3, o4, hl, hA, hB, h => by
    rw [List.length_cons] at hl
    have hA' : ∀ r ∈ A, RuOk r := fun r hr => hA r (List.mem_cons_of_mem _ hr)
    have hx : RuOk x := hA x (List.mem_cons_self ..)
    have hB' : ∀ r ∈ x :: B, RuOk r := fun r hr => (List.mem_cons.mp hr).elim (fun e => e ▸ hx) (hB r)
    have o1 : ∀ r ∈ A.reverse ++ x :: B, RuOk r := fun r hr => (List.mem_append.mp hr).elim (fun m => hA' r (List.mem_reverse.mp m)) (hB' r)
    have o2 : ∀ r ∈ A.reverse ++ B, RuOk r := fun r hr => (List.mem_append.mp hr).elim (fun m => hA' r (List.mem_reverse.mp m)) (hB r)
    have e0 : (x :: A).reverse ++ B = A.reverse ++ x :: B := by rw [List.reverse_cons, List.append_assoc]; rfl
    rw [e0]
    show bTrim c XC { nx := dForL (hName 3) (bTrim c XC) E (downI A.length), rt := E.rt, bk := E.nx, ct := dForL (hName 3) (bTrim c XC) E (downI A.length) } [k0, .fr d, .fr (kpD c ⟨t.tag, t.w, A.reverse ++ x :: B⟩), .fr (.int (A.length : Nat)), o4]
    refine trim_one hd hw hn h1 h3 ht (by omega) o1 o2 fun o4 => ?_
    unfold trimA at h
    by_cases e : alR t.w ws (A.reverse ++ x :: B) (A.reverse ++ B) = true
    · rw [if_pos e] at h ⊢
      exact trim_loop hd hw hn h1 h3 ht A B _ _ (by omega) hA' hB h
    · rw [if_neg e] at h ⊢
      exact trim_loop hd hw hn h1 h3 ht A (x :: B) _ _ (by rw [List.length_cons]; omega) hA' hB' h
end
theorem k_trimmed (c : Ca) : KeepsX (S_trimmed c) 2 5 (r_trimmed c) := by
  rintro args Q X h0 (⟨t, ws, d, rfl, hd, ht, hw, hn, h1, h3, h⟩ | ⟨t, d, x, rfl, ld, e, h⟩)
  · have hr := ht.rl
    have p62 : (2 : Int) ^ 62 = 4611686018427387904 := by decide
    have p63 : (2 : Int) ^ 63 = 9223372036854775808 := by decide
    refine ⟨rfl, rfl, d, rfl, ws_lk hd hw h3, .inl ⟨due_good hd hw hn h1 h3, ?_⟩⟩
    show dSeq (dFor (iRange3 (dCons ((dBin gSub ((dCB (gOLen c.Keeper (S_Keeper___len__ c)) (dCons ((dVar 0)) dNil))) (dC (.int 1)))) (dCons ((dUn gNeg (dC (.int 1)))) (dCons ((dUn gNeg (dC (.int 1)))) dNil)))) (hName 3) (bTrim c fun C fs ρ => X C fs (TL.ownsOf 2 ρ)))
        (dRet ((dVar 2))) (dEnd 2 Q) [.fr (kpD c t), .fr d, .fr (kpD c t), .un, .un]
    refine ⟨rfl, t, rfl, (t.r.length : Nat), rfl, by omega, by omega, trivial, rfl, ⟨by omega, by omega, by omega, by omega⟩, ?_⟩
    rw [show (((t.r.length : Nat) : Int) - 1 - -1).toNat = t.r.length by omega, downD_eq]
    have := trim_loop (c := c) (XC := fun C fs ρ => X C fs (TL.ownsOf 2 ρ)) (E := { nx := dRet (dVar 2) (dEnd 2 Q), rt := (dEnd 2 Q).rt, bk := (dEnd 2 Q).bk, ct := (dEnd 2 Q).ct }) (k0 := .fr (kpD c t)) hd hw hn h1 h3 ht t.r.reverse [] .un .un (by rw [List.length_reverse]; exact hr) (fun r hr => ht.r r (List.mem_reverse.mp hr)) (fun r hr => by cases hr) fun o3 o4 => h
    rw [List.reverse_reverse, List.append_nil, List.length_reverse] at this
    exact this
  · exact ⟨rfl, rfl, d, rfl, ld, .inr ⟨x, e, h⟩⟩
end Lk47
namespace Lk47
open PySem PySem.Spec PyProof.Rows L2 TL KP
theorem inV_int (y : Int) : ∀ ws : List Int, inV (.int y) (ws.map V.int) = decide (y ∈ ws)
  | [] => rfl
  | w :: ws => by
    have ih := inV_int y ws
    unfold inV at ih ⊢
    rw [List.map_cons, List.any_cons, ih]
    show ((w == y) || decide (y ∈ ws)) = _
    by_cases e : w = y
    · subst e; simp
    · have e2 : ¬ y = w := fun z => e z.symm
      rw [beq_eq_false_iff_ne.mpr e]
      simp [e2]
theorem gIn_ints {neg : Bool} {i : Int} {ks : List Int} {P : Rs → Prop} (h : P (.dat (.bl (neg ^^ decide (i ∈ ks))))) : gIn neg (.int i) (.lst (ks.map .int)) P := by
  unfold gIn
  show (match fvs (ks.map D.int) with | some bs => P (.dat (.bl (neg ^^ inV (.int i) bs))) | none => False)
  rw [fvs_ints]
  show P (.dat (.bl (neg ^^ inV (.int i) (ks.map V.int))))
  rw [inV_int]
  exact h
theorem in3 (n : Nat) : decide ((n : Int) ∈ [(1 : Int), 2, 3]) = decide (1 ≤ n ∧ n ≤ 3) := decide_eq_decide.mpr (by
  simp only [List.mem_cons, List.not_mem_nil, or_false]
  omega)
theorem in8 (n : Nat) : decide ((n : Int) ∈ [(1 : Int), 2, 3, 4, 5, 6, 7, 8]) = decide (1 ≤ n ∧ n ≤ 8) := decide_eq_decide.mpr (by
  simp only [List.mem_cons, List.not_mem_nil, or_false]
  omega)
def S__law_is_plain_word : DSp := Sp_is_word
def r__law_is_plain_word : DTS := (dSeq (dIf ((dOrT ((dNotT ((dTst ((dCB gIsi (dCons ((dVar 0)) (dCons ((dC (.ty "str"))) dNil)))))))) ((dTst (dBin (gIn true) ((dCB gLen (dCons ((dVar 0)) dNil))) ((dLst (dCons (dC (.int 1)) (dCons (dC (.int 2)) (dCons (dC (.int 3)) (dCons (dC (.int 4)) (dCons (dC (.int 5)) (dCons (dC (.int 6)) (dCons (dC (.int 7)) (dCons (dC (.int 8)) dNil))))))))))))))) (dRet (dC (.bl false))) dNext)
      (dRet ((dBin (gEq false) ((dLc (iStr ((dVar 0))) (hName 1) ((dTst (dBin (gIn true) ((dVar 1)) (dC (.str "abcdefghijklmnopqrstuvwxyz"))))) ((dFrz (dVar 1))) [1])) ((dLst dNil))))))
def tStr : DTT := (dNotT ((dTst ((dCB gIsi (dCons ((dVar 0)) (dCons ((dC (.ty "str"))) dNil)))))))
def t8 : DTT := ((dTst (dBin (gIn true) ((dCB gLen (dCons ((dVar 0)) dNil))) ((dLst (dCons (dC (.int 1)) (dCons (dC (.int 2)) (dCons (dC (.int 3)) (dCons (dC (.int 4)) (dCons (dC (.int 5)) (dCons (dC (.int 6)) (dCons (dC (.int 7)) (dCons (dC (.int 8)) dNil)))))))))))))
def isStr : D → Bool
  | .str _ => true
  | _ => false
theorem tStr_ok {d : D} {o : Sl} (hd : Lk d) {R : Bool → TL.Env → Prop} (h : R (!isStr d) [.fr d, o]) : tStr [.fr d, o] R := by
  have ok := hd.ok
  cases d <;> first | (cases ok; done) | skip
  all_goals exact ⟨rfl, by decide, h⟩
theorem t8_ok {x : Str} {o : Sl} (hl : x.length ≤ sizeLine) {R : Bool → TL.Env → Prop} (h : R (!decide (1 ≤ x.length ∧ x.length ≤ 8)) [.fr (.str x), o]) : t8 [.fr (.str x), o] R := by
  have key : gIn true (.int x.length) (.lst ([(1 : Int), 2, 3, 4, 5, 6, 7, 8].map .int)) fun r => WB (val [.fr (.str x), o] r) fun b => R b [.fr (.str x), o] := by
    refine gIn_ints ?_
    rw [in8, Bool.true_xor]
    exact h
  exact ⟨hl, sz (n := 8) (by decide), key⟩
theorem word_all {x : Str} (h : 1 ≤ x.length ∧ x.length ≤ 8) : isWord (.str x) = (badC x.cps.toList).isEmpty := by
  rw [badC_empty]
  show (decide (1 ≤ x.length) && decide (x.length ≤ 8) && _) = _
  rw [decide_eq_true h.1, decide_eq_true h.2]
  rfl
theorem word_not {x : Str} (h : ¬ (1 ≤ x.length ∧ x.length ≤ 8)) : isWord (.str x) = false := by
  show (decide (1 ≤ x.length) && decide (x.length ≤ 8) && _) = _
  rw [show (decide (1 ≤ x.length) && decide (x.length ≤ 8)) = false from Bool.eq_false_iff.mpr fun z => h (by
    rw [Bool.and_eq_true] at z
    exact ⟨of_decide_eq_true z.1, of_decide_eq_true z.2⟩)]
  rfl
def wTail : DTS := (dRet ((dBin (gEq false) ((dLc (iStr ((dVar 0))) (hName 1) ((dTst (dBin (gIn true) ((dVar 1)) (dC (.str "abcdefghijklmnopqrstuvwxyz"))))) ((dFrz (dVar 1))) [1])) ((dLst dNil)))))
theorem tail_ok {x : Str} {Q : Rs → List Sl → Prop} (hx : 1 ≤ x.length ∧ x.length ≤ 8) (h : Q (.dat (.bl (isWord (.str x)))) [.un]) : wTail (dEnd 1 Q) [.fr (.str x), .un] := by
  rw [word_all hx] at h
  refine word_loop2 x.cps.toList [] .un (by rw [Array.length_toList]; show 0 + x.length ≤ 8; omega) ⟨sz0, ?_⟩
  have h2 : Q (.dat (.bl (false ^^ ([] ++ badC x.cps.toList).isEmpty))) [.un] := by
    rw [Bool.false_xor]
    exact h
  exact h2
theorem ifOr3 {t u : DTT} {k rest : DTS} {E : DEnds} {ρ ρ1 ρ2 : TL.Env} {b1 b2 : Bool} (h1 : ∀ R : Bool → TL.Env → Prop, R b1 ρ1 → t ρ R) (h2 : b1 = false → ∀ R : Bool → TL.Env → Prop, R b2 ρ2 → u ρ1 R) (ht : b1 = true → k { nx := rest E, rt := E.rt, bk := E.bk, ct := E.ct } ρ1) (ht2 : b1 = false → b2 = true → k { nx := rest E, rt := E.rt, bk := E.bk, ct := E.ct } ρ2) (hf : b1 = false → b2 = false → rest E ρ2) :
    dSeq (dIf (dOrT t u) k dNext) rest E ρ := ifOr2 h1 h2 ht ht2 hf
theorem plain_eq : r__law_is_plain_word = dSeq (dIf (dOrT tStr t8) (dRet (dC (.bl false))) dNext) wTail := rfl
theorem k__law_is_plain_word : Keeps S__law_is_plain_word 1 2 r__law_is_plain_word := by
  rintro args Q h0 ⟨d, rfl, hd, h⟩
  clear h0
  rw [plain_eq]
  show dSeq (dIf (dOrT tStr t8) (dRet (dC (.bl false))) dNext) wTail (dEnd 1 Q) [.fr d, .un]
  have no : isStr d = false → isWord d = false → dSeq (dIf (dOrT tStr t8) (dRet (dC (.bl false))) dNext) wTail (dEnd 1 Q) [.fr d, .un] := fun e w => by
    rw [w] at h
    exact ifOr3 (ρ1 := [.fr d, .un]) (ρ2 := []) (b1 := true) (b2 := true) (fun R hR => tStr_ok hd (by rw [e]; exact hR)) (fun z => nomatch z) (fun _ => h) (fun z => nomatch z) fun z => nomatch z
  cases d with
  | str x =>
    have hl := lk_len hd
    by_cases hx : 1 ≤ x.length ∧ x.length ≤ 8
    · exact ifOr3 (ρ1 := [.fr (.str x), .un]) (ρ2 := [.fr (.str x), .un]) (b1 := false) (b2 := false) (fun R hR => tStr_ok hd hR) (fun _ R hR => t8_ok hl (by rw [decide_eq_true hx]; exact hR)) (fun z => nomatch z) (fun _ z => nomatch z) fun _ _ => tail_ok hx h
    · rw [word_not hx] at h
      exact ifOr3 (ρ1 := [.fr (.str x), .un]) (ρ2 := [.fr (.str x), .un]) (b1 := false) (b2 := true) (fun R hR => tStr_ok hd hR) (fun _ R hR => t8_ok hl (by rw [decide_eq_false hx]; exact hR)) (fun z => nomatch z) (fun _ _ => h) fun _ z => nomatch z
  | _ => exact no rfl rfl
def S__law_due : DSp := fun args Q => ∃ d, args = [.fr d] ∧ Lk d ∧ Q (.nw (.ls (dueL d))) [.un]
def r__law_due : DTS := (dSeq (dIf ((dOrT ((dNotT ((dTst ((dCB gIsi (dCons ((dVar 0)) (dCons ((dTup (dCons ((dC (.ty "list"))) (dCons ((dC (.ty "tuple"))) dNil)))) dNil)))))))) ((dTst (dBin (gIn true) ((dCB gLen (dCons ((dVar 0)) dNil))) ((dLst (dCons (dC (.int 1)) (dCons (dC (.int 2)) (dCons (dC (.int 3)) dNil)))))))))) (dRet ((dLst (dCons (dC .non) dNil)))) dNext)
      (dSeq (dFor (iEnumB (dCons ((dFrz (dVar 0))) dNil)) (hTup 2 (hCons (hName 1) (hCons (hName 2) hNil))) (dIf ((dOrT ((dNotT ((dTst ((dCall 1 S__law_is_plain_word (dCons ((dFrz (dVar 2))) dNil))))))) ((dTst (dBin (gIn false) ((dVar 2)) ((dSlice ((dCB gList (dCons ((dVar 0)) dNil))) dNoP (dPart ((dVar 1)))))))))) (dRet ((dLst (dCons ((dFrz (dVar 2))) dNil)))) dNext))
      (dRet ((dLst dNil)))))
def tLT : DTT := (dNotT ((dTst ((dCB gIsi (dCons ((dVar 0)) (dCons ((dTup (dCons ((dC (.ty "list"))) (dCons ((dC (.ty "tuple"))) dNil)))) dNil)))))))
def t3 : DTT := ((dTst (dBin (gIn true) ((dCB gLen (dCons ((dVar 0)) dNil))) ((dLst (dCons (dC (.int 1)) (dCons (dC (.int 2)) (dCons (dC (.int 3)) dNil))))))))
def tQ : DTT := ((dTst (dBin (gIn false) ((dVar 2)) ((dSlice ((dCB gList (dCons ((dVar 0)) dNil))) dNoP (dPart ((dVar 1))))))))
def tPl : DTT := (dNotT ((dTst ((dCall 1 S__law_is_plain_word (dCons ((dFrz (dVar 2))) dNil))))))
def bDue : DTS := (dIf (dOrT tPl tQ) (dRet ((dLst (dCons ((dFrz (dVar 2))) dNil)))) dNext)
def dTail : DTS := (dSeq (dFor (iEnumB (dCons ((dFrz (dVar 0))) dNil)) gNd bDue) (dRet ((dLst dNil))))
theorem due_eq : r__law_due = dSeq (dIf (dOrT tLT t3) (dRet ((dLst (dCons (dC .non) dNil)))) dNext) dTail := rfl
section
variable {E : DEnds} {d : D}
theorem tLT_ok {o1 o2 : Sl} (hd : Lk d) {R : Bool → TL.Env → Prop} (h : R (!isLT d) [.fr d, o1, o2]) : tLT [.fr d, o1, o2] R := by
  have ok := hd.ok
  cases d <;> first | (cases ok; done) | skip
  all_goals exact ⟨sz (by decide), rfl, by decide, by decide, h⟩
theorem t3_ok {o1 o2 : Sl} {xs : List D} (e : d = .lst xs ∨ d = .tup xs) {R : Bool → TL.Env → Prop} (h : R (!decide (1 ≤ xs.length ∧ xs.length ≤ 3)) [.fr d, o1, o2]) : t3 [.fr d, o1, o2] R := by
  have key : gIn true (.int xs.length) (.lst ([(1 : Int), 2, 3].map .int)) fun r => WB (val [.fr d, o1, o2] r) fun b => R b [.fr d, o1, o2] := by
    refine gIn_ints ?_
    rw [in3, Bool.true_xor]
    exact h
  rcases e with rfl | rfl <;> exact ⟨sz (n := 3) (by decide), key⟩
theorem tPl_ok {x : D} {s0 s1 : Sl} (lx : Lk x) {R : Bool → TL.Env → Prop} (h : R (!isWord x) [s0, s1, .fr x]) : tPl [s0, s1, .fr x] R := by
  refine ⟨rfl, rfl, x, rfl, lx, ?_⟩
  exact h
theorem tQ_ok {R : Bool → TL.Env → Prop} {pre : List Str} {rest : List D} {y : Str} (hd : d = .lst (pre.map .str ++ rest) ∨ d = .tup (pre.map .str ++ rest)) (h : R (decide (y ∈ pre)) [.fr d, .fr (.int pre.length), .fr (.str y)]) :
    tQ [.fr d, .fr (.int pre.length), .fr (.str y)] R := by
  unfold tQ
  rcases hd with rfl | rfl <;> (
    simp only [eq_self, decide_true, decide_false, Bool.xor_true, Bool.true_xor, Bool.xor_false, Option.some.injEq, Sl.ls.injEq, exists_eq', List.tail_cons, Bool.not_true, Bool.not_false, Nat.reduceAdd, dSeq, dIf, dTst, dBin, dVar, dTup, dNil, dCons, dLst, dC, dRet, dNext, dAsg, dFrz, hTup, hCons, hName, hNil, dSet, dPut, dIfE, dNotT, dAndT, dOrT, dAndV, dOrV, dCB, stl, val, vals, datL, WB, W1, W2, WL, ↓reduceIte, Bool.false_eq_true, backE, bFor, bLoop, bLast, dLc, dLcL, dForL, KP.gEq_unit, KP.gEq_unit0, KP.gEq_str, KP.gEq_int, KP.gIx_t0, KP.gIx_t1, KP.gIx_t2, KP.gLen_lst, KP.gLen_tup, KP.gAll_map_eq, gSorted2_lst_eq, gSorted2_tup_eq, gTuple_lst_eq, List.map_cons, List.map_nil, iSeq, dYes, wipeE, resto, frO, KP.gIn_tup_eq, KP.gIn_lst_eq, List.getElem?_cons_zero, List.getElem?_cons_succ, List.set_cons_zero, List.set_cons_succ, List.cons_append, List.nil_append, List.replicate, Nat.reduceSub, List.length_cons, List.length_nil, true_and, and_true, Bool.false_xor, dEnd, fin1, dFldSet, dFld, dMth, dSlice, dNoP, dPart, slotsOf, slotOf, gList, gSlice, cut_pre]
    exact h)
theorem due_good1 {pre : List Str} {rest : List D} {y : Str} (hd : d = .lst (pre.map .str ++ rest) ∨ d = .tup (pre.map .str ++ rest)) (ly : Lk (.str y)) (h1 : isWord (.str y) = true) (h2 : y ∉ pre) (h : E.nx [.fr d, .fr (.int pre.length), .fr (.str y)]) :
    bDue E [.fr d, .fr (.int pre.length), .fr (.str y)] :=
  ifOr2 (ρ1 := [.fr d, .fr (.int pre.length), .fr (.str y)]) (b1 := false) (b2 := false) (fun R hR => tPl_ok ly (by rw [h1]; exact hR)) (fun _ R hR => tQ_ok hd (by rw [decide_eq_false h2]; exact hR)) (fun z => nomatch z) (fun _ z => nomatch z) fun _ _ => h
theorem due_bad1 {pre : List Str} {rest : List D} {x : D} (hd : d = .lst (pre.map .str ++ rest) ∨ d = .tup (pre.map .str ++ rest)) (lx : Lk x) (hx : ¬ goodW pre x) (h : E.rt (.nw (.ls [x])) [.fr d, .fr (.int pre.length), .fr x]) :
    bDue E [.fr d, .fr (.int pre.length), .fr x] := by
  have h' : dRet ((dLst (dCons ((dFrz (dVar 2))) dNil))) E [.fr d, .fr (.int pre.length), .fr x] := ⟨sz (n := 1) (by decide), h⟩
  cases e : isWord x with
  | false => exact ifOr2 (ρ1 := [.fr d, .fr (.int pre.length), .fr x]) (ρ2 := []) (b1 := true) (b2 := true) (fun R hR => tPl_ok lx (by rw [e]; exact hR)) (fun z => nomatch z) (fun _ => h') (fun z => nomatch z) fun z => nomatch z
  | true =>
    cases x with
    | str y =>
      have hy : y ∈ pre := Classical.byContradiction fun z => hx ⟨y, rfl, e, z⟩
      exact ifOr2 (ρ1 := [.fr d, .fr (.int pre.length), .fr (.str y)]) (ρ2 := [.fr d, .fr (.int pre.length), .fr (.str y)]) (b1 := false) (b2 := true) (fun R hR => tPl_ok lx (by rw [e]; exact hR)) (fun _ R hR => tQ_ok hd (by rw [decide_eq_true hy]; exact hR)) (fun z => nomatch z) (fun _ _ => h') fun _ z => nomatch z
    | _ => cases e
theorem due_loop : ∀ (rest : List D) (pre : List Str) (o1 o2 : Sl), (d = .lst (pre.map .str ++ rest) ∨ d = .tup (pre.map .str ++ rest)) → (∀ x ∈ rest, Lk x) → (fb pre rest = none → ∀ o1 o2, E.nx [.fr d, o1, o2]) → (∀ x, fb pre rest = some x → ∀ o1 o2, E.rt (.nw (.ls [x])) [.fr d, o1, o2]) →
    dForL gNd bDue E ((rest.zipIdx pre.length).map fun p => .tup [.int p.2, p.1]) [.fr d, o1, o2]
  | [], pre, o1, o2, _, _, hn, _ => hn rfl o1 o2
  | x :: rest, pre, o1, o2, hd, lk, hn, hs => by
    refine ⟨rfl, rfl, ?_⟩
    by_cases g : goodW pre x
    · obtain ⟨y, rfl, h1, h2⟩ := g
      rw [fb_good h1 h2] at hn hs
      refine due_good1 hd (lk _ List.mem_cons_self) h1 h2 ?_
      have ih := due_loop rest (pre ++ [y]) (.fr (.int pre.length)) (.fr (.str y)) (by rw [List.map_append, List.append_assoc]; exact hd) (fun z hz => lk z (List.mem_cons_of_mem _ hz)) hn hs
      rw [List.length_append, List.length_singleton] at ih
      exact ih
    · rw [fb_bad g] at hs
      exact due_bad1 hd (lk _ List.mem_cons_self) g (hs x rfl _ _)
end
theorem k__law_due : Keeps S__law_due 1 3 r__law_due := by
  rintro args Q h0 ⟨d, rfl, ld, h⟩
  clear h0
  rw [due_eq]
  show dSeq (dIf (dOrT tLT t3) (dRet ((dLst (dCons (dC .non) dNil)))) dNext) dTail (dEnd 1 Q) [.fr d, .un, .un]
  have non : wdue d = some .non → dRet ((dLst (dCons (dC .non) dNil))) { nx := dTail (dEnd 1 Q), rt := (dEnd 1 Q).rt, bk := (dEnd 1 Q).bk, ct := (dEnd 1 Q).ct } [.fr d, .un, .un] := fun w => by
    have e : dueL d = [.non] := by unfold dueL; rw [w]
    rw [e] at h
    exact ⟨sz (n := 1) (by decide), h⟩
  have seq : ∀ xs : List D, (d = .lst xs ∨ d = .tup xs) → dSeq (dIf (dOrT tLT t3) (dRet ((dLst (dCons (dC .non) dNil)))) dNext) dTail (dEnd 1 Q) [.fr d, .un, .un] := fun xs e => by
    have l : isLT d = true := by rcases e with rfl | rfl <;> rfl
    by_cases hx : 1 ≤ xs.length ∧ xs.length ≤ 3
    · have w : wdue d = fb [] xs := by
        have k : (if 1 ≤ xs.length ∧ xs.length ≤ 3 then fb [] xs else some .non) = fb [] xs := if_pos hx
        rcases e with rfl | rfl <;> exact k
      refine ifOr3 (ρ1 := [.fr d, .un, .un]) (ρ2 := [.fr d, .un, .un]) (b1 := false) (b2 := false) (fun R hR => tLT_ok ld (by rw [l]; exact hR)) (fun _ R hR => t3_ok e (by rw [decide_eq_true hx]; exact hR)) (fun z => nomatch z) (fun _ z => nomatch z) fun _ _ => ?_
      have key : dForL gNd bDue { nx := dRet ((dLst dNil)) (dEnd 1 Q), rt := (dEnd 1 Q).rt, bk := (dEnd 1 Q).bk, ct := (dEnd 1 Q).ct } (enumD xs) [.fr d, .un, .un] := by
        refine due_loop xs [] .un .un e (items_lk ld e) (fun z o1 o2 => ?_) fun x z o1 o2 => ?_
        · have e : dueL d = [] := by unfold dueL; rw [w, z]
          rw [e] at h
          exact ⟨sz0, h⟩
        · have e : dueL d = [x] := by unfold dueL; rw [w, z]
          rw [e] at h
          exact h
      rcases e with rfl | rfl <;> exact key
    · have w : wdue d = some .non := by
        have k : (if 1 ≤ xs.length ∧ xs.length ≤ 3 then fb [] xs else some .non) = some .non := if_neg hx
        rcases e with rfl | rfl <;> exact k
      exact ifOr3 (ρ1 := [.fr d, .un, .un]) (ρ2 := [.fr d, .un, .un]) (b1 := false) (b2 := true) (fun R hR => tLT_ok ld (by rw [l]; exact hR)) (fun _ R hR => t3_ok e (by rw [decide_eq_false hx]; exact hR)) (fun z => nomatch z) (fun _ _ => non w) fun _ z => nomatch z
  have no : isLT d = false → wdue d = some .non → dSeq (dIf (dOrT tLT t3) (dRet ((dLst (dCons (dC .non) dNil)))) dNext) dTail (dEnd 1 Q) [.fr d, .un, .un] := fun e w =>
    ifOr3 (ρ1 := [.fr d, .un, .un]) (ρ2 := []) (b1 := true) (b2 := true) (fun R hR => tLT_ok ld (by rw [e]; exact hR)) (fun z => nomatch z) (fun _ => non w) (fun z => nomatch z) fun z => nomatch z
  cases d with
  | lst xs => exact seq xs (.inl rfl)
  | tup xs => exact seq xs (.inr rfl)
  | _ => exact no rfl rfl
def S__law_refusal (c : Ca) : RSp := fun sl Qd => (sl = .fr .non ∧ Qd (.lst [])) ∨ ∃ x, sl = .rs (.ex c.BadWord [("thing", x)]) ∧ Qd (.lst [x])
def r__law_refusal (c : Ca) : DTS := (dSeq (dIf ((dTst (dIsNX false 1))) (dRet (dFrz (dLst dNil))) dNext)
      (dRet (dFrz (dIfE ((dTst ((dIsX (fun C b => (C = c.BadWord ∧ b = true)) 1)))) ((dLst (dCons ((dXg (fun C => C = c.BadWord) "thing" 1)) dNil))) ((dLst (dCons (dC (.str "other")) dNil)))))))
theorem k__law_refusal (c : Ca) : KeepsR (S__law_refusal c) 3 (r__law_refusal c) := by
  rintro sl Qd (⟨rfl, h⟩ | ⟨x, rfl, h⟩)
  · exact ⟨sz0, _, rfl, h⟩
  · exact ⟨true, ⟨rfl, rfl⟩, rfl, sz (n := 1) (by decide), _, rfl, h⟩
end Lk47
namespace CM
open PySem PySem.Spec PyProof.Rows L2 TL KP
abbrev Ch := Nat × Str × Str
def chD (x : Ch) : D := .tup [.int x.1, .str x.2.1, .str x.2.2]
inductive Th where
  | unb | gon
  | alive (g : Bool) (w : Str) (hs : List Str)
def Th.tag : Th → Str
  | .unb => "unborn"
  | .gon => "gone"
  | .alive g _ _ => if g = true then ("going" : Str) else "there"
def thg : Th → D
  | .unb => .tup [.str "unborn"]
  | .gon => .tup [.str "gone"]
  | .alive g w hs => .tup [.str (Th.tag (.alive g w hs)), .str w, .tup (hs.map .str)]
abbrev Sc := Th × List Ch
def scD (s : Sc) : D := .tup [thg s.1, .tup (s.2.map chD)]
structure Vg where
  th : Option (Str × Bool × Bool)
  ow : Option (Nat × Str)
  ot : Bool
  st : Nat
def ogD : Option (Nat × Str) → D
  | none => .tup []
  | some (n, w) => .tup [.int n, .str w]
def vgD (v : Vg) : D := .tup [thD v.th, ogD v.ow, .bl v.ot, .int v.st]
def Vg.vw (v : Vg) : Vw := ⟨v.th, v.ow.map (·.2), v.ot, decide (v.st ≠ 0)⟩
def isAlive : Th → Bool
  | .alive _ _ _ => true
  | _ => false
def wOwner (cs : List Ch) (n : Str) : List Ch := cs.filter fun c => decide (c.2.1 = n)
def wNumber (cs : List Ch) (k : Nat) : List Ch := cs.filter fun c => decide (c.1 = k)
def wout (cs : List Ch) (k : Nat) : List Ch := cs.filter fun c => !decide (c.1 = k)
def chg (cs : List Ch) (k : Nat) (o l : Str) : List Ch := cs.map fun c => if decide (c.1 = k) = true then (k, o, l) else c
def thPart (n : Str) : Th → Option (Str × Bool × Bool)
  | .alive g w hs => some (w, g, decide (n ∈ hs))
  | _ => none
def others (cs : List Ch) (n : Str) : List Ch := cs.filter fun c => !decide (c.2.1 = ("" : Str)) && !decide (c.2.1 = n)
def ended (w : Str) (hs : List Str) : Th := if hs.isEmpty = true then .gon else .alive true w hs
def lostBy (before behind : Th) (cs : List Ch) : List Str := if (match behind, before with | .gon, .gon => false | .gon, _ => !(cs.filter fun c => !decide (c.2.1 = ("" : Str))).isEmpty | _, _ => false) = true then [("lost" : Str)] else []
def birthIlls (s : Sc) (n : Str) : List Str := (if isAlive s.1 = true then [] else [("orphan" : Str)]) ++ if (wOwner s.2 n).isEmpty = true then [] else [("twice" : Str)]
def wished (s : Sc) (w : Str) : Sc := (.alive false w (match s.1 with | .alive false _ hs => hs | _ => []), s.2)
def marked (s : Sc) (n : Str) (k : Nat) : Sc × List Str := match (wNumber s.2 k).filter fun c => !decide (c.2.1 = n) with
  | [] => (s, [])
  | c :: _ => ((s.1, chg s.2 k n c.2.2), birthIlls s n ++ if c.2.1 = ("" : Str) then [] else [("robbed" : Str)])
def cleared (s : Sc) (n : Str) (k : Nat) : Sc × List Str := ((s.1, wout s.2 k), ((wNumber s.2 k).filter fun c => !decide (c.2.1 = ("" : Str)) && !decide (c.2.1 = n)).map fun _ => ("robbed" : Str))
def ownedChild (cs : List Ch) (n : Str) : Option (Nat × Str) → List Ch
  | some (k, _) => (wNumber cs k).filter fun c => decide (c.2.1 = n)
  | none => []
def released (s : Sc) (n : Str) : Sc × List Str := match s.1 with
  | .alive g w hs => if n ∈ hs then
      let behind := if g = true then ended w (hs.filter fun x => !decide (x = n)) else .alive false w (hs.filter fun x => !decide (x = n))
      ((behind, s.2), lostBy s.1 behind s.2)
    else (s, [])
  | _ => (s, [])
noncomputable def heldS (s : Sc) (n : Str) : Sc := match s.1 with
  | .alive false w hs => if n ∈ hs then s else (.alive false w (srt (hs ++ [n])), s.2)
  | _ => s
def amended (cs : List Ch) (n word : Str) (seen : Option (Str × Bool × Bool)) (own : Option (Nat × Str)) : List Ch :=
  if (ownedChild cs n own).isEmpty = true then cs else match own with
    | none => cs
    | some (k, _) => if word = "correct" then (match seen with | none => cs | some (w, _, _) => chg cs k n w) else wout cs k
end CM
namespace CM
open PySem PySem.Spec PyProof.Rows L2 TL KP
theorem s1 : (1 : Nat) ≤ sizeLine := sz (Nat.le_of_ble_eq_true rfl)
theorem s2 : (2 : Nat) ≤ sizeLine := sz (Nat.le_of_ble_eq_true rfl)
theorem s3 : (3 : Nat) ≤ sizeLine := sz (Nat.le_of_ble_eq_true rfl)
theorem s4 : (4 : Nat) ≤ sizeLine := sz (Nat.le_of_ble_eq_true rfl)
def S_thing_part : DSp := fun args Q => ∃ (t : Th) (n : Str), args = [.fr (thg t), .fr (.str n)] ∧ Q (.dat (thD (thPart n t))) [.un, .un]
end CM
namespace CM
open PySem PySem.Spec PyProof.Rows L2 TL KP
noncomputable def pt3 : DTS := (dRet ((dTup (dCons ((dCall 2 S_thing_part (dCons ((dFrz (dVar 2))) (dCons ((dFrz (dVar 1))) dNil)))) (dCons ((dIfE ((dTst (dBin (gEq true) ((dVar 4)) ((dLst dNil))))) ((dUn gTwo ((dBin gIx ((dVar 4)) (dC (.int 0)))))) ((dTup dNil)))) (dCons ((dBin (gEq true) ((dVar 6)) ((dLst dNil)))) (dCons ((dIfE ((dTst (dBin (gEq true) ((dVar 5)) ((dLst dNil))))) ((dBin gIx ((dBin gIx ((dVar 5)) (dC (.int 0)))) (dC (.int 0)))) (dC (.int 0)))) dNil)))))))
noncomputable def pt2 : DTS := dSeq (dSet 2 6 (dLc (iSeq ((dFrz (dVar 3)))) (hName 7) ((dTst (dBin (gIn true) ((dBin gIx ((dVar 7)) (dC (.int 1)))) ((dTup (dCons ((dC (.str ""))) (dCons ((dFrz (dVar 1))) dNil))))))) ((dFrz (dVar 7))) [7])) (pt3)
end CM
namespace CM
open PySem PySem.Spec PyProof.Rows L2 TL
def cn : Nat → D → Bool
  | _, .non => true
  | _, .int _ => true
  | _, .str x => PyData.strOk x
  | n + 1, .tup ds => ds.all fun d => cn n d
  | n + 1, .lst ds => ds.all fun d => cn n d
  | _, _ => false
end CM
namespace CM
open PySem PySem.Spec PyProof.Rows L2 TL KP
structure ThOk (t : Th) : Prop where
  al : ∀ g w hs, t = .alive g w hs → Wd w ∧ ∀ z ∈ hs, Wd z
end CM
namespace CM
end CM
namespace CM
end CM
namespace CM
open PySem PySem.Spec PyProof.Rows L2 TL KP
section
variable {s : Sc} {num : Nat} {n z : Str} {more : List Str} {v : Vg} {E : DEnds} {s11 s12 : Sl} {Q : Rs → List Sl → Prop}
def env (s : Sc) (num : Nat) (n z : Str) (more : List Str) (v : Vg) (s11 s12 : Sl) : TL.Env := [.fr (scD s), .fr (.int num), .fr (.str n), .fr (.tup (.str z :: more.map .str)), .fr (vgD v), .fr (thg s.1), .fr (.tup (s.2.map chD)), .fr (thD v.th), .fr (ogD v.ow), .fr (.bl v.ot), .fr (.int v.st), s11, s12]
noncomputable def R7 (s : Sc) (num : Nat) (n z : Str) (v : Vg) : Sc × Nat × List Str := if z = "correct" ∨ z = "strike" then ((s.1, amended s.2 n z v.th v.ow), num, []) else (s, num, [])
noncomputable def R6 (s : Sc) (num : Nat) (n z : Str) (more : List Str) (v : Vg) : Sc × Nat × List Str := if z = "turn" then (match more with | y :: _ => (if s.1.tag = "there" then wished s y else s, num, []) | [] => (s, num, [])) else R7 s num n z v
noncomputable def R5 (s : Sc) (num : Nat) (n z : Str) (more : List Str) (v : Vg) : Sc × Nat × List Str := if z = "hold" then (heldS s n, num, []) else R6 s num n z more v
noncomputable def R4 (s : Sc) (num : Nat) (n z : Str) (more : List Str) (v : Vg) : Sc × Nat × List Str := if z = "release" then ((released s n).1, num, (released s n).2) else R5 s num n z more v
noncomputable def R3 (s : Sc) (num : Nat) (n z : Str) (more : List Str) (v : Vg) : Sc × Nat × List Str := if z = "clear" then ((cleared s n v.st).1, num, (cleared s n v.st).2) else R4 s num n z more v
noncomputable def R2 (s : Sc) (num : Nat) (n z : Str) (more : List Str) (v : Vg) : Sc × Nat × List Str := if z = "mark" then ((marked s n v.st).1, num, (marked s n v.st).2) else R3 s num n z more v
end
end CM
namespace CM
open PySem PySem.Spec PyProof.Rows L2 TL KP
def S_own_conditions : DSp := fun args Q => ∃ t o, args = [.fr (thD t), .fr (ogD o)] ∧ Q (.nw (.ls ((knO t (o.map (·.2))).map .str))) [.un, .un]
def r_own_conditions : DTS := (dSeq (dIf ((dTst (dBin (gEq false) ((dVar 1)) ((dTup dNil))))) (dRet ((dLst (dCons (dC (.str "bare")) dNil)))) dNext)
      (dRet ((dLst (dCons (dC (.str "child")) (dCons ((dIfE ((dAndT ((dTst (dBin (gEq true) ((dVar 0)) ((dTup dNil))))) ((dTst (dBin (gEq false) ((dBin gIx ((dVar 1)) (dC (.int 1)))) ((dBin gIx ((dVar 0)) (dC (.int 0))))))))) (dC (.str "right")) (dC (.str "wrong")))) dNil))))))
theorem k_own_conditions : Keeps S_own_conditions 2 2 r_own_conditions := by
  rintro args Q h0 ⟨t, o, rfl, h⟩
  clear h0
  unfold r_own_conditions
  cases o with
  | none =>
    cases t with
    | none => exact ⟨sz0, s1, h⟩
    | some p => exact ⟨sz0, s1, h⟩
  | some y =>
    obtain ⟨k, y⟩ := y
    cases t with
    | none =>
      refine ⟨sz0, sz0, ?_⟩
      simp only [Option.map, knO, Bool.false_eq_true, if_false] at h
      exact ⟨s2, h⟩
    | some p =>
      obtain ⟨x, g, hh⟩ := p
      simp only [Option.map, knO] at h
      simp only [ogD, thD]
      simp only [eq_self, decide_true, decide_false, Bool.xor_true, Bool.true_xor, Bool.xor_false, Option.some.injEq, Sl.ls.injEq, exists_eq', List.tail_cons, Bool.not_true, Bool.not_false, Nat.reduceAdd, dSeq, dIf, dTst, dBin, dVar, dTup, dNil, dCons, dLst, dC, dRet, dNext, dAsg, dFrz, hTup, hCons, hName, hNil, dSet, dPut, dIfE, dNotT, dAndT, dOrT, dAndV, dOrV, dCB, stl, val, vals, datL, WB, W1, W2, WL, ↓reduceIte, Bool.false_eq_true, backE, bFor, bLoop, bLast, dLc, dLcL, dForL, KP.gEq_unit, KP.gEq_unit0, KP.gEq_str, KP.gEq_int, KP.gIx_t0, KP.gIx_t1, KP.gIx_t2, KP.gLen_lst, KP.gLen_tup, KP.gAll_map_eq, gSorted2_lst_eq, gSorted2_tup_eq, gTuple_lst_eq, List.map_cons, List.map_nil, iSeq, dYes, wipeE, resto, frO, KP.gIn_tup_eq, KP.gIn_lst_eq, List.getElem?_cons_zero, List.getElem?_cons_succ, List.set_cons_zero, List.set_cons_succ, List.cons_append, List.nil_append, List.replicate, Nat.reduceSub, List.length_cons, List.length_nil, true_and, and_true, Bool.false_xor, dEnd, fin1, dFldSet, dFld, dMth, dSlice, dNoP, dPart, slotsOf, slotOf]
      cases e : decide (y = x) with
      | true => simp only [e, if_true] at h; exact ⟨sz0, sz0, s2, h⟩
      | false => simp only [e, Bool.false_eq_true, if_false] at h; exact ⟨sz0, sz0, s2, h⟩
def S_held_for : DSp := fun args Q => ∃ v w, args = [.fr (vgD v), .fr (.tup (w.map .str))] ∧ Q (.nw (.ls ((srt (kn v.vw w)).map .str))) [.un, .un]
def r_held_for : DTS := (dSeq (dAsg ((dFrz (dVar 0))) (hTup 4 (hCons (hName 2) (hCons (hName 3) (hCons (hName 4) (hCons (hName 5) hNil))))))
      (dSeq (dSet 2 6 ((dBin gAdd ((dCall 2 S_thing_conditions (dCons ((dFrz (dVar 2))) (dCons ((dFrz (dVar 1))) dNil)))) ((dCall 2 S_own_conditions (dCons ((dFrz (dVar 2))) (dCons ((dFrz (dVar 3))) dNil)))))))
      (dSeq (dSet 2 6 ((dBin gAdd ((dVar 6)) ((dLst (dCons ((dIfE ((dTst ((dVar 4)))) (dC (.str "others")) (dC (.str "alone")))) (dCons ((dIfE ((dTst (dBin (gEq false) ((dVar 5)) (dC (.int 0))))) (dC (.str "tidy")) (dC (.str "strays")))) dNil)))))))
      (dRet ((dCB gSorted2 (dCons ((dVar 6)) dNil)))))))
theorem k_held_for : Keeps S_held_for 2 7 r_held_for := by
  rintro args Q h0 ⟨v, w, rfl, h⟩
  clear h0
  refine ⟨rfl, rfl, rfl, rfl, v.th, w, rfl, ?_⟩
  refine ⟨rfl, rfl, v.th, v.ow, rfl, ?_⟩
  have l1 := knT_len w v.th
  have l2 := knO_len v.th (v.ow.map (·.2))
  refine W2_mk (x := .lst ((knT w v.th).map .str)) (y := .lst ((knO v.th (v.ow.map (·.2))).map .str)) rfl rfl (add_strs (by omega) ?_)
  have lk : (knT w v.th ++ knO v.th (v.ow.map (·.2))).length ≤ 5 := by rw [List.length_append]; omega
  have fin : Q (.nw (.ls ((srt (knT w v.th ++ knO v.th (v.ow.map (·.2)) ++ knR v.vw)).map .str))) [.un, .un] := h
  generalize knT w v.th ++ knO v.th (v.ow.map (·.2)) = ks at fin lk ⊢
  refine ⟨Nat.le_of_ble_eq_true rfl, ?_⟩
  obtain ⟨th, ow, ot, st⟩ := v
  simp only [Vg.vw, knR] at fin
  simp only [eq_self, decide_true, decide_false, Bool.xor_true, Bool.true_xor, Bool.xor_false, Option.some.injEq, Sl.ls.injEq, exists_eq', List.tail_cons, Bool.not_true, Bool.not_false, Nat.reduceAdd, dSeq, dIf, dTst, dBin, dVar, dTup, dNil, dCons, dLst, dC, dRet, dNext, dAsg, dFrz, hTup, hCons, hName, hNil, dSet, dPut, dIfE, dNotT, dAndT, dOrT, dAndV, dOrV, dCB, stl, val, vals, datL, WB, W1, W2, WL, ↓reduceIte, Bool.false_eq_true, backE, bFor, bLoop, bLast, dLc, dLcL, dForL, KP.gEq_unit, KP.gEq_unit0, KP.gEq_str, KP.gEq_int, KP.gIx_t0, KP.gIx_t1, KP.gIx_t2, KP.gLen_lst, KP.gLen_tup, KP.gAll_map_eq, gSorted2_lst_eq, gSorted2_tup_eq, gTuple_lst_eq, List.map_cons, List.map_nil, iSeq, dYes, wipeE, resto, frO, KP.gIn_tup_eq, KP.gIn_lst_eq, List.getElem?_cons_zero, List.getElem?_cons_succ, List.set_cons_zero, List.set_cons_succ, List.cons_append, List.nil_append, List.replicate, Nat.reduceSub, List.length_cons, List.length_nil, true_and, and_true, Bool.false_xor, dEnd, fin1, dFldSet, dFld, dMth, dSlice, dNoP, dPart, slotsOf, slotOf]
  rw [show decide ((st : Int) = 0) = decide (st = 0) from decide_eq_decide.mpr (by omega)]
  cases ot <;> by_cases e : st = 0 <;> (
    simp only [e, decide_true, decide_false, ne_eq, not_true_eq_false, not_false_eq_true, Bool.false_eq_true, if_true, if_false] at fin ⊢
    refine ⟨s2, add_strs (ys := [_, _]) (by show ks.length + 2 ≤ 1000; omega) ⟨Nat.le_of_ble_eq_true rfl, sorted_lst (by rw [List.length_append]; show ks.length + 2 < 64; omega) ?_⟩⟩
    exact fin)
noncomputable def S_Keeper_decided (c : Ca) : DSp := fun args Q => ∃ (t : Tk) (v : Vg), args = [.fr (kpD c t), .fr (vgD v)] ∧ TkOk t ∧ Q (.dat (decD (dec (kn v.vw t.w) t.r))) [.un, .un]
noncomputable def r_Keeper_decided (c : Ca) : DTS := (dSeq (dSet 2 2 (dFrz (dCall 2 S_held_for (dCons ((dFrz (dVar 1))) (dCons ((dFld c.Keeper "own_wants" ((dVar 0)))) dNil)))))
      (dSeq (dFor (iEnumB (dCons ((dFld c.Keeper "own_rules" ((dVar 0)))) dNil)) (hTup 2 (hCons (hName 3) (hCons (hName 4) hNil))) bDec)
      (dRet (dC .non))))
theorem k_Keeper_decided (c : Ca) : Keeps (S_Keeper_decided c) 2 6 (r_Keeper_decided c) := by
  rintro args Q h0 ⟨t, v, rfl, ht, h⟩
  clear h0
  have ew : kn v.vw (srt t.w) = kn v.vw t.w := kn_congr fun x => srt_mem
  have key : dSeq (dFor (iEnumB (dCons ((dFld c.Keeper "own_rules" ((dVar 0)))) dNil)) (hTup 2 (hCons (hName 3) (hCons (hName 4) hNil))) bDec)
      (dRet (dC .non)) (dEnd 2 Q) [.fr (kpD c t), .fr (vgD v), .fr (.lst ((srt (kn v.vw t.w)).map .str)), .un, .un, .un] := by
    unfold dSeq dFor iEnumB dCons dFld dVar
    simp only [List.getElem?_cons_zero, val, kpD, kp_r]
    refine ⟨trivial, ?_⟩
    show dForL (hTup 2 (hCons (hName 3) (hCons (hName 4) hNil))) bDec _ (enumD ((t.r.map srtRu).map ruD)) [.fr (kpD c t), .fr (vgD v), .fr (.lst ((srt (kn v.vw t.w)).map .str)), .un, .un, .un]
    rw [enum_map]
    refine dec_loop (t.r.map srtRu) 0 .un .un (fun r hr => ?_) fun o3 o4 => ?_
    · obtain ⟨q, hq, rfl⟩ := List.mem_map.mp hr
      show (srt q.s).length ≤ 6
      rw [srt_len]
      exact (ht.r q hq).sl
    · rw [dec_srt]
      cases e : dec (kn v.vw t.w) t.r with
      | none => rw [e] at h; exact h
      | some i =>
        rw [e] at h
        show Q (.dat (.int ((0 + i : Nat) : Int))) _
        rw [Nat.zero_add]
        exact h
  simp only [r_Keeper_decided, kpD] at key ⊢
  simp only [eq_self, decide_true, decide_false, Bool.xor_true, Bool.true_xor, Bool.xor_false, Option.some.injEq, Sl.ls.injEq, exists_eq', List.tail_cons, Bool.not_true, Bool.not_false, Nat.reduceAdd, dSeq, dIf, dTst, dBin, dVar, dTup, dNil, dCons, dLst, dC, dRet, dNext, dAsg, dFrz, hTup, hCons, hName, hNil, dSet, dPut, dIfE, dNotT, dAndT, dOrT, dAndV, dOrV, dCB, stl, val, vals, datL, WB, W1, W2, WL, ↓reduceIte, Bool.false_eq_true, backE, bFor, bLoop, bLast, dLc, dLcL, dForL, KP.gEq_unit, KP.gEq_unit0, KP.gEq_str, KP.gEq_int, KP.gIx_t0, KP.gIx_t1, KP.gIx_t2, KP.gLen_lst, KP.gLen_tup, KP.gAll_map_eq, gSorted2_lst_eq, gSorted2_tup_eq, gTuple_lst_eq, List.map_cons, List.map_nil, iSeq, dYes, wipeE, resto, frO, KP.gIn_tup_eq, KP.gIn_lst_eq, List.getElem?_cons_zero, List.getElem?_cons_succ, List.set_cons_zero, List.set_cons_succ, List.cons_append, List.nil_append, List.replicate, Nat.reduceSub, List.length_cons, List.length_nil, true_and, and_true, Bool.false_xor, dEnd, fin1, dFldSet, dFld, dMth, dSlice, dNoP, dPart, slotsOf, slotOf, dCall, kp_w]
  refine ⟨rfl, v, srt t.w, rfl, ?_⟩
  rw [ew]
  exact key
end CM
namespace CM
open PySem PySem.Spec PyProof.Rows L2 TL KP
structure Sm where
  ws : List Str
  ks : List Tk
  ag : Bool
  ro : Bool
noncomputable def smF (c : Ca) (s : Sm) : List (Str × D) := putD "found_search" .non (putD "own_rough" (.bl s.ro) (putD "own_again" (.bl s.ag) (putD "own_keepers" (.tup (s.ks.map (kpD c))) (putD "own_words" (.tup (s.ws.map .str)) []))))
noncomputable def smD (c : Ca) (s : Sm) : D := .obj c.Scheme (smF c s)
def turnW (r : Ru) : Option Str := match r.d with
  | z :: y :: _ => if z = "turn" then some y else none
  | _ => none
noncomputable def wordsOf (t : Tk) : List Str := srt t.w ++ (t.r.filterMap turnW)
end CM
namespace CM
open PySem PySem.Spec PyProof.Rows L2 TL KP
structure KsOk (ws : List Str) (ks : List Tk) : Prop where
  l1 : 1 ≤ ks.length
  l3 : ks.length ≤ 3
  ok : ∀ t ∈ ks, TkOk t
  nd : (ks.map (·.tag)).Nodup
  wd : ∀ t ∈ ks, ∀ z ∈ wordsOf t, z ∈ ws
end CM
namespace CM
end CM
namespace CM
open PySem PySem.Spec PyProof.Rows L2 TL KP
def Sm.nms (s : Sm) : List Str := s.ks.map (·.tag)
noncomputable def S_Scheme_names (c : Ca) : DSp := fun args Q => ∃ s : Sm, args = [.fr (smD c s)] ∧ s.ks.length ≤ 900 ∧ Q (.nw (.ls (s.nms.map .str))) [.un]
noncomputable def S_Scheme___contains__ (c : Ca) : DSp := fun args Q => ∃ (s : Sm) (z : Str), args = [.fr (smD c s), .fr (.str z)] ∧ s.ks.length ≤ 900 ∧ Q (.dat (.bl (decide (z ∈ s.nms)))) [.un, .un]
noncomputable def S_is_word_of (c : Ca) : DSp := fun args Q => ∃ (s : Sm) (z : Str), args = [.fr (smD c s), .fr (.str z)] ∧ Q (.dat (.bl (decide (z ∈ s.ws)))) [.un, .un]
end CM
namespace CM
open PySem PySem.Spec PyProof.Rows L2 TL KP
structure CtOk (s : Sm) (t : Th) : Prop where
  kl : s.ks.length ≤ 60
  ok : ThOk t
  al : ∀ g w hs, t = .alive g w hs → w ∈ s.ws ∧ s.nms.filter (fun n => decide (n ∈ hs)) = hs ∧ (g = true → hs ≠ [])
noncomputable def ct5 (c : Ca) : DTS := (dRet ((dAndV ((dBin (gEq false) ((dVar 2)) ((dCB gTuple (dCons ((dLc (iSeq ((dMth c.Scheme "names" 1 (S_Scheme_names c) ((dVar 0)) dNil))) (hName 3) ((dTst (dBin (gIn false) ((dVar 3)) ((dVar 2))))) ((dFrz (dVar 3))) [3])) dNil))))) ((dOrV ((dBin (gEq false) ((dBin gIx ((dVar 1)) (dC (.int 0)))) ((dC (.str "there"))))) ((dBin (gEq true) ((dVar 2)) ((dTup dNil)))))))))
noncomputable def ct4 (c : Ca) : DTS := dSeq (dIf ((dNotT ((dTst ((dCB gAll (dCons ((dLc (iSeq ((dFrz (dVar 2)))) (hName 3) (dYes) ((dBin (gOIn false c.Scheme (S_Scheme___contains__ c)) ((dFrz (dVar 3))) ((dFrz (dVar 0))))) [3])) dNil))))))) (dRet (dC (.bl false))) dNext) (ct5 c)
noncomputable def ct3 (c : Ca) : DTS := dSeq (dIf ((dOrT ((dNotT ((dTst ((dCall 2 (S_is_word_of c) (dCons ((dFrz (dVar 0))) (dCons ((dBin gIx ((dVar 1)) (dC (.int 1)))) dNil)))))))) ((dNotT ((dTst ((dCB gIsi (dCons ((dVar 2)) (dCons ((dC (.ty "tuple"))) dNil)))))))))) (dRet (dC (.bl false))) dNext) (ct4 c)
noncomputable def ct2 (c : Ca) : DTS := dSeq (dSet 2 2 ((dBin gIx ((dVar 1)) (dC (.int 2))))) (ct3 c)
section
variable {c : Ca} {s : Sm} {g : Bool} {w : Str} {hs : List Str} {Q : Rs → List Sl → Prop}
theorem nms_len (s : Sm) : s.nms.length = s.ks.length := List.length_map _
end
end CM
namespace CM
open PySem PySem.Spec PyProof.Rows L2 TL KP
structure Sl3 where
  th : Th
  os : List Str
  ss : List Str
structure SlOk (s : Sm) (t : Sl3) : Prop where
  ct : CtOk s t.th
  ol : t.os.length = s.ks.length
  ow : ∀ o ∈ t.os, o = "" ∨ o ∈ s.ws
  sl : t.ss.length ≤ 60
  sw : ∀ x ∈ t.ss, x ∈ s.ws
end CM
namespace CM
open PySem PySem.Spec PyProof.Rows L2 TL KP
def carried : Nat → List Str → List Str → List Ch
  | k, n :: ns, o :: os => (if o = "" then [] else [(k + 1, n, o)]) ++ carried (k + 1) ns os
  | _, _, _ => []
def strays : Nat → List Str → List Ch
  | _, [] => []
  | k, w :: ws => (k, "", w) :: strays (k + 1) ws
end CM
namespace CM
open PySem PySem.Spec PyProof.Rows L2 TL KP
noncomputable def joined (cs : List Ch) (n : Str) : Str := Txt.join "" ((wOwner cs n).map fun x => x.2.2)
noncomputable def stateOf (s : Sm) (x : Sc) : Sl3 := ⟨x.1, s.nms.map fun n => joined x.2 n, (wOwner x.2 "").map fun y => y.2.2⟩
end CM
namespace CM
end CM
namespace CM
end CM
namespace CM
open PySem PySem.Spec PyProof.Rows L2 TL KP
noncomputable instance : DecidableEq Th := fun _ _ => Classical.propDecidable _
noncomputable instance : DecidableEq Sl3 := fun _ _ => Classical.propDecidable _
end CM
namespace CM
open PySem PySem.Spec PyProof.Rows L2 TL KP
def putIn (os : List Str) (i : Nat) (z : Str) : List Str := os.take i ++ [z] ++ os.drop (i + 1)
end CM
namespace CM
end CM
namespace CM
open PySem PySem.Spec PyProof.Rows L2 TL KP
structure Md where
  ws : List Str
  crew : List Tk
  ag : Bool
  ro : Bool
end CM
namespace CM
open PySem PySem.Spec PyProof.Rows L2 TL KP
def W (cs : List Ch) (n : Str) : List Str := (wOwner cs n).map fun x => x.2.2
theorem wO_app (a b : List Ch) (n : Str) : wOwner (a ++ b) n = wOwner a n ++ wOwner b n := List.filter_append ..
theorem carried_cons (j : Nat) (n : Str) (ns : List Str) (o : Str) (os : List Str) : carried j (n :: ns) (o :: os) = (if o = "" then [] else [(j + 1, n, o)]) ++ carried (j + 1) ns os := rfl
theorem wO_out : ∀ (j : Nat) (ns os : List Str) (n : Str), n ∉ ns → wOwner (carried j ns os) n = []
  | _, [], os, _, _ => by cases os <;> rfl
  | _, _ :: _, [], _, _ => rfl
  | j, x :: ns, o :: os, n, h => by
    rw [carried_cons, wO_app, wO_out (j + 1) ns os n fun hh => h (List.mem_cons_of_mem _ hh), List.append_nil]
    have hx : x ≠ n := fun e => h (by rw [e]; simp)
    split
    · rfl
    · simp [wOwner, hx]
theorem wO_at : ∀ (j : Nat) (ns os : List Str) (i : Nat) (n m : Str), ns.Nodup → ns[i]? = some n → os[i]? = some m → wOwner (carried j ns os) n = if m = "" then [] else [(j + i + 1, n, m)]
  | _, [], os, i, n, m, _, h, _ => by simp at h
  | _, _ :: _, [], i, n, m, _, _, h => by simp at h
  | j, x :: ns, o :: os, 0, n, m, nd, h1, h2 => by
    simp only [List.getElem?_cons_zero, Option.some.injEq] at h1 h2
    subst h1 h2
    rw [carried_cons, wO_app, wO_out (j + 1) ns os x (List.nodup_cons.mp nd).1, List.append_nil]
    split
    · rfl
    · simp [wOwner]
  | j, x :: ns, o :: os, i + 1, n, m, nd, h1, h2 => by
    simp only [List.getElem?_cons_succ] at h1 h2
    have hx : x ≠ n := fun e => (List.nodup_cons.mp nd).1 (by rw [e]; exact List.mem_of_getElem? h1)
    rw [carried_cons, wO_app, wO_at (j + 1) ns os i n m (List.nodup_cons.mp nd).2 h1 h2]
    have e : wOwner (if o = "" then [] else [(j + 1, x, o)]) n = [] := by
      split
      · rfl
      · simp [wOwner, hx]
    rw [e, List.nil_append, show j + 1 + i + 1 = j + (i + 1) + 1 by omega]
theorem W_at {j i : Nat} {ns os : List Str} {n m : Str} (nd : ns.Nodup) (h1 : ns[i]? = some n) (h2 : os[i]? = some m) : W (carried j ns os) n = if m = "" then [] else [m] := by
  unfold W
  rw [wO_at j ns os i n m nd h1 h2]
  split <;> rfl
theorem join1 (m : Str) : Txt.join ("" : Str) (if m = ("" : Str) then ([] : List Str) else [m]) = m := by
  split
  · rename_i e
    rw [e]
    rfl
  · rfl
theorem state_eq {s : Sm} {th : Th} {cs : List Ch} {os ss : List Str} (hl : os.length = s.ks.length)
    (hW : ∀ (i : Nat) (n m : Str), s.nms[i]? = some n → os[i]? = some m → W cs n = if m = "" then [] else [m]) (hS : W cs "" = ss) : stateOf s (th, cs) = ⟨th, os, ss⟩ := by
  unfold stateOf
  have e : (s.nms.map fun n => joined cs n) = os := by
    refine List.ext_getElem? fun i => ?_
    rw [List.getElem?_map]
    by_cases hi : i < s.nms.length
    · have hi2 : i < os.length := by rw [nms_len] at hi; omega
      have e1 : s.nms[i]? = some s.nms[i] := List.getElem?_eq_getElem hi
      have e2 : os[i]? = some os[i] := List.getElem?_eq_getElem hi2
      rw [e1, e2, Option.map_some]
      have := hW i _ _ e1 e2
      unfold W at this
      unfold joined
      rw [this, join1]
    · have hi2 : ¬ i < os.length := by rw [nms_len] at hi; omega
      rw [List.getElem?_eq_none (by omega), List.getElem?_eq_none (by omega)]
      rfl
  show (⟨th, s.nms.map fun n => joined cs n, W cs ""⟩ : Sl3) = ⟨th, os, ss⟩
  rw [e, hS]
end CM
namespace CM
open PySem PySem.Spec PyProof.Rows L2 TL KP
structure PlOk (s : Sm) (t : Sl3) (i : Nat) (n mine : Str) : Prop where
  nd : s.nms.Nodup
  ne : ("" : Str) ∉ s.nms
  hi : s.nms[i]? = some n
  hm : t.os[i]? = some mine
  ol : t.os.length = s.ks.length
section
variable {s : Sm} {t : Sl3} {i : Nat} {n mine : Str}
theorem PlOk.n0 (p : PlOk s t i n mine) : n ≠ "" := fun e => p.ne (by rw [← e]; exact List.mem_of_getElem? p.hi)
end
end CM
namespace CM
open PySem PySem.Spec PyProof.Rows L2 TL KP
theorem putIn_set {os : List Str} {i : Nat} {z : Str} (h : i < os.length) : putIn os i z = os.set i z := by
  unfold putIn
  rw [List.set_eq_take_append_cons_drop, if_pos h, List.append_assoc]
  rfl
section
variable {s : Sm} {t : Sl3} {i : Nat} {n mine : Str}
theorem PlOk.lt (p : PlOk s t i n mine) : i < t.os.length := (List.getElem?_eq_some_iff.mp p.hm).1
theorem upd (p : PlOk s t i n mine) {th : Th} {cs : List Ch} {w : Str} {ss : List Str} (hA : W cs n = if w = "" then [] else [w]) (hB : ∀ x ∈ s.nms, x ≠ n → W cs x = W (carried 0 s.nms t.os) x) (hC : W cs "" = ss) :
    stateOf s (th, cs) = ⟨th, putIn t.os i w, ss⟩ := by
  have hlt := p.lt
  rw [putIn_set hlt]
  refine state_eq (by rw [List.length_set]; exact p.ol) (fun j x m hx hm => ?_) hC
  rw [List.getElem?_set] at hm
  by_cases e : i = j
  · rw [if_pos e, if_pos hlt] at hm
    injection hm with hm
    subst hm
    have : x = n := by rw [← e, p.hi] at hx; exact (Option.some.inj hx).symm
    rw [this]
    exact hA
  · rw [if_neg e] at hm
    have hxn : x ≠ n := by
      intro e2
      have l1 := (List.getElem?_eq_some_iff.mp hx)
      have l2 := (List.getElem?_eq_some_iff.mp p.hi)
      obtain ⟨a1, a2⟩ := l1
      obtain ⟨b1, b2⟩ := l2
      have nd := List.pairwise_iff_getElem.mp p.nd
      rcases Nat.lt_or_gt_of_ne e with h | h
      · exact nd i j b1 a1 h (by rw [a2, b2, e2])
      · exact nd j i a1 b1 h (by rw [a2, b2, e2])
    rw [hB x (List.mem_of_getElem? hx) hxn]
    exact W_at p.nd hx hm
end
end CM
namespace CM
open PySem PySem.Spec PyProof.Rows L2 TL KP
section
variable {s : Sm} {t : Sl3} {i : Nat} {n mine : Str}
theorem PlOk.lk (p : PlOk s t i n mine) : i < s.nms.length := (List.getElem?_eq_some_iff.mp p.hi).1
end
end CM
namespace CM
end CM
namespace CM
end CM
namespace CM
end CM
namespace CM
end CM
namespace CM
open PySem PySem.Spec PyProof.Rows L2 TL KP
inductive Z2 {X : Type} (P : D → X → Prop) : List D → List X → Prop
  | nil : Z2 P [] []
  | cons {d : D} {x : X} {l : List D} {xs : List X} : P d x → Z2 P l xs → Z2 P (d :: l) (x :: xs)
theorem Z2.len {X : Type} {P : D → X → Prop} {l : List D} {xs : List X} (h : Z2 P l xs) : xs.length = l.length := by
  induction h with
  | nil => rfl
  | cons _ _ ih => simp [ih]
theorem Z2.all {X : Type} {P : D → X → Prop} {R : X → Prop} (hr : ∀ d x, P d x → R x) {l : List D} {xs : List X} (h : Z2 P l xs) : ∀ x ∈ xs, R x := by
  induction h with
  | nil => intro x hx; cases hx
  | cons p _ ih =>
    intro x hx
    rcases List.mem_cons.mp hx with rfl | hx
    · exact hr _ _ p
    · exact ih x hx
end CM
namespace CM
open PySem PySem.Spec PyProof.Rows L2 TL KP
structure MdOk (m : Md) : Prop where
  c1 : 1 ≤ m.crew.length
  c3 : m.crew.length ≤ 3
  w1 : 1 ≤ m.ws.length
  w3 : m.ws.length ≤ 3
end CM
namespace CM
end CM
namespace CM
open PySem PySem.Spec PyProof.Rows L2 TL KP
noncomputable def sg9 : DTS := (dRet ((dCB gTuple (dCons ((dLc (iEnumB (dCons ((dFrz (dVar 4))) dNil)) (hTup 2 (hCons (hName 5) (hCons (hName 6) hNil))) ((dTst (dBin (gIn true) ((dVar 6)) ((dSlice ((dVar 4)) dNoP (dPart ((dVar 5)))))))) ((dFrz (dVar 6))) [5, 6])) dNil))))
noncomputable def sg8 : DTS := dSeq (dIf ((dTst (dBin (gEq false) ((dCall 2 S__law_take (dCons ((dVar 0)) (dCons (dC (.int 12)) dNil)))) (dC (.int 0))))) (dSet 2 4 ((dSlice ((dVar 4)) (dPart (dC (.int 1))) dNoP))) dNext) (sg9)
noncomputable def sg7 : DTS := dSeq (dIf ((dTst (dBin (gEq false) ((dCall 2 S__law_take (dCons ((dVar 0)) (dCons (dC (.int 4)) dNil)))) (dC (.int 0))))) (dSeq (dSet 2 2 ((dLst (dCons (dC (.str "others")) (dCons (dC (.str "alone")) (dCons (dC (.str "wanted")) (dCons (dC (.str "free")) (dCons (dC (.str "going")) (dCons (dC (.str "gone")) (dCons (dC (.str "right")) (dCons (dC (.str "unwanted")) (dCons (dC (.str "tidy")) dNil))))))))))))
      (dDrop ((dMethF 4 mAppend (dCons ((dCall 2 S__law_pick (dCons ((dVar 0)) (dCons ((dFrz (dVar 2))) dNil)))) dNil))))) dNext) (sg8)
noncomputable def sg6 : DTS := dSeq (dSet 2 4 ((dBin gAdd ((dDGet 2 (dCons ((dBin gIx ((dVar 1)) (dC (.int 0)))) (dCons ((dLst (dCons (dC (.str "there")) dNil))) dNil)))) ((dLst (dCons ((dCall 2 S__law_pick (dCons ((dVar 0)) (dCons ((dBin gKy ((dVar 3)) ((dBin gIx ((dVar 1)) (dC (.int 0)))))) dNil)))) dNil)))))) (sg7)
noncomputable def sg5 : DTS := dSeq (dDrop ((dDUpd 3 (dCons ((dDisp [Sum.inr ("turn" : Str)] [(dLst (dCons (dC (.str "wanted")) (dCons (dC (.str "unwanted")) (dCons (dC (.str "child")) (dCons (dC (.str "held")) (dCons (dC (.str "others")) (dCons (dC (.str "strays")) dNil)))))))])) dNil)))) (sg6)
noncomputable def sg4 : DTS := dSeq (dDrop ((dDUpd 3 (dCons ((dDisp [Sum.inr ("clear" : Str), Sum.inr ("release" : Str)] [(dLst (dCons (dC (.str "gone")) (dCons (dC (.str "child")) (dCons (dC (.str "unwanted")) (dCons (dC (.str "bare")) dNil))))), (dLst (dCons (dC (.str "bare")) (dCons (dC (.str "going")) (dCons (dC (.str "unwanted")) (dCons (dC (.str "child")) dNil)))))])) dNil)))) (sg5)
noncomputable def sg3 : DTS := dSeq (dDrop ((dDUpd 3 (dCons ((dDisp [Sum.inr ("strike" : Str), Sum.inr ("correct" : Str)] [(dLst (dCons (dC (.str "unwanted")) (dCons (dC (.str "gone")) (dCons (dC (.str "going")) (dCons (dC (.str "wrong")) (dCons (dC (.str "others")) dNil)))))), (dLst (dCons (dC (.str "there")) (dCons (dC (.str "wanted")) dNil)))])) dNil)))) (sg4)
noncomputable def sg2 : DTS := dSeq (dSet 2 3 ((dDisp [Sum.inr ("make" : Str), Sum.inr ("mark" : Str), Sum.inr ("hold" : Str)] [(dLst (dCons (dC (.str "wanted")) (dCons (dC (.str "held")) (dCons (dC (.str "tidy")) (dCons (dC (.str "alone")) dNil))))), (dLst (dCons (dC (.str "wanted")) (dCons (dC (.str "held")) (dCons (dC (.str "alone")) dNil)))), (dLst (dCons (dC (.str "wanted")) dNil))]))) (sg3)
end CM
namespace CM
open PySem PySem.Spec PyProof.Rows L2 TL KP
def mkB (d : D) : Bool := match d with
  | .str z => decide (z ∈ Lk04.marks)
  | _ => false
def okL (n : Nat) : Option D → Bool
  | some (.lst ds) => !ds.isEmpty && decide (ds.length ≤ n) && ds.all mkB
  | _ => false
theorem s5 : 5 ≤ sizeLine := sz (by decide)
theorem s6 : 6 ≤ sizeLine := sz (by decide)
end CM
namespace CM
open PySem PySem.Spec PyProof.Rows L2 TL KP
def kkA : List Str := ["thing", "own", "other", "stray"]
structure KkOk (ks : List Str) : Prop where
  sub : ∀ x ∈ ks, x ∈ kkA
  nd : ks.Nodup
theorem KkOk.len {ks : List Str} (h : KkOk ks) : ks.length ≤ 4 := h.nd.length_le_of_subset (fun x hx => h.sub x hx)
theorem KkOk.snoc {ks : List Str} (h : KkOk ks) {y : Str} (hy : y ∈ kkA) (hn : y ∉ ks) : KkOk (ks ++ [y]) := by
  refine ⟨fun x hx => ?_, ?_⟩
  · rcases List.mem_append.mp hx with hx | hx
    · exact h.sub x hx
    · rw [List.mem_singleton] at hx; rw [hx]; exact hy
  · rw [List.nodup_append]
    refine ⟨h.nd, by simp, fun a ha b hb => ?_⟩
    rw [List.mem_singleton] at hb
    subst hb
    rintro rfl
    exact hn ha
end CM
namespace CM
open PySem PySem.Spec PyProof.Rows L2 TL KP
theorem pk_lcM {X : Type} {g : X → D} {P : D → X → Prop} {f : Nat → Sl → TL.Env} {te : DTE} {i k : Nat} {ρ0 : TL.Env} {Q : Rs → TL.Env → Prop} (hset : ∀ b s s', (f b s).set i s' = f b s') :
    ∀ (l : List D) (acc : List X) (b : Nat) (o : Sl), (∀ d ∈ l, ∀ (b : Nat) (R : Rs → TL.Env → Prop), k ≤ b → (∀ (x : X) (b' : Nat), P d x → b ≤ b' + k → R (.dat (g x)) (f b' (.fr d))) → te (f b (.fr d)) R) →
      acc.length + l.length ≤ 900 → k * l.length ≤ b → (∀ (xs : List X) (b' : Nat), Z2 P l xs → b ≤ b' + k * l.length → Q (.nw (.ls ((acc ++ xs).map g))) (f b' (frO ρ0[i]?))) →
      dLcL (hName i) dYes te [i] ρ0 l (acc.map g) (f b o) Q
  | [], acc, b, o, _, _, _, h => by
    have h' := h [] b .nil (Nat.le_add_right _ _)
    rw [List.append_nil] at h'
    show Q _ ((f b o).set i (frO ρ0[i]?))
    rw [hset]
    exact h'
  | d :: l, acc, b, o, he, hl, hb, h => by
    rw [List.length_cons] at hl hb
    have hm : k * (l.length + 1) = k * l.length + k := Nat.mul_succ _ _
    show te (((f b o).set i .un).set i (.fr d)) _
    rw [hset, hset]
    refine he d List.mem_cons_self b _ (by omega) fun x b' hx hb' => ?_
    refine ⟨by rw [List.length_map]; exact fin_big (by omega), ?_⟩
    have ih := pk_lcM (ρ0 := ρ0) (Q := Q) (P := P) (k := k) (te := te) hset l (acc ++ [x]) b' (.fr d) (fun d hd => he d (List.mem_cons_of_mem _ hd)) (by simp; omega) (by omega) fun xs b2 hz hb2 => by
      rw [List.append_assoc]
      exact h (x :: xs) b2 (.cons hx hz) (by rw [List.length_cons]; omega)
    rw [List.map_append] at ih
    exact ih
structure McOk (m : Md) : Prop where
  ww : ∀ z ∈ m.ws, Wd z
  wn : m.ws.Nodup
  ws : srt m.ws = m.ws
  w1 : 1 ≤ m.ws.length
  w3 : m.ws.length ≤ 3
  ks : KsOk m.ws m.crew
  ts : srt (m.crew.map (·.tag)) = m.crew.map (·.tag)
theorem McOk.md {m : Md} (h : McOk m) : MdOk m := ⟨h.ks.l1, h.ks.l3, h.w1, h.w3⟩
end CM
namespace Lk47
open PySem PySem.Spec PyProof.Rows L2 TL KP
def S_law : DSp := fun args Q => ∃ ns : List Int, args = [.fr (.scr ns)] ∧ ns.length ≤ 63 ∧ Q (.dat (.bl true)) [.un]
noncomputable def l2 (c : Ca) (w : World) : DTS := (dRet (dC (.bl true)))
noncomputable def lb12 (c : Ca) (w : World) : DTS := (dIf ((dOrT ((dTst (dBin (gEq true) ((dCB gRepr (dCons ((dVar 10)) dNil))) ((dCB gRepr (dCons ((dBin gMul ((dLst (dCons ((dFrz (dVar 8))) dNil))) (dC (.int 5)))) dNil)))))) ((dTst (dBin (gEq true) ((dCB gRepr (dCons ((dVar 5)) dNil))) ((dVar 9))))))) (dRet (dC (.bl false))) dNext)
noncomputable def lb11 (c : Ca) (w : World) : DTS := dSeq (dDrop ((dMethF 10 mAppend (dCons ((dRef (fun C => C = c.BadWord) (S__law_refusal c) fun XC => (dCallX 2 (S_trimmed c) XC (dCons ((dFrz (dVar 7))) (dCons ((dFrz (dVar 5))) dNil))))) dNil)))) (lb12 c w)
noncomputable def lb10 (c : Ca) (w : World) : DTS := dSeq (dDrop ((dMethF 10 mAppend (dCons ((dRef (fun C => C = c.BadWord) (S__law_refusal c) fun XC => (dCallX 2 (S_idle c) XC (dApp 1 [0] 1 (dCons ((dFrz (dVar 7))) dNil) (dCons ((dFrz (dVar 5))) dNil))))) dNil)))) (lb11 c w)
noncomputable def lb9 (c : Ca) (w : World) : DTS := dSeq (dDrop ((dMethF 10 mAppend (dCons ((dRef (fun C => C = c.BadWord) (S__law_refusal c) fun XC => (dCallX 3 (S_parted c) XC (dCons ((dFrz (dVar 7))) (dCons ((dMake 1 c.Keeper 4 (S_Keeper___init__ c) (dCons (dC (.str "q")) (dCons ((dLst dNil)) (dCons ((dLst dNil)) dNil))))) (dCons ((dFrz (dVar 5))) dNil)))))) dNil)))) (lb10 c w)
noncomputable def lb8 (c : Ca) (w : World) : DTS := dSeq (dDrop ((dMethF 10 mAppend (dCons ((dRef (fun C => C = c.BadWord) (S__law_refusal c) fun XC => (dCallX 2 (S_table_of c w) XC (dCons ((dFrz (dVar 7))) (dCons ((dFrz (dVar 5))) dNil))))) dNil)))) (lb9 c w)
noncomputable def lb7 (c : Ca) (w : World) : DTS := dSeq (dSet 1 10 ((dLst (dCons ((dRef (fun C => C = c.BadWord) (S__law_refusal c) fun XC => (dCallX 1 (S_all_views c) XC (dCons ((dFrz (dVar 5))) dNil)))) dNil)))) (lb8 c w)
noncomputable def lb6 (c : Ca) (w : World) : DTS := dSeq (dPar2 1 8 9 ((dCall 1 S__law_due (dCons ((dFrz (dVar 5))) dNil))) ((dCB gRepr (dCons ((dVar 5)) dNil)))) (lb7 c w)
noncomputable def lb5 (c : Ca) (w : World) : DTS := dSeq (dSet 1 7 ((dMake 1 c.Keeper 4 (S_Keeper___init__ c) (dCons (dC (.str "k")) (dCons ((dFrz (dVar 4))) (dCons ((dLst (dCons ((dCall 2 S__law_any_rule (dCons ((dVar 1)) (dCons ((dFrz (dVar 4))) dNil)))) dNil))) dNil)))))) (lb6 c w)
noncomputable def lb4 (c : Ca) (w : World) : DTS := dSeq (dSet 1 5 (dFrz (dCall 2 S__law_pick (dCons ((dVar 1)) (dCons ((dLst (dCons ((dFrz (dVar 5))) (dCons ((dFrz (dVar 5))) (dCons ((dFrz (dVar 5))) (dCons ((dCB gTuple (dCons ((dVar 5)) dNil))) (dCons ((dCall 2 S__law_pick (dCons ((dVar 1)) (dCons ((dFrz (dVar 3))) dNil)))) (dCons (dC (.str "ab")) (dCons ((dDisp [Sum.inr ("a" : Str)] [dC (.int 1)])) dNil))))))))) dNil))))) (lb5 c w)
noncomputable def lb3 (c : Ca) (w : World) : DTS := dSeq (dSet 1 5 ((dSlice ((dLc (iSeq ((dFrz (dVar 5)))) (hName 6) (dYes) ((dIfE ((dTst (dBin gGt ((dCall 2 S__law_take (dCons ((dVar 1)) (dCons (dC (.int 6)) dNil)))) (dC (.int 0))))) ((dFrz (dVar 6))) ((dCall 2 S__law_pick (dCons ((dVar 1)) (dCons ((dFrz (dVar 3))) dNil)))))) [6])) dNoP (dPart ((dCall 2 S__law_take (dCons ((dVar 1)) (dCons (dC (.int 5)) dNil)))))))) (lb4 c w)
noncomputable def lb2 (c : Ca) (w : World) : DTS := dSeq (dSet 1 5 (dLc (iSeq ((dBin gAdd ((dVar 4)) ((dSlice ((dVar 4)) dNoP (dPart (dC (.int 1)))))))) (hName 6) (dYes) ((dCall 2 S__law_pick (dCons ((dVar 1)) (dCons ((dLst (dCons ((dCall 2 S__law_pick (dCons ((dVar 1)) (dCons ((dFrz (dVar 4))) dNil)))) (dCons ((dCall 2 S__law_pick (dCons ((dVar 1)) (dCons ((dFrz (dVar 4))) dNil)))) (dCons ((dFrz (dVar 6))) dNil))))) dNil)))) [6])) (lb3 c w)
noncomputable def lb1 (c : Ca) (w : World) : DTS := dSeq (dSet 1 4 (dFrz (dCall 2 S__law_words (dCons ((dVar 1)) (dCons (dC (.int 3)) dNil))))) (lb2 c w)
noncomputable def lb0 (c : Ca) (w : World) : DTS := dSeq (dSet 1 3 ((dLst (dCons (dC .non) (dCons (dC (.int 0)) (dCons (dC (.bl true)) (dCons (dC (.str "")) (dCons (dC (.str "abcdefghi")) (dCons (dC (.str "A")) (dCons (dC (.str "a b")) (dCons (dC (.str "x1")) (dCons ((dTup dNil)) (dCons ((dLst (dCons (dC (.str "a")) dNil))) (dCons (dDNew) (dCons (dC (.str "a\n")) (dCons ((dBin gPow (dC (.int 10)) (dC (.int 30)))) (dCons (dC (.str "-")) (dCons ((dTup (dCons (dC (.str "a")) (dCons (dC (.str "b")) dNil)))) dNil)))))))))))))))))) (lb1 c w)
noncomputable def l1 (c : Ca) (w : World) : DTS := dSeq (dFor (iRange1 (dCons ((dBin gAdd (dC (.int 6)) ((dCB gMin2 (dCons ((dCB gLen (dCons ((dVar 0)) dNil))) (dCons (dC (.int 12)) dNil)))))) dNil)) (hName 2) (lb0 c w)) (l2 c w)
noncomputable def l0 (c : Ca) (w : World) : DTS := dSeq (dSet 1 1 ((dCall 1 S__law_begun (dCons ((dFrz (dVar 0))) dNil)))) (l1 c w)
noncomputable abbrev r_law (c : Ca) (w : World) : DTS := l0 c w
section
variable {c : Ca} {w : World} {E : DEnds} {d : D} {ws : List Str} {b : Nat} {x0 x2 s3 s4 s5 s6 s7 s8 s9 s10 : Sl}
theorem str_ne {a : Str} {P : Rs → Prop} (h : P (.dat (.bl false))) : gEq true (.str a) (.str a) P := by
  rw [gEq_str, decide_eq_true rfl]
  exact h
theorem ref_ok {te : XCont → DTE} {ρ : TL.Env} {Q : Rs → TL.Env → Prop} (h : ∀ (XC : XCont) (K : Rs → TL.Env → Prop), (wdue d = none → ∀ r, K r ρ) → (∀ x, wdue d = some x → XC c.BadWord [("thing", x)] ρ) → te XC ρ K) (hq : Q (.dat (.lst (dueL d))) ρ) :
    dRef (fun C => C = c.BadWord) (S__law_refusal c) te ρ Q := by
  refine h _ _ (fun e r => ?_) fun x e => ?_
  · have e2 : dueL d = [] := by unfold dueL; rw [e]
    rw [e2] at hq
    exact .inl ⟨rfl, hq⟩
  · have e2 : dueL d = [x] := by unfold dueL; rw [e]
    rw [e2] at hq
    exact ⟨rfl, .inr ⟨x, rfl, hq⟩⟩
theorem app_ok {te : XCont → DTE} {k : DTS} {K : List D} (h : ∀ (XC : XCont) (R : Rs → TL.Env → Prop), (wdue d = none → ∀ r, R r [x0, .rs (.sg b), x2, s3, s4, .fr d, s6, s7, s8, s9, .ls K]) → (∀ x, wdue d = some x → XC c.BadWord [("thing", x)] [x0, .rs (.sg b), x2, s3, s4, .fr d, s6, s7, s8, s9, .ls K]) → te XC [x0, .rs (.sg b), x2, s3, s4, .fr d, s6, s7, s8, s9, .ls K] R)
    (hl : K.length ≤ 10) (hk : k E [x0, .rs (.sg b), x2, s3, s4, .fr d, s6, s7, s8, s9, .ls (K ++ [.lst (dueL d)])]) :
    dSeq (dDrop (dMethF 10 mAppend (dCons (dRef (fun C => C = c.BadWord) (S__law_refusal c) te) dNil))) k E [x0, .rs (.sg b), x2, s3, s4, .fr d, s6, s7, s8, s9, .ls K] :=
  ⟨⟨K, rfl⟩, ref_ok (d := d) h ⟨fin_big (by omega), hk⟩⟩
def tAv (c : Ca) (XC : XCont) : DTE := (dCallX 1 (S_all_views c) XC (dCons ((dFrz (dVar 5))) dNil))
def tTb (c : Ca) (w : World) (XC : XCont) : DTE := (dCallX 2 (S_table_of c w) XC (dCons ((dFrz (dVar 7))) (dCons ((dFrz (dVar 5))) dNil)))
noncomputable def tPa (c : Ca) (XC : XCont) : DTE := (dCallX 3 (S_parted c) XC (dCons ((dFrz (dVar 7))) (dCons ((dMake 1 c.Keeper 4 (S_Keeper___init__ c) (dCons (dC (.str "q")) (dCons ((dLst dNil)) (dCons ((dLst dNil)) dNil))))) (dCons ((dFrz (dVar 5))) dNil))))
def tId (c : Ca) (XC : XCont) : DTE := (dCallX 2 (S_idle c) XC (dApp 1 [0] 1 (dCons ((dFrz (dVar 7))) dNil) (dCons ((dFrz (dVar 5))) dNil)))
def tTr (c : Ca) (XC : XCont) : DTE := (dCallX 2 (S_trimmed c) XC (dCons ((dFrz (dVar 7))) (dCons ((dFrz (dVar 5))) dNil)))
theorem by_due {P : Prop} (h1 : ∀ ws : List Str, (d = .lst (ws.map .str) ∨ d = .tup (ws.map .str)) → (∀ z ∈ ws, Wd z) → ws.Nodup → 1 ≤ ws.length → ws.length ≤ 3 → wdue d = none → P) (h2 : ∀ x, wdue d = some x → P) : P := by
  cases e : wdue d with
  | none =>
    obtain ⟨ws, a, b, c, d, e'⟩ := due_none e
    exact h1 ws a b c d e' e
  | some x => exact h2 x e
theorem tAv_ok {XC : XCont} {R : Rs → TL.Env → Prop} (ld : Lk d) (h1 : wdue d = none → ∀ r, R r [x0, .rs (.sg b), x2, s3, s4, .fr d, s6, s7, s8, s9, s10]) (h2 : ∀ x, wdue d = some x → XC c.BadWord [("thing", x)] [x0, .rs (.sg b), x2, s3, s4, .fr d, s6, s7, s8, s9, s10]) : tAv c XC [x0, .rs (.sg b), x2, s3, s4, .fr d, s6, s7, s8, s9, s10] R :=
  by_due (d := d) (fun ws hd hw hn l1 l3 e => ⟨rfl, rfl, .inl ⟨ws, d, rfl, hd, hw, hn, l1, l3, h1 e _⟩⟩) fun x e => ⟨rfl, rfl, .inr ⟨d, x, rfl, ld, e, h2 x e⟩⟩
theorem tTb_ok {t : Tk} {XC : XCont} {R : Rs → TL.Env → Prop} (ht : TkOk t) (ld : Lk d) (h1 : wdue d = none → ∀ r, R r [x0, .rs (.sg b), x2, s3, s4, .fr d, s6, .fr (kpD c t), s8, s9, s10]) (h2 : ∀ x, wdue d = some x → XC c.BadWord [("thing", x)] [x0, .rs (.sg b), x2, s3, s4, .fr d, s6, .fr (kpD c t), s8, s9, s10]) : tTb c w XC [x0, .rs (.sg b), x2, s3, s4, .fr d, s6, .fr (kpD c t), s8, s9, s10] R :=
  by_due (d := d) (fun ws hd hw hn l1 l3 e => ⟨rfl, rfl, .inl ⟨t, ws, d, rfl, hd, ht, hw, hn, l1, l3, h1 e _⟩⟩) fun x e => ⟨rfl, rfl, .inr ⟨kpD c t, d, x, rfl, ld, e, h2 x e⟩⟩
theorem q_ok : TkOk ⟨"q", [], []⟩ := ⟨(by decide +kernel : wdB "q" = true), fun z hz => (nomatch hz), List.nodup_nil, Nat.zero_le _, fun r hr => (nomatch hr), Nat.zero_le _⟩
theorem tPa_ok {t : Tk} {XC : XCont} {R : Rs → TL.Env → Prop} (ht : TkOk t) (ld : Lk d) (h1 : wdue d = none → ∀ r, R r [x0, .rs (.sg b), x2, s3, s4, .fr d, s6, .fr (kpD c t), s8, s9, s10]) (h2 : ∀ x, wdue d = some x → XC c.BadWord [("thing", x)] [x0, .rs (.sg b), x2, s3, s4, .fr d, s6, .fr (kpD c t), s8, s9, s10]) : tPa c XC [x0, .rs (.sg b), x2, s3, s4, .fr d, s6, .fr (kpD c t), s8, s9, s10] R := by
  refine ⟨sz0, sz0, Nat.le_of_ble_eq_true rfl, rfl, rfl, ⟨"q", [], []⟩, _, _, rfl, .inl rfl, .inl rfl, q_ok, rfl, _, _, rfl, ?_⟩
  exact by_due (d := d) (fun ws hd hw hn l1 l3 e => ⟨rfl, rfl, .inl ⟨t, ⟨"q", [], []⟩, ws, d, rfl, hd, ht, q_ok, hw, hn, l1, l3, h1 e _⟩⟩) fun x e => ⟨rfl, rfl, .inr ⟨kpD c t, _, d, x, rfl, ld, e, h2 x e⟩⟩
theorem tId_ok {t : Tk} {XC : XCont} {R : Rs → TL.Env → Prop} (ht : TkOk t) (ld : Lk d) (h1 : wdue d = none → ∀ r, R r [x0, .rs (.sg b), x2, s3, s4, .fr d, s6, .fr (kpD c t), s8, s9, s10]) (h2 : ∀ x, wdue d = some x → XC c.BadWord [("thing", x)] [x0, .rs (.sg b), x2, s3, s4, .fr d, s6, .fr (kpD c t), s8, s9, s10]) : tId c XC [x0, .rs (.sg b), x2, s3, s4, .fr d, s6, .fr (kpD c t), s8, s9, s10] R :=
  by_due (d := d) (fun ws hd hw hn l1 l3 e => ⟨rfl, rfl, rfl, rfl, .inl ⟨t, ws, d, rfl, hd, ht, hw, hn, l1, l3, h1 e _⟩⟩) fun x e => ⟨rfl, rfl, rfl, rfl, .inr ⟨kpD c t, d, x, rfl, ld, e, h2 x e⟩⟩
theorem tTr_ok {t : Tk} {XC : XCont} {R : Rs → TL.Env → Prop} (ht : TkOk t) (ld : Lk d) (h1 : wdue d = none → ∀ r, R r [x0, .rs (.sg b), x2, s3, s4, .fr d, s6, .fr (kpD c t), s8, s9, s10]) (h2 : ∀ x, wdue d = some x → XC c.BadWord [("thing", x)] [x0, .rs (.sg b), x2, s3, s4, .fr d, s6, .fr (kpD c t), s8, s9, s10]) : tTr c XC [x0, .rs (.sg b), x2, s3, s4, .fr d, s6, .fr (kpD c t), s8, s9, s10] R :=
  by_due (d := d) (fun ws hd hw hn l1 l3 e => ⟨rfl, rfl, .inl ⟨t, ws, d, rfl, hd, ht, hw, hn, l1, l3, h1 e _⟩⟩) fun x e => ⟨rfl, rfl, .inr ⟨kpD c t, d, x, rfl, ld, e, h2 x e⟩⟩
def tU : DTT := ((dTst (dBin (gEq true) ((dCB gRepr (dCons ((dVar 10)) dNil))) ((dCB gRepr (dCons ((dBin gMul ((dLst (dCons ((dFrz (dVar 8))) dNil))) (dC (.int 5)))) dNil))))))
def tV : DTT := ((dTst (dBin (gEq true) ((dCB gRepr (dCons ((dVar 5)) dNil))) ((dVar 9)))))
theorem fb_mem : ∀ (xs : List D) (pre : List Str) {x : D}, fb pre xs = some x → x ∈ xs
  | [], _, _, h => nomatch h
  | y :: xs, pre, x, h => by
    by_cases g : goodW pre y
    · obtain ⟨z, rfl, h1, h2⟩ := g
      rw [fb_good h1 h2] at h
      exact List.mem_cons_of_mem _ (fb_mem xs _ h)
    · rw [fb_bad g] at h
      cases h
      exact List.mem_cons_self
theorem due_mem {x : D} (h : wdue d = some x) : x = .non ∨ ∃ xs, (d = .lst xs ∨ d = .tup xs) ∧ x ∈ xs := by
  have key : ∀ xs : List D, (if 1 ≤ xs.length ∧ xs.length ≤ 3 then fb [] xs else some .non) = some x → x = .non ∨ x ∈ xs := fun xs h => by
    split at h
    · exact .inr (fb_mem xs [] h)
    · cases h; exact .inl rfl
  cases d with
  | lst xs => exact (key xs h).imp id fun z => ⟨xs, .inl rfl, z⟩
  | tup xs => exact (key xs h).imp id fun z => ⟨xs, .inr rfl, z⟩
  | _ => cases h; exact .inl rfl
theorem due_fine (ld : Fine topN 10000 10 d) : Fine topN 10001 11 (.lst (dueL d)) := by
  unfold dueL
  cases e : wdue d with
  | none => exact (Fine.lst (FineL.nil (N := topN) (w := 0) (m := 0))).mono (by decide) (by decide)
  | some x =>
    have fx : Fine topN 10000 10 x := by
      rcases due_mem e with rfl | ⟨xs, e2 | e2, hx⟩
      · exact (fine_of (N := topN) (w := 1) (m := 0) (by decide +kernel)).mono (by decide) (by decide)
      · subst e2
        obtain ⟨m', _, f⟩ := Fine.lst' ld
        exact (f.mem hx).mono (Nat.le_refl _) (by omega)
      · subst e2
        obtain ⟨m', _, f⟩ := Fine.tup' ld
        exact (f.mem hx).mono (Nat.le_refl _) (by omega)
    exact (Fine.lst (FineL.cons fx (FineL.nil (w := 0)))).mono (by decide) (by decide)
theorem five_show (ld : Fine topN 10000 10 d) : ShowOk (.lst [.lst (dueL d), .lst (dueL d), .lst (dueL d), .lst (dueL d), .lst (dueL d)]) := by
  have f := due_fine ld
  have n : FineL topN 0 11 [] := FineL.nil
  exact Fine.show_ (Fine.lst (FineL.cons f (FineL.cons f (FineL.cons f (FineL.cons f (FineL.cons f n)))))) (Nat.le_refl _) (by decide) (by decide)
theorem tU_ok {R : Bool → TL.Env → Prop} (hs : ShowOk (.lst [.lst (dueL d), .lst (dueL d), .lst (dueL d), .lst (dueL d), .lst (dueL d)])) (h : R false [x0, .rs (.sg b), x2, s3, s4, s5, s6, s7, .fr (.lst (dueL d)), s9, .ls [.lst (dueL d), .lst (dueL d), .lst (dueL d), .lst (dueL d), .lst (dueL d)]]) : tU [x0, .rs (.sg b), x2, s3, s4, s5, s6, s7, .fr (.lst (dueL d)), s9, .ls [.lst (dueL d), .lst (dueL d), .lst (dueL d), .lst (dueL d), .lst (dueL d)]] R := by
  have p63 : (2 : Int) ^ 63 = 9223372036854775808 := by decide
  refine ⟨_, rfl, hs, sz (n := 1) (by decide), by rw [p63]; decide, by rw [p63]; decide, sz (n := 5) (by decide), _, rfl, hs, ?_⟩
  refine W2_mk (x := .str (shown (.lst [.lst (dueL d), .lst (dueL d), .lst (dueL d), .lst (dueL d), .lst (dueL d)]))) (y := .str (shown (.lst [.lst (dueL d), .lst (dueL d), .lst (dueL d), .lst (dueL d), .lst (dueL d)]))) rfl rfl (str_ne ?_)
  exact h
theorem tV_ok {R : Bool → TL.Env → Prop} (hs : ShowOk d) (h : R false [x0, .rs (.sg b), x2, s3, s4, .fr d, s6, s7, s8, .fr (.str (shown d)), s10]) : tV [x0, .rs (.sg b), x2, s3, s4, .fr d, s6, s7, s8, .fr (.str (shown d)), s10] R := by
  refine ⟨_, rfl, hs, ?_⟩
  simp only [eq_self, decide_true, decide_false, Bool.xor_true, Bool.true_xor, Bool.xor_false, Option.some.injEq, Sl.ls.injEq, exists_eq', List.tail_cons, Bool.not_true, Bool.not_false, Nat.reduceAdd, dSeq, dIf, dTst, dBin, dVar, dTup, dNil, dCons, dLst, dC, dRet, dNext, dAsg, dFrz, hTup, hCons, hName, hNil, dSet, dPut, dIfE, dNotT, dAndT, dOrT, dAndV, dOrV, dCB, stl, val, vals, datL, WB, W1, W2, WL, ↓reduceIte, Bool.false_eq_true, backE, bFor, bLoop, bLast, dLc, dLcL, dForL, KP.gEq_unit, KP.gEq_unit0, KP.gEq_str, KP.gEq_int, KP.gIx_t0, KP.gIx_t1, KP.gIx_t2, KP.gLen_lst, KP.gLen_tup, KP.gAll_map_eq, gSorted2_lst_eq, gSorted2_tup_eq, gTuple_lst_eq, List.map_cons, List.map_nil, iSeq, dYes, wipeE, resto, frO, KP.gIn_tup_eq, KP.gIn_lst_eq, List.getElem?_cons_zero, List.getElem?_cons_succ, List.set_cons_zero, List.set_cons_succ, List.cons_append, List.nil_append, List.replicate, Nat.reduceSub, List.length_cons, List.length_nil, true_and, and_true, Bool.false_xor, dEnd, fin1, dFldSet, dFld, dMth, dSlice, dNoP, dPart, slotsOf, slotOf]
  exact h
theorem lb12_eq (c : Ca) (w : World) : lb12 c w = dIf (dOrT tU tV) (dRet (dC (.bl false))) dNext := rfl
theorem ifOr4 {t u : DTT} {k : DTS} {E : DEnds} {ρ ρ1 ρ2 : TL.Env} (h1 : ∀ R : Bool → TL.Env → Prop, R false ρ1 → t ρ R) (h2 : ∀ R : Bool → TL.Env → Prop, R false ρ2 → u ρ1 R) (hf : E.nx ρ2) : dIf (dOrT t u) k dNext E ρ := h1 _ (h2 _ hf)
theorem lb12_ok {t : Tk} (ld : Fine topN 10000 10 d) (h : ∀ s3 s4 s5 s6 s7 s8 s9 s10, E.nx [x0, .rs (.sg b), x2, s3, s4, s5, s6, s7, s8, s9, s10]) : lb12 c w E [x0, .rs (.sg b), x2, s3, s4, .fr d, s6, .fr (kpD c t), .fr (.lst (dueL d)), .fr (.str (shown d)), .ls [.lst (dueL d), .lst (dueL d), .lst (dueL d), .lst (dueL d), .lst (dueL d)]] := by
  rw [lb12_eq]
  exact ifOr4 (fun R hR => tU_ok (five_show ld) hR) (fun R hR => tV_ok (Fine.show_ ld (Nat.le_refl _) (by decide) (by decide)) hR) (h _ _ _ _ _ _ _ _)
theorem lb11_eq (c : Ca) (w : World) : lb11 c w = dSeq (dDrop (dMethF 10 mAppend (dCons (dRef (fun C => C = c.BadWord) (S__law_refusal c) (tTr c)) dNil))) (lb12 c w) := rfl
theorem lb10_eq (c : Ca) (w : World) : lb10 c w = dSeq (dDrop (dMethF 10 mAppend (dCons (dRef (fun C => C = c.BadWord) (S__law_refusal c) (tId c)) dNil))) (lb11 c w) := rfl
theorem lb9_eq (c : Ca) (w : World) : lb9 c w = dSeq (dDrop (dMethF 10 mAppend (dCons (dRef (fun C => C = c.BadWord) (S__law_refusal c) (tPa c)) dNil))) (lb10 c w) := rfl
theorem lb8_eq (c : Ca) (w : World) : lb8 c w = dSeq (dDrop (dMethF 10 mAppend (dCons (dRef (fun C => C = c.BadWord) (S__law_refusal c) (tTb c w)) dNil))) (lb9 c w) := rfl
theorem lb7_eq (c : Ca) (w : World) : lb7 c w = dSeq (dSet 1 10 (dLst (dCons (dRef (fun C => C = c.BadWord) (S__law_refusal c) (tAv c)) dNil))) (lb8 c w) := rfl
theorem lk_of (ld : Fine topN 10000 10 d) : Lk d := ld.mono (by decide) (by decide)
theorem lb11_ok {t : Tk} (ht : TkOk t) (ld : Fine topN 10000 10 d) (h : ∀ s3 s4 s5 s6 s7 s8 s9 s10, E.nx [x0, .rs (.sg b), x2, s3, s4, s5, s6, s7, s8, s9, s10]) : lb11 c w E [x0, .rs (.sg b), x2, s3, s4, .fr d, s6, .fr (kpD c t), .fr (.lst (dueL d)), .fr (.str (shown d)), .ls [.lst (dueL d), .lst (dueL d), .lst (dueL d), .lst (dueL d)]] := by
  rw [lb11_eq]
  exact app_ok (fun XC R h1 h2 => tTr_ok ht (lk_of ld) h1 h2) (Nat.le_of_ble_eq_true rfl) (lb12_ok ld h)
theorem lb10_ok {t : Tk} (ht : TkOk t) (ld : Fine topN 10000 10 d) (h : ∀ s3 s4 s5 s6 s7 s8 s9 s10, E.nx [x0, .rs (.sg b), x2, s3, s4, s5, s6, s7, s8, s9, s10]) : lb10 c w E [x0, .rs (.sg b), x2, s3, s4, .fr d, s6, .fr (kpD c t), .fr (.lst (dueL d)), .fr (.str (shown d)), .ls [.lst (dueL d), .lst (dueL d), .lst (dueL d)]] := by
  rw [lb10_eq]
  exact app_ok (fun XC R h1 h2 => tId_ok ht (lk_of ld) h1 h2) (Nat.le_of_ble_eq_true rfl) (lb11_ok ht ld h)
theorem lb9_ok {t : Tk} (ht : TkOk t) (ld : Fine topN 10000 10 d) (h : ∀ s3 s4 s5 s6 s7 s8 s9 s10, E.nx [x0, .rs (.sg b), x2, s3, s4, s5, s6, s7, s8, s9, s10]) : lb9 c w E [x0, .rs (.sg b), x2, s3, s4, .fr d, s6, .fr (kpD c t), .fr (.lst (dueL d)), .fr (.str (shown d)), .ls [.lst (dueL d), .lst (dueL d)]] := by
  rw [lb9_eq]
  exact app_ok (fun XC R h1 h2 => tPa_ok ht (lk_of ld) h1 h2) (Nat.le_of_ble_eq_true rfl) (lb10_ok ht ld h)
theorem lb8_ok {t : Tk} (ht : TkOk t) (ld : Fine topN 10000 10 d) (h : ∀ s3 s4 s5 s6 s7 s8 s9 s10, E.nx [x0, .rs (.sg b), x2, s3, s4, s5, s6, s7, s8, s9, s10]) : lb8 c w E [x0, .rs (.sg b), x2, s3, s4, .fr d, s6, .fr (kpD c t), .fr (.lst (dueL d)), .fr (.str (shown d)), .ls [.lst (dueL d)]] := by
  rw [lb8_eq]
  exact app_ok (fun XC R h1 h2 => tTb_ok ht (lk_of ld) h1 h2) (Nat.le_of_ble_eq_true rfl) (lb9_ok ht ld h)
theorem first_ok {te : XCont → DTE} {k : DTS} (h : ∀ (XC : XCont) (R : Rs → TL.Env → Prop), (wdue d = none → ∀ r, R r [x0, .rs (.sg b), x2, s3, s4, .fr d, s6, s7, s8, s9, s10]) → (∀ x, wdue d = some x → XC c.BadWord [("thing", x)] [x0, .rs (.sg b), x2, s3, s4, .fr d, s6, s7, s8, s9, s10]) → te XC [x0, .rs (.sg b), x2, s3, s4, .fr d, s6, s7, s8, s9, s10] R) (hk : k E [x0, .rs (.sg b), x2, s3, s4, .fr d, s6, s7, s8, s9, .ls [.lst (dueL d)]]) :
    dSeq (dSet 1 10 (dLst (dCons (dRef (fun C => C = c.BadWord) (S__law_refusal c) te) dNil))) k E [x0, .rs (.sg b), x2, s3, s4, .fr d, s6, s7, s8, s9, s10] := by
  unfold dSeq dSet dLst dCons
  exact ref_ok (d := d) h ⟨sz (n := 1) (by decide), by decide, hk⟩
theorem lb7_ok {t : Tk} (ht : TkOk t) (ld : Fine topN 10000 10 d) (h : ∀ s3 s4 s5 s6 s7 s8 s9 s10, E.nx [x0, .rs (.sg b), x2, s3, s4, s5, s6, s7, s8, s9, s10]) : lb7 c w E [x0, .rs (.sg b), x2, s3, s4, .fr d, s6, .fr (kpD c t), .fr (.lst (dueL d)), .fr (.str (shown d)), s10] := by
  rw [lb7_eq]
  exact first_ok (fun XC R h1 h2 => tAv_ok (lk_of ld) h1 h2) (lb8_ok ht ld h)
theorem lb6_ok {t : Tk} (ht : TkOk t) (ld : Fine topN 10000 10 d) (h : ∀ s3 s4 s5 s6 s7 s8 s9 s10, E.nx [x0, .rs (.sg b), x2, s3, s4, s5, s6, s7, s8, s9, s10]) : lb6 c w E [x0, .rs (.sg b), x2, s3, s4, .fr d, s6, .fr (kpD c t), s8, s9, s10] := by
  refine ⟨rfl, rfl, d, rfl, lk_of ld, d, rfl, Fine.show_ ld (Nat.le_refl _) (by decide) (by decide), ?_⟩
  exact lb7_ok (c := c) (w := w) (s10 := s10) ht ld h
theorem k_tk {r : Ru} (hw : ∀ z ∈ ws, Wd z) (hn : ws.Nodup) (hl : ws.length = 3) (hr : RuOk r) : TkOk ⟨"k", ws, [r]⟩ := ⟨(by decide +kernel : wdB "k" = true), hw, hn, by show ws.length ≤ 3; omega, fun q hq => by
  rw [List.mem_singleton] at hq
  subst hq
  exact hr, by show 1 ≤ 8; decide⟩
theorem ne_of (hl : ws.length = 3) : ws ≠ [] := fun z => by rw [z] at hl; cases hl
theorem lb5_ok (hw : ∀ z ∈ ws, Wd z) (hn : ws.Nodup) (hl : ws.length = 3) (ld : Fine topN 10000 10 d) (hb : 22 ≤ b) (h : ∀ b' s3 s4 s5 s6 s7 s8 s9 s10, b ≤ b' + 22 → E.nx [x0, .rs (.sg b'), x2, s3, s4, s5, s6, s7, s8, s9, s10]) : lb5 c w E [x0, .rs (.sg b), x2, s3, .fr (.lst (ws.map .str)), .fr d, s6, s7, s8, s9, s10] := by
  refine ⟨rfl, rfl, b, ws, rfl, ne_of hl, by omega, hw, hb, fun r b1 hr hb1 => ?_⟩
  refine ⟨sz (n := 1) (by decide), Nat.le_of_ble_eq_true rfl, rfl, rfl, ⟨"k", ws, [r]⟩, _, _, rfl, .inl rfl, .inl rfl, k_tk hw hn hl hr, rfl, _, _, rfl, ?_⟩
  exact lb6_ok (t := ⟨"k", ws, [r]⟩) (s8 := s8) (s9 := s9) (s10 := s10) (k_tk hw hn hl hr) ld fun s3 s4 s5 s6 s7 s8 s9 s10 => h b1 s3 s4 s5 s6 s7 s8 s9 s10 hb1
def odL : List D := [.non, .int 0, .bl true, .str "", .str "abcdefghi", .str "A", .str "a b", .str "x1", .tup [], .lst [.str "a"], .dct [], .str "a\n", .int (10 ^ 30), .str "-", .tup [.str "a", .str "b"]]
theorem odL_ok : ∀ x ∈ odL, Fine topN 1000 2 x := by
  have h : odL.all (fun x => fineB topN 1000 2 x) = true := by decide +kernel
  exact fun x hx => fine_of (List.all_eq_true.mp h x hx)
abbrev Od (s : Sl) : Prop := s = .ls odL ∨ s = .fr (.lst odL)
theorem od_ne : odL ≠ [] := by unfold odL; simp
theorem od_len : odL.length < 1073741824 := by show 15 < 1073741824; decide
def pkL (ys : List D) (o : D) : List D := [.lst ys, .lst ys, .lst ys, .tup ys, o, .str "ab", .dct [(.inr "a", .int 1)]]
theorem ys_fine {ys : List D} (hy : ∀ x ∈ ys, Fine topN 1000 2 x) (hl : ys.length ≤ 4) : FineL topN 5000 2 ys := by
  refine FineL.of (fun x hx => ⟨(hy x hx).ok, (hy x hx).ld⟩) ?_
  have key : ∀ zs : List D, (∀ x ∈ zs, Fine topN 1000 2 x) → wtL zs ≤ 1001 * zs.length := fun zs => by
    induction zs with
    | nil => exact fun _ => Nat.le_refl _
    | cons z zs ih =>
      intro hz
      have h1 := (hz z List.mem_cons_self).lw
      have h2 := ih fun x hx => hz x (List.mem_cons_of_mem _ hx)
      rw [wtL_cons, List.length_cons]
      omega
  have := key ys hy
  omega
theorem pk_fine {ys : List D} {o : D} (hy : ∀ x ∈ ys, Fine topN 1000 2 x) (hl : ys.length ≤ 4) (ho : Fine topN 1000 2 o) : ∀ x ∈ pkL ys o, Fine topN 10000 10 x := by
  have f := ys_fine hy hl
  intro x hx
  simp only [pkL, List.mem_cons, List.not_mem_nil, or_false] at hx
  rcases hx with rfl | rfl | rfl | rfl | rfl | rfl | rfl
  · exact (Fine.lst f).mono (by decide) (by decide)
  · exact (Fine.lst f).mono (by decide) (by decide)
  · exact (Fine.lst f).mono (by decide) (by decide)
  · exact (Fine.tup f).mono (by decide) (by decide)
  · exact ho.mono (by decide) (by decide)
  · exact fine_of (by decide +kernel)
  · exact fine_of (by decide +kernel)
theorem lb4_ok {ys : List D} (hw : ∀ z ∈ ws, Wd z) (hn : ws.Nodup) (hl : ws.length = 3) (h3 : Od s3) (hy : ∀ x ∈ ys, Fine topN 1000 2 x) (hyl : ys.length ≤ 4) (hb : 24 ≤ b) (h : ∀ b' s3 s4 s5 s6 s7 s8 s9 s10, b ≤ b' + 24 → E.nx [x0, .rs (.sg b'), x2, s3, s4, s5, s6, s7, s8, s9, s10]) : lb4 c w E [x0, .rs (.sg b), x2, s3, .fr (.lst (ws.map .str)), .ls ys, s6, s7, s8, s9, s10] := by
  have e7 : 7 < 1073741824 := by decide
  have key : ∀ x b2, x ∈ odL → b ≤ b2 + 1 → ∀ y b3, y ∈ pkL ys x → b2 ≤ b3 + 1 → lb5 c w E [x0, .rs (.sg b3), x2, .fr (.lst odL), .fr (.lst (ws.map .str)), .fr y, s6, s7, s8, s9, s10] := fun x b2 hx h2 y b3 hy3 h3' =>
    lb5_ok hw hn hl (pk_fine hy hyl (odL_ok x hx) y hy3) (by omega) fun b' s3 s4 s5 s6 s7 s8 s9 s10 hb' => h b' s3 s4 s5 s6 s7 s8 s9 s10 (by omega)
  rcases h3 with rfl | rfl
  · refine ⟨rfl, rfl, b, .lst odL, odL, rfl, rfl, by omega, od_ne, od_len, fun o b1 ho hb1 => ?_⟩
    exact ⟨sz (n := 7) (by decide), rfl, rfl, b1, .lst (pkL ys o), pkL ys o, rfl, rfl, by omega, by simp [pkL], e7, fun x b2 hx hb2 => key o b1 ho hb1 x b2 hx hb2⟩
  · refine ⟨rfl, rfl, b, .lst odL, odL, rfl, rfl, by omega, od_ne, od_len, fun o b1 ho hb1 => ?_⟩
    exact ⟨sz (n := 7) (by decide), rfl, rfl, b1, .lst (pkL ys o), pkL ys o, rfl, rfl, by omega, by simp [pkL], e7, fun x b2 hx hb2 => key o b1 ho hb1 x b2 hx hb2⟩
def te3 : DTE := ((dIfE ((dTst (dBin gGt ((dCall 2 S__law_take (dCons ((dVar 1)) (dCons (dC (.int 6)) dNil)))) (dC (.int 0))))) ((dFrz (dVar 6))) ((dCall 2 S__law_pick (dCons ((dVar 1)) (dCons ((dFrz (dVar 3))) dNil))))))
theorem te3_ok {v : Str} {R : Rs → TL.Env → Prop} (h3 : Od s3) (hv : Wd v) (hb : 2 ≤ b) (h : ∀ x b' s3, Od s3 → Fine topN 1000 2 x → b ≤ b' + 2 → R (.dat x) [x0, .rs (.sg b'), x2, s3, s4, s5, .fr (.str v), s7, s8, s9, s10]) : te3 [x0, .rs (.sg b), x2, s3, s4, s5, .fr (.str v), s7, s8, s9, s10] R := by
  refine ⟨rfl, rfl, b, 6, rfl, by omega, by decide, by decide, fun i b1 h0 h1 hb1 => ?_⟩
  refine ite2' (c := decide (0 < i)) (fun e => ?_) fun e => ?_
  · exact h _ b1 s3 h3 ((hv.fine (w := 8) (m := 0) (by decide)).mono (by decide) (by decide)) (by omega)
  · rcases h3 with rfl | rfl
    · exact ⟨rfl, rfl, b1, .lst odL, odL, rfl, rfl, by omega, od_ne, od_len, fun o b2 ho hb2 => h o b2 _ (.inr rfl) (odL_ok o ho) (by omega)⟩
    · exact ⟨rfl, rfl, b1, .lst odL, odL, rfl, rfl, by omega, od_ne, od_len, fun o b2 ho hb2 => h o b2 _ (.inr rfl) (odL_ok o ho) (by omega)⟩
theorem loop3 {te : DTE} {ρ0 : TL.Env} {Q : Rs → TL.Env → Prop} (hte : ∀ (v : Str) (b : Nat) (s3 : Sl) (R : Rs → TL.Env → Prop), Od s3 → Wd v → 2 ≤ b → (∀ x b' s3, Od s3 → Fine topN 1000 2 x → b ≤ b' + 2 → R (.dat x) [x0, .rs (.sg b'), x2, s3, s4, s5, .fr (.str v), s7, s8, s9, s10]) → te [x0, .rs (.sg b), x2, s3, s4, s5, .fr (.str v), s7, s8, s9, s10] R) :
    ∀ (vs : List Str) (acc : List D) (b : Nat) (s3 s6 : Sl), Od s3 → (∀ v ∈ vs, Wd v) → (∀ x ∈ acc, Fine topN 1000 2 x) → acc.length + vs.length ≤ 900 → 2 * vs.length ≤ b →
    (∀ ys b' s3, Od s3 → (∀ x ∈ ys, Fine topN 1000 2 x) → ys.length = acc.length + vs.length → b ≤ b' + 2 * vs.length → Q (.nw (.ls ys)) [x0, .rs (.sg b'), x2, s3, s4, s5, frO ρ0[6]?, s7, s8, s9, s10]) →
    dLcL (hName 6) dYes te [6] ρ0 (vs.map .str) acc [x0, .rs (.sg b), x2, s3, s4, s5, s6, s7, s8, s9, s10] Q
  | [], acc, b, s3, s6, h3, _, ha, _, _, h => h acc b s3 h3 ha rfl (Nat.le_refl _)
  | v :: vs, acc, b, s3, s6, h3, hv, ha, hl, hb, h => by
    rw [List.length_cons] at hl hb
    show te [x0, .rs (.sg b), x2, s3, s4, s5, .fr (.str v), s7, s8, s9, s10] _
    refine hte v b s3 _ h3 (hv v List.mem_cons_self) (by omega) fun x b1 s3 h3 hx hb1 => ?_
    refine ⟨fin_big (by omega), ?_⟩
    refine loop3 hte vs (acc ++ [x]) b1 s3 _ h3 (fun v hv' => hv v (List.mem_cons_of_mem _ hv')) (fun y hy => (List.mem_append.mp hy).elim (ha y) fun hy => by
      rw [List.mem_singleton] at hy
      subst hy
      exact hx) (by rw [List.length_append, List.length_singleton]; omega) (by omega) fun ys b' s3 h3 hys hyl hb' => ?_
    refine h ys b' s3 h3 hys ?_ ?_
    · rw [hyl, List.length_append, List.length_singleton, List.length_cons]; omega
    · rw [List.length_cons]; omega
theorem set_lc {te : DTE} {vs : List Str} {hi : DPO} {k : DTS} (h : dLcL (hName 6) dYes te [6] [x0, .rs (.sg b), x2, s3, s4, .fr (.lst (vs.map .str)), s6, s7, s8, s9, s10] (vs.map .str) [] [x0, .rs (.sg b), x2, s3, s4, .fr (.lst (vs.map .str)), s6, s7, s8, s9, s10] fun r ρ1 => hi ρ1 fun h ρ3 => W1 (val ρ3 (stl r)) fun x => gSlice x none h fun r' => dPut 1 5 r' ρ3 (k E)) :
    dSeq (dSet 1 5 (dSlice (dLc (iSeq (dFrz (dVar 5))) (hName 6) (dYes) te [6]) dNoP hi)) k E [x0, .rs (.sg b), x2, s3, s4, .ls (vs.map .str), s6, s7, s8, s9, s10] := h
def hi5 : DPO := (dPart ((dCall 2 S__law_take (dCons ((dVar 1)) (dCons (dC (.int 5)) dNil)))))
theorem hi5_ok {R : Option Int → TL.Env → Prop} (hb : 1 ≤ b) (h : ∀ n b', n < 5 → b ≤ b' + 1 → R (some ((n : Nat) : Int)) [x0, .rs (.sg b'), x2, s3, s4, s5, s6, s7, s8, s9, s10]) : hi5 [x0, .rs (.sg b), x2, s3, s4, s5, s6, s7, s8, s9, s10] R := by
  refine ⟨rfl, rfl, b, 5, rfl, by omega, by decide, by decide, fun i b1 h0 h1 hb1 => ?_⟩
  obtain ⟨n, rfl⟩ := Int.eq_ofNat_of_zero_le h0
  exact h n b1 (by omega) hb1
theorem lb3_eq (c : Ca) (w : World) : lb3 c w = dSeq (dSet 1 5 (dSlice (dLc (iSeq (dFrz (dVar 5))) (hName 6) (dYes) te3 [6]) dNoP hi5)) (lb4 c w) := rfl
theorem lb3_ok {vs : List Str} (hw : ∀ z ∈ ws, Wd z) (hn : ws.Nodup) (hl : ws.length = 3) (h3 : Od s3) (hv : ∀ v ∈ vs, Wd v) (hvl : vs.length = 4) (hb : 40 ≤ b) (h : ∀ b' s3 s4 s5 s6 s7 s8 s9 s10, b ≤ b' + 40 → E.nx [x0, .rs (.sg b'), x2, s3, s4, s5, s6, s7, s8, s9, s10]) : lb3 c w E [x0, .rs (.sg b), x2, s3, .fr (.lst (ws.map .str)), .ls (vs.map .str), s6, s7, s8, s9, s10] := by
  rw [lb3_eq]
  refine set_lc ?_
  refine loop3 (fun v b s3 R h3 hv hb h => te3_ok h3 hv hb h) vs [] b s3 _ h3 hv (fun x hx => nomatch hx) (by show 0 + vs.length ≤ 900; omega) (by omega) fun ys b1 s3 h3 hys hyl hb1 => ?_
  have hyl : ys.length = 0 + vs.length := hyl
  refine hi5_ok (by omega) fun n b2 hn5 hb2 => ?_
  have e : cutD ys none (some (n : Int)) = ys.take n := cutD_take ys n
  refine ⟨(by decide : 1 ≤ 5), ?_⟩
  exact lb4_ok (ys := cutD ys none (some (n : Int))) hw hn hl h3 (by rw [e]; exact fun x hx => hys x (List.mem_of_mem_take hx)) (by rw [e, List.length_take]; omega) (by omega) fun b' s3 s4 s5 s6 s7 s8 s9 s10 hb' => h b' s3 s4 s5 s6 s7 s8 s9 s10 (by omega)
def te2 : DTE := ((dCall 2 S__law_pick (dCons ((dVar 1)) (dCons ((dLst (dCons ((dCall 2 S__law_pick (dCons ((dVar 1)) (dCons ((dFrz (dVar 4))) dNil)))) (dCons ((dCall 2 S__law_pick (dCons ((dVar 1)) (dCons ((dFrz (dVar 4))) dNil)))) (dCons ((dFrz (dVar 6))) dNil))))) dNil))))
theorem te2_ok {v : Str} {R : Rs → TL.Env → Prop} (hl : ws.length = 3) (hv : v ∈ ws) (hb : 3 ≤ b) (h : ∀ y b', y ∈ ws → b ≤ b' + 3 → R (.dat (.str y)) [x0, .rs (.sg b'), x2, s3, .fr (.lst (ws.map .str)), s5, .fr (.str v), s7, s8, s9, s10]) :
    te2 [x0, .rs (.sg b), x2, s3, .fr (.lst (ws.map .str)), s5, .fr (.str v), s7, s8, s9, s10] R := by
  have e3 : 3 < 1073741824 := by decide
  have hne : ws.map D.str ≠ [] := fun z => ne_of hl (List.map_eq_nil_iff.mp z)
  have hln : (ws.map D.str).length < 1073741824 := by rw [List.length_map]; omega
  refine ⟨rfl, rfl, b, .lst (ws.map .str), ws.map .str, rfl, rfl, by omega, hne, hln, fun x1 b1 h1 hb1 => ?_⟩
  refine ⟨rfl, rfl, b1, .lst (ws.map .str), ws.map .str, rfl, rfl, by omega, hne, hln, fun x2' b2 h2 hb2 => ?_⟩
  refine ⟨sz (n := 3) (by decide), rfl, rfl, b2, .lst [x1, x2', .str v], [x1, x2', .str v], rfl, rfl, by omega, List.cons_ne_nil _ _, e3, fun x b3 hx hb3 => ?_⟩
  have : ∃ y ∈ ws, x = .str y := by
    simp only [List.mem_cons, List.not_mem_nil, or_false] at hx
    rcases hx with rfl | rfl | rfl
    · obtain ⟨y, hy, e⟩ := List.mem_map.mp h1
      exact ⟨y, hy, e.symm⟩
    · obtain ⟨y, hy, e⟩ := List.mem_map.mp h2
      exact ⟨y, hy, e.symm⟩
    · exact ⟨v, hv, rfl⟩
  obtain ⟨y, hy, rfl⟩ := this
  exact h y b3 hy (by omega)
def i2 : DTE := (dBin gAdd ((dVar 4)) ((dSlice ((dVar 4)) dNoP (dPart (dC (.int 1))))))
theorem i2_ok' {R : Rs → TL.Env → Prop} (hl : ws.length = 3) (h : R (.nw (.ls ((ws ++ ws.take 1).map .str))) [x0, .rs (.sg b), x2, s3, .fr (.lst (ws.map .str)), s5, s6, s7, s8, s9, s10]) : i2 [x0, .rs (.sg b), x2, s3, .fr (.lst (ws.map .str)), s5, s6, s7, s8, s9, s10] R := by
  have e : cutD (ws.map D.str) none (some ((1 : Nat) : Int)) = (ws.take 1).map .str := by rw [cutD_take, List.map_take]
  have h' := h
  rw [List.map_append, ← e] at h'
  refine ⟨?_, h'⟩
  refine sz ?_
  rw [List.length_map]
  show ws.length + (cutD (ws.map D.str) none (some ((1 : Nat) : Int))).length ≤ 1000
  rw [e, List.length_map, List.length_take]
  omega
theorem lb2_eq (c : Ca) (w : World) : lb2 c w = dSeq (dSet 1 5 (dLc (iSeq i2) (hName 6) (dYes) te2 [6])) (lb3 c w) := rfl
theorem set_lc2 {t te : DTE} {xs : List D} {k : DTS} {ρ : TL.Env} (h : ∀ P : Rs → TL.Env → Prop, P (.nw (.ls xs)) ρ → t ρ P) (h2 : dLcL (hName 6) dYes te [6] ρ xs [] ρ fun r ρ1 => dPut 1 5 r ρ1 (k E)) : dSeq (dSet 1 5 (dLc (iSeq t) (hName 6) (dYes) te [6])) k E ρ := h _ h2
theorem lb2_ok (hw : ∀ z ∈ ws, Wd z) (hn : ws.Nodup) (hl : ws.length = 3) (h3 : Od s3) (hb : 60 ≤ b) (h : ∀ b' s3 s4 s5 s6 s7 s8 s9 s10, b ≤ b' + 60 → E.nx [x0, .rs (.sg b'), x2, s3, s4, s5, s6, s7, s8, s9, s10]) : lb2 c w E [x0, .rs (.sg b), x2, s3, .fr (.lst (ws.map .str)), s5, s6, s7, s8, s9, s10] := by
  rw [lb2_eq]
  have key : ∀ vs : List Str, vs.length = 4 → (∀ v ∈ vs, v ∈ ws) → dLcL (hName 6) dYes te2 [6] [x0, .rs (.sg b), x2, s3, .fr (.lst (ws.map .str)), s5, s6, s7, s8, s9, s10] (vs.map .str) [] [x0, .rs (.sg b), x2, s3, .fr (.lst (ws.map .str)), s5, s6, s7, s8, s9, s10] fun r ρ1 => dPut 1 5 r ρ1 (lb3 c w E) := fun vs hvl hvs => by
    refine CM.pk_lcM (X := Str) (g := .str) (P := fun _ x => x ∈ ws) (k := 3) (f := fun b s => [x0, .rs (.sg b), x2, s3, .fr (.lst (ws.map .str)), s5, s, s7, s8, s9, s10]) (fun _ _ _ => rfl) _ [] b _ (fun d hd b R hb hR => ?_) (by rw [List.length_map]; show 0 + vs.length ≤ 900; omega) (by rw [List.length_map]; omega) fun ys b1 hz hb1 => ?_
    · obtain ⟨v, hv, rfl⟩ := List.mem_map.mp hd
      exact te2_ok hl (hvs v hv) hb hR
    · rw [List.length_map] at hb1
      have hyl := hz.len
      rw [List.length_map] at hyl
      have hys : ∀ y ∈ ys, y ∈ ws := hz.all (R := fun x => x ∈ ws) fun _ _ h => h
      refine ⟨(by decide : 1 ≤ 5), ?_⟩
      exact lb3_ok (vs := ys) hw hn hl h3 (fun v hv => hw v (hys v hv)) (by omega) (by omega) fun b' s3 s4 s5 s6 s7 s8 s9 s10 hb' => h b' s3 s4 s5 s6 s7 s8 s9 s10 (by omega)
  obtain ⟨vs, hvl, hvs, hi⟩ : ∃ vs : List Str, vs.length = 4 ∧ (∀ v ∈ vs, v ∈ ws) ∧ ∀ P : Rs → TL.Env → Prop, P (.nw (.ls (vs.map .str))) [x0, .rs (.sg b), x2, s3, .fr (.lst (ws.map .str)), s5, s6, s7, s8, s9, s10] → i2 [x0, .rs (.sg b), x2, s3, .fr (.lst (ws.map .str)), s5, s6, s7, s8, s9, s10] P :=
    ⟨ws ++ ws.take 1, by rw [List.length_append, List.length_take]; omega, fun v hv => (List.mem_append.mp hv).elim id List.mem_of_mem_take, fun P hP => i2_ok' hl hP⟩
  exact set_lc2 hi (key vs hvl hvs)
theorem lb1_ok (h3 : Od s3) (hb : 100 ≤ b) (h : ∀ b' s3 s4 s5 s6 s7 s8 s9 s10, b ≤ b' + 100 → E.nx [x0, .rs (.sg b'), x2, s3, s4, s5, s6, s7, s8, s9, s10]) : lb1 c w E [x0, .rs (.sg b), x2, s3, s4, s5, s6, s7, s8, s9, s10] := by
  refine ⟨rfl, rfl, b, 3, rfl, by decide, by omega, fun ws b1 hl hw hn hb1 => ?_⟩
  exact lb2_ok hw hn hl h3 (by omega) fun b' s3 s4 s5 s6 s7 s8 s9 s10 hb' => h b' s3 s4 s5 s6 s7 s8 s9 s10 (by omega)
theorem lb0_ok (hb : 100 ≤ b) (h : ∀ b' s3 s4 s5 s6 s7 s8 s9 s10, b ≤ b' + 100 → E.nx [x0, .rs (.sg b'), x2, s3, s4, s5, s6, s7, s8, s9, s10]) : lb0 c w E [x0, .rs (.sg b), x2, s3, s4, s5, s6, s7, s8, s9, s10] := by
  refine ⟨sz0, sz (n := 1) (by decide), cp 10 30 (by decide) (by decide) rfl, sz (n := 2) (by decide), sz (n := 15) (by decide), (by decide : 1 ≤ 3), ?_⟩
  exact lb1_ok (.inl rfl) hb h
theorem law_loop {body : DTS} (h0 : ∀ (E : DEnds) (x : D) (b : Nat) (s3 s4 s5 s6 s7 s8 s9 s10 : Sl), 100 ≤ b → (∀ b' s3 s4 s5 s6 s7 s8 s9 s10, b ≤ b' + 100 → E.nx [x0, .rs (.sg b'), .fr x, s3, s4, s5, s6, s7, s8, s9, s10]) → body E [x0, .rs (.sg b), .fr x, s3, s4, s5, s6, s7, s8, s9, s10]) :
    ∀ (ds : List D) (b : Nat) (x2 s3 s4 s5 s6 s7 s8 s9 s10 : Sl), 100 * ds.length ≤ b → (∀ b' s2 s3 s4 s5 s6 s7 s8 s9 s10, E.nx [x0, .rs (.sg b'), s2, s3, s4, s5, s6, s7, s8, s9, s10]) → dForL (hName 2) body E ds [x0, .rs (.sg b), x2, s3, s4, s5, s6, s7, s8, s9, s10]
  | [], b, x2, s3, s4, s5, s6, s7, s8, s9, s10, _, h => h b x2 s3 s4 s5 s6 s7 s8 s9 s10
  | x :: ds, b, x2, s3, s4, s5, s6, s7, s8, s9, s10, hb, h => by
    rw [List.length_cons] at hb
    exact h0 { nx := dForL (hName 2) body E ds, rt := E.rt, bk := E.nx, ct := dForL (hName 2) body E ds } x b s3 s4 s5 s6 s7 s8 s9 s10 (by omega) fun b' s3 s4 s5 s6 s7 s8 s9 s10 hb' => law_loop h0 ds b' (.fr x) s3 s4 s5 s6 s7 s8 s9 s10 (by omega) h
end
theorem k_law (c : Ca) (w : World) : Keeps S_law 1 11 (r_law c w) := by
  rintro args Q h0 ⟨ns, rfl, hl, h⟩
  clear h0
  refine ⟨rfl, rfl, ns, rfl, hl, ?_⟩
  have h40 : (if (12 : Int) < (ns.length : Int) then (12 : Int) else (ns.length : Int)) ≤ 12 := by split <;> omega
  have h00 : 0 ≤ (if (12 : Int) < (ns.length : Int) then (12 : Int) else (ns.length : Int)) := by split <;> omega
  have two62 : (2 : Int) ^ 62 = 4611686018427387904 := by decide
  refine ⟨by decide, ?_⟩
  refine ⟨by omega, by omega, ?_⟩
  refine law_loop (body := lb0 c w) (fun E x b s3 s4 s5 s6 s7 s8 s9 s10 hb h => lb0_ok (x2 := .fr x) hb h) _ _ _ _ _ _ _ _ _ _ _ ?_ fun b' s2 s3 s4 s5 s6 s7 s8 s9 s10 => ?_
  · rw [rangeD_len]
    omega
  exact h
theorem law_true (ns : List Int) (hl : ns.length ≤ 63) : S_law [.fr (.scr ns)] fun r _ => r = .dat (.bl true) := ⟨ns, rfl, hl, rfl⟩
end Lk47
namespace Lk47
end Lk47
namespace Lk47
open PySem PySem.Spec PyProof.Rows L2 TL KP
def topS (i : Nat) : Stmt := PySem.Challenge.pw_latekeepers_k47_comparing_refused.main.body.getD i (.Pass ⟨0, 0, 0, 0⟩)
abbrev s_is_list : Stmt := topS 11
theorem sc_is_list : FnScope ["value"] ["value"] (defScope s_is_list) := ⟨rfl, rfl, rfl, by decide +kernel, rfl, by decide +kernel, by decide +kernel⟩
abbrev s_is_word : Stmt := topS 13
theorem sc_is_word : FnScope ["value", "letter"] ["value"] (defScope s_is_word) := ⟨rfl, rfl, rfl, by decide +kernel, rfl, by decide +kernel, by decide +kernel⟩
abbrev s_thing_conditions : Stmt := topS 18
theorem sc_thing_conditions : FnScope ["thing", "wants", "wish", "is_going", "is_held", "found"] ["thing", "wants"] (defScope s_thing_conditions) := ⟨rfl, rfl, rfl, by decide +kernel, rfl, by decide +kernel, by decide +kernel⟩
abbrev s_own_conditions : Stmt := topS 19
theorem sc_own_conditions : FnScope ["thing", "own"] ["thing", "own"] (defScope s_own_conditions) := ⟨rfl, rfl, rfl, by decide +kernel, rfl, by decide +kernel, by decide +kernel⟩
abbrev s_held_for : Stmt := topS 20
theorem sc_held_for : FnScope ["view", "wants", "thing", "own", "other", "stray", "found"] ["view", "wants"] (defScope s_held_for) := ⟨rfl, rfl, rfl, by decide +kernel, rfl, by decide +kernel, by decide +kernel⟩
abbrev s_things_of : Stmt := topS 22
theorem sc_things_of : FnScope ["words", "word", "is_going", "is_held"] ["words"] (defScope s_things_of) := ⟨rfl, rfl, rfl, by decide +kernel, rfl, by decide +kernel, by decide +kernel⟩
abbrev s_views_of : Stmt := topS 23
theorem sc_views_of : FnScope ["words", "owns", "word", "thing", "own", "other", "stray"] ["words"] (defScope s_views_of) := ⟨rfl, rfl, rfl, by decide +kernel, rfl, by decide +kernel, by decide +kernel⟩
abbrev s_are_different : Stmt := topS 31
theorem sc_are_different : FnScope ["things", "some", "one"] ["things", "some"] (defScope s_are_different) := ⟨rfl, rfl, rfl, by decide +kernel, rfl, by decide +kernel, by decide +kernel⟩
abbrev s_is_deed : Stmt := topS 32
theorem sc_is_deed : FnScope ["value"] ["value"] (defScope s_is_deed) := ⟨rfl, rfl, rfl, by decide +kernel, rfl, by decide +kernel, by decide +kernel⟩
abbrev s_is_rule : Stmt := topS 33
theorem sc_is_rule : FnScope ["value", "sight", "deed", "checks"] ["value"] (defScope s_is_rule) := ⟨rfl, rfl, rfl, by decide +kernel, rfl, by decide +kernel, by decide +kernel⟩
abbrev s_are_wants : Stmt := topS 34
theorem sc_are_wants : FnScope ["value", "word"] ["value"] (defScope s_are_wants) := ⟨rfl, rfl, rfl, by decide +kernel, rfl, by decide +kernel, by decide +kernel⟩
abbrev s_Keeper___init__ : Stmt := inClass (topS 35) 0
theorem sc_Keeper___init__ : FnScope ["self", "name", "wants", "rules", "at", "rule", "sight", "deed", "checks"] ["self", "name", "wants", "rules"] (defScope s_Keeper___init__) := ⟨rfl, rfl, rfl, by decide +kernel, rfl, by decide +kernel, by decide +kernel⟩
abbrev s_Keeper___len__ : Stmt := inClass (topS 35) 4
theorem sc_Keeper___len__ : FnScope ["self"] ["self"] (defScope s_Keeper___len__) := ⟨rfl, rfl, rfl, by decide +kernel, rfl, by decide +kernel, by decide +kernel⟩
abbrev s_Keeper_decided : Stmt := inClass (topS 35) 8
theorem sc_Keeper_decided : FnScope ["self", "view", "known", "at", "rule", "condition"] ["self", "view"] (defScope s_Keeper_decided) := ⟨rfl, rfl, rfl, by decide +kernel, rfl, by decide +kernel, by decide +kernel⟩
abbrev s_need_words : Stmt := topS 38
theorem sc_need_words : FnScope ["words", "at", "word"] ["words"] (defScope s_need_words) := ⟨rfl, rfl, rfl, by decide +kernel, rfl, by decide +kernel, by decide +kernel⟩
abbrev s_all_views : Stmt := topS 39
theorem sc_all_views : FnScope ["words"] ["words"] (defScope s_all_views) := ⟨rfl, rfl, rfl, by decide +kernel, rfl, by decide +kernel, by decide +kernel⟩
abbrev s_table_of : Stmt := topS 40
theorem sc_table_of : FnScope ["keeper", "words", "view"] ["keeper", "words"] (defScope s_table_of) := ⟨rfl, rfl, rfl, by decide +kernel, rfl, by decide +kernel, by decide +kernel⟩
abbrev s_choice : Stmt := topS 41
theorem sc_choice : FnScope ["keeper", "view", "at"] ["keeper", "view"] (defScope s_choice) := ⟨rfl, rfl, rfl, by decide +kernel, rfl, by decide +kernel, by decide +kernel⟩
abbrev s_parted : Stmt := topS 42
theorem sc_parted : FnScope ["one", "other", "words", "view"] ["one", "other", "words"] (defScope s_parted) := ⟨rfl, rfl, rfl, by decide +kernel, rfl, by decide +kernel, by decide +kernel⟩
abbrev s_idle : Stmt := topS 43
theorem sc_idle : FnScope ["keeper", "words", "found", "view", "at"] ["keeper", "words"] (defScope s_idle) := ⟨rfl, rfl, rfl, by decide +kernel, rfl, by decide +kernel, by decide +kernel⟩
abbrev s_trimmed : Stmt := topS 44
theorem sc_trimmed : FnScope ["keeper", "words", "found", "at", "fewer"] ["keeper", "words"] (defScope s_trimmed) := ⟨rfl, rfl, rfl, by decide +kernel, rfl, by decide +kernel, by decide +kernel⟩
abbrev s__law_begun : Stmt := topS 46
theorem sc__law_begun : FnScope ["_law_script", "_law_cells", "_law_cell"] ["_law_script"] (defScope s__law_begun) := ⟨rfl, rfl, rfl, by decide +kernel, rfl, by decide +kernel, by decide +kernel⟩
abbrev s__law_mixed : Stmt := topS 47
theorem sc__law_mixed : FnScope ["_law_draw", "_law_turn", "_law_found", "_law_cell", "_law_lap"] ["_law_draw"] (defScope s__law_mixed) := ⟨rfl, rfl, rfl, by decide +kernel, rfl, by decide +kernel, by decide +kernel⟩
abbrev s__law_take : Stmt := topS 48
theorem sc__law_take : FnScope ["_law_draw", "_law_many", "_law_found"] ["_law_draw", "_law_many"] (defScope s__law_take) := ⟨rfl, rfl, rfl, by decide +kernel, rfl, by decide +kernel, by decide +kernel⟩
abbrev s__law_pick : Stmt := topS 49
theorem sc__law_pick : FnScope ["_law_draw", "_law_some"] ["_law_draw", "_law_some"] (defScope s__law_pick) := ⟨rfl, rfl, rfl, by decide +kernel, rfl, by decide +kernel, by decide +kernel⟩
abbrev s__law_word : Stmt := topS 50
theorem sc__law_word : FnScope ["_law_draw", "_law_letters", "_law_long", "_law_lap"] ["_law_draw"] (defScope s__law_word) := ⟨rfl, rfl, rfl, by decide +kernel, rfl, by decide +kernel, by decide +kernel⟩
abbrev s__law_words : Stmt := topS 51
theorem sc__law_words : FnScope ["_law_draw", "_law_many", "_law_found", "_law_turn", "_law_word_here", "_law_spare"] ["_law_draw", "_law_many"] (defScope s__law_words) := ⟨rfl, rfl, rfl, by decide +kernel, rfl, by decide +kernel, by decide +kernel⟩
abbrev s__law_any_rule : Stmt := topS 54
theorem sc__law_any_rule : FnScope ["_law_draw", "_law_some", "_law_known_here", "_law_sight", "_law_one", "_law_word_here", "_law_checks", "_law_part"] ["_law_draw", "_law_some"] (defScope s__law_any_rule) := ⟨rfl, rfl, rfl, by decide +kernel, rfl, by decide +kernel, by decide +kernel⟩
abbrev s__law_refusal : Stmt := topS 57
theorem sc__law_refusal : FnScope ["_law_work", "_law_caught", "error"] ["_law_work"] (defScope s__law_refusal) := ⟨rfl, rfl, rfl, by decide +kernel, rfl, by decide +kernel, by decide +kernel⟩
abbrev s__law_is_plain_word : Stmt := topS 58
theorem sc__law_is_plain_word : FnScope ["_law_thing", "_law_letter"] ["_law_thing"] (defScope s__law_is_plain_word) := ⟨rfl, rfl, rfl, by decide +kernel, rfl, by decide +kernel, by decide +kernel⟩
abbrev s__law_due : Stmt := topS 59
theorem sc__law_due : FnScope ["_law_some", "_law_at", "_law_word_here"] ["_law_some"] (defScope s__law_due) := ⟨rfl, rfl, rfl, by decide +kernel, rfl, by decide +kernel, by decide +kernel⟩
abbrev s_law : Stmt := topS 60
theorem sc_law : FnScope ["_law_script", "_law_draw", "_law_turn", "_law_odd", "_law_pool", "_law_some", "_law_word_here", "_law_made", "_law_due_here", "_law_shown", "_law_found"] ["_law_script"] (defScope s_law) := ⟨rfl, rfl, rfl, by decide +kernel, rfl, by decide +kernel, by decide +kernel⟩
abbrev s_Keeper_name : Stmt := inClass (topS 35) 1
theorem sc_Keeper_name : FnScope ["self"] ["self"] (defScope s_Keeper_name) := ⟨rfl, rfl, rfl, by decide +kernel, rfl, by decide +kernel, by decide +kernel⟩
abbrev s_Keeper_rules : Stmt := inClass (topS 35) 3
theorem sc_Keeper_rules : FnScope ["self"] ["self"] (defScope s_Keeper_rules) := ⟨rfl, rfl, rfl, by decide +kernel, rfl, by decide +kernel, by decide +kernel⟩
abbrev s_Keeper_wants : Stmt := inClass (topS 35) 2
theorem sc_Keeper_wants : FnScope ["self"] ["self"] (defScope s_Keeper_wants) := ⟨rfl, rfl, rfl, by decide +kernel, rfl, by decide +kernel, by decide +kernel⟩
abbrev s_BadWord___init__ : Stmt := inClass (topS 3) 0
theorem sc_BadWord___init__ : FnScope ["self", "thing"] ["self", "thing"] (defScope s_BadWord___init__) := ⟨rfl, rfl, rfl, by decide +kernel, rfl, by decide +kernel, by decide +kernel⟩
structure Top (K : PySem.W.Frag) (mg : Str → Option Value) where
  ca : Ca
  g_KeeperError : mg "KeeperError" = some (.ref ca.KeeperError)
  g_BadWord : mg "BadWord" = some (.ref ca.BadWord)
  ox_BadWord : OexC K ca.BadWord
  f_BadWord___init__ : Addr
  d_BadWord___init__ : FuncData
  F_BadWord___init__ : Fun K "__init__" "BadWord.__init__" s_BadWord___init__ f_BadWord___init__ d_BadWord___init__
  bi_BadWord : Binds K d_BadWord___init__ ["self", "thing"] []
  ic_BadWord : PySem.W.findIn K (.ref ca.BadWord) "__init__" = some (some (.ref f_BadWord___init__)) ∧ PySem.W.typeIn K (.ref f_BadWord___init__) = some (.type "function")
  no_BadWord_thing : PySem.W.findIn K (.ref ca.BadWord) "thing" = some none
  bc_KeeperError : TX.BaseC K ca.KeeperError
  xm_BadWord : PySem.W.exmOne K (.ref ca.BadWord) (.ref ca.KeeperError) = some true
  ec_BadWord : ExcC K ca.BadWord
  kt_BadWord_BadWord : PySem.W.kitOne K (.ref ca.BadWord) (.ref ca.BadWord) = some true
  kn_BadWord : PySem.W.kitOne K (.type "NoneType") (.ref ca.BadWord) = some false
  xf_BadWord : XfC K ca.BadWord
  g_Keeper : mg "Keeper" = some (.ref ca.Keeper)
  cl_Keeper : Cls K ca.Keeper
  na_Keeper_own_name : NoAttr K ca.Keeper "own_name"
  na_Keeper_own_rules : NoAttr K ca.Keeper "own_rules"
  na_Keeper_own_wants : NoAttr K ca.Keeper "own_wants"
  f_is_list : Addr
  d_is_list : FuncData
  F_is_list : Fun K "is_list" "is_list" s_is_list f_is_list d_is_list
  g_is_list : mg "is_list" = some (.ref f_is_list)
  b_is_list : Binds K d_is_list ["value"] []
  f_is_word : Addr
  d_is_word : FuncData
  F_is_word : Fun K "is_word" "is_word" s_is_word f_is_word d_is_word
  g_is_word : mg "is_word" = some (.ref f_is_word)
  b_is_word : Binds K d_is_word ["value"] []
  f_thing_conditions : Addr
  d_thing_conditions : FuncData
  F_thing_conditions : Fun K "thing_conditions" "thing_conditions" s_thing_conditions f_thing_conditions d_thing_conditions
  g_thing_conditions : mg "thing_conditions" = some (.ref f_thing_conditions)
  b_thing_conditions : Binds K d_thing_conditions ["thing", "wants"] []
  f_own_conditions : Addr
  d_own_conditions : FuncData
  F_own_conditions : Fun K "own_conditions" "own_conditions" s_own_conditions f_own_conditions d_own_conditions
  g_own_conditions : mg "own_conditions" = some (.ref f_own_conditions)
  b_own_conditions : Binds K d_own_conditions ["thing", "own"] []
  f_held_for : Addr
  d_held_for : FuncData
  F_held_for : Fun K "held_for" "held_for" s_held_for f_held_for d_held_for
  g_held_for : mg "held_for" = some (.ref f_held_for)
  b_held_for : Binds K d_held_for ["view", "wants"] []
  f_things_of : Addr
  d_things_of : FuncData
  F_things_of : Fun K "things_of" "things_of" s_things_of f_things_of d_things_of
  g_things_of : mg "things_of" = some (.ref f_things_of)
  b_things_of : Binds K d_things_of ["words"] []
  f_views_of : Addr
  d_views_of : FuncData
  F_views_of : Fun K "views_of" "views_of" s_views_of f_views_of d_views_of
  g_views_of : mg "views_of" = some (.ref f_views_of)
  b_views_of : Binds K d_views_of ["words"] []
  f_are_different : Addr
  d_are_different : FuncData
  F_are_different : Fun K "are_different" "are_different" s_are_different f_are_different d_are_different
  g_are_different : mg "are_different" = some (.ref f_are_different)
  b_are_different : Binds K d_are_different ["things", "some"] []
  f_is_deed : Addr
  d_is_deed : FuncData
  F_is_deed : Fun K "is_deed" "is_deed" s_is_deed f_is_deed d_is_deed
  g_is_deed : mg "is_deed" = some (.ref f_is_deed)
  b_is_deed : Binds K d_is_deed ["value"] []
  f_is_rule : Addr
  d_is_rule : FuncData
  F_is_rule : Fun K "is_rule" "is_rule" s_is_rule f_is_rule d_is_rule
  g_is_rule : mg "is_rule" = some (.ref f_is_rule)
  b_is_rule : Binds K d_is_rule ["value"] []
  f_are_wants : Addr
  d_are_wants : FuncData
  F_are_wants : Fun K "are_wants" "are_wants" s_are_wants f_are_wants d_are_wants
  g_are_wants : mg "are_wants" = some (.ref f_are_wants)
  b_are_wants : Binds K d_are_wants ["value"] []
  f_Keeper___init__ : Addr
  d_Keeper___init__ : FuncData
  F_Keeper___init__ : Fun K "__init__" "Keeper.__init__" s_Keeper___init__ f_Keeper___init__ d_Keeper___init__
  b_Keeper___init__ : Binds K d_Keeper___init__ ["self", "name", "wants", "rules"] []
  mk_Keeper : Mk K ca.Keeper f_Keeper___init__
  f_Keeper___len__ : Addr
  d_Keeper___len__ : FuncData
  F_Keeper___len__ : Fun K "__len__" "Keeper.__len__" s_Keeper___len__ f_Keeper___len__ d_Keeper___len__
  b_Keeper___len__ : Binds K d_Keeper___len__ ["self"] []
  me_Keeper___len__ : Meth K ca.Keeper "__len__" f_Keeper___len__
  f_Keeper_decided : Addr
  d_Keeper_decided : FuncData
  F_Keeper_decided : Fun K "decided" "Keeper.decided" s_Keeper_decided f_Keeper_decided d_Keeper_decided
  b_Keeper_decided : Binds K d_Keeper_decided ["self", "view"] []
  me_Keeper_decided : Meth K ca.Keeper "decided" f_Keeper_decided
  f_need_words : Addr
  d_need_words : FuncData
  F_need_words : Fun K "need_words" "need_words" s_need_words f_need_words d_need_words
  g_need_words : mg "need_words" = some (.ref f_need_words)
  b_need_words : Binds K d_need_words ["words"] []
  f_all_views : Addr
  d_all_views : FuncData
  F_all_views : Fun K "all_views" "all_views" s_all_views f_all_views d_all_views
  g_all_views : mg "all_views" = some (.ref f_all_views)
  b_all_views : Binds K d_all_views ["words"] []
  f_table_of : Addr
  d_table_of : FuncData
  F_table_of : Fun K "table_of" "table_of" s_table_of f_table_of d_table_of
  g_table_of : mg "table_of" = some (.ref f_table_of)
  b_table_of : Binds K d_table_of ["keeper", "words"] []
  f_choice : Addr
  d_choice : FuncData
  F_choice : Fun K "choice" "choice" s_choice f_choice d_choice
  g_choice : mg "choice" = some (.ref f_choice)
  b_choice : Binds K d_choice ["keeper", "view"] []
  f_parted : Addr
  d_parted : FuncData
  F_parted : Fun K "parted" "parted" s_parted f_parted d_parted
  g_parted : mg "parted" = some (.ref f_parted)
  b_parted : Binds K d_parted ["one", "other", "words"] []
  f_idle : Addr
  d_idle : FuncData
  F_idle : Fun K "idle" "idle" s_idle f_idle d_idle
  g_idle : mg "idle" = some (.ref f_idle)
  b_idle : Binds K d_idle ["keeper", "words"] []
  f_trimmed : Addr
  d_trimmed : FuncData
  F_trimmed : Fun K "trimmed" "trimmed" s_trimmed f_trimmed d_trimmed
  g_trimmed : mg "trimmed" = some (.ref f_trimmed)
  b_trimmed : Binds K d_trimmed ["keeper", "words"] []
  f__law_begun : Addr
  d__law_begun : FuncData
  F__law_begun : Fun K "_law_begun" "_law_begun" s__law_begun f__law_begun d__law_begun
  g__law_begun : mg "_law_begun" = some (.ref f__law_begun)
  b__law_begun : Binds K d__law_begun ["_law_script"] []
  f__law_mixed : Addr
  d__law_mixed : FuncData
  F__law_mixed : Fun K "_law_mixed" "_law_mixed" s__law_mixed f__law_mixed d__law_mixed
  g__law_mixed : mg "_law_mixed" = some (.ref f__law_mixed)
  b__law_mixed : Binds K d__law_mixed ["_law_draw"] []
  f__law_take : Addr
  d__law_take : FuncData
  F__law_take : Fun K "_law_take" "_law_take" s__law_take f__law_take d__law_take
  g__law_take : mg "_law_take" = some (.ref f__law_take)
  b__law_take : Binds K d__law_take ["_law_draw", "_law_many"] []
  f__law_pick : Addr
  d__law_pick : FuncData
  F__law_pick : Fun K "_law_pick" "_law_pick" s__law_pick f__law_pick d__law_pick
  g__law_pick : mg "_law_pick" = some (.ref f__law_pick)
  b__law_pick : Binds K d__law_pick ["_law_draw", "_law_some"] []
  f__law_word : Addr
  d__law_word : FuncData
  F__law_word : Fun K "_law_word" "_law_word" s__law_word f__law_word d__law_word
  g__law_word : mg "_law_word" = some (.ref f__law_word)
  b__law_word : Binds K d__law_word ["_law_draw"] []
  f__law_words : Addr
  d__law_words : FuncData
  F__law_words : Fun K "_law_words" "_law_words" s__law_words f__law_words d__law_words
  g__law_words : mg "_law_words" = some (.ref f__law_words)
  b__law_words : Binds K d__law_words ["_law_draw", "_law_many"] []
  f__law_any_rule : Addr
  d__law_any_rule : FuncData
  F__law_any_rule : Fun K "_law_any_rule" "_law_any_rule" s__law_any_rule f__law_any_rule d__law_any_rule
  g__law_any_rule : mg "_law_any_rule" = some (.ref f__law_any_rule)
  b__law_any_rule : Binds K d__law_any_rule ["_law_draw", "_law_some"] []
  f__law_refusal : Addr
  d__law_refusal : FuncData
  F__law_refusal : Fun K "_law_refusal" "_law_refusal" s__law_refusal f__law_refusal d__law_refusal
  g__law_refusal : mg "_law_refusal" = some (.ref f__law_refusal)
  b__law_refusal : Binds K d__law_refusal ["_law_work"] []
  f__law_is_plain_word : Addr
  d__law_is_plain_word : FuncData
  F__law_is_plain_word : Fun K "_law_is_plain_word" "_law_is_plain_word" s__law_is_plain_word f__law_is_plain_word d__law_is_plain_word
  g__law_is_plain_word : mg "_law_is_plain_word" = some (.ref f__law_is_plain_word)
  b__law_is_plain_word : Binds K d__law_is_plain_word ["_law_thing"] []
  f__law_due : Addr
  d__law_due : FuncData
  F__law_due : Fun K "_law_due" "_law_due" s__law_due f__law_due d__law_due
  g__law_due : mg "_law_due" = some (.ref f__law_due)
  b__law_due : Binds K d__law_due ["_law_some"] []
  f_law : Addr
  d_law : FuncData
  F_law : Fun K "law" "law" s_law f_law d_law
  g_law : mg "law" = some (.ref f_law)
  b_law : Binds K d_law ["_law_script"] []
  f_Keeper_name : Addr
  d_Keeper_name : FuncData
  F_Keeper_name : Fun K "name" "Keeper.name" s_Keeper_name f_Keeper_name d_Keeper_name
  b_Keeper_name : Binds K d_Keeper_name ["self"] []
  pa_Keeper_name : Addr
  pr_Keeper_name : PropOf K ca.Keeper "name" pa_Keeper_name f_Keeper_name
  pb_Keeper_name : Binds K d_Keeper_name ["self"] []
  f_Keeper_rules : Addr
  d_Keeper_rules : FuncData
  F_Keeper_rules : Fun K "rules" "Keeper.rules" s_Keeper_rules f_Keeper_rules d_Keeper_rules
  b_Keeper_rules : Binds K d_Keeper_rules ["self"] []
  pa_Keeper_rules : Addr
  pr_Keeper_rules : PropOf K ca.Keeper "rules" pa_Keeper_rules f_Keeper_rules
  pb_Keeper_rules : Binds K d_Keeper_rules ["self"] []
  f_Keeper_wants : Addr
  d_Keeper_wants : FuncData
  F_Keeper_wants : Fun K "wants" "Keeper.wants" s_Keeper_wants f_Keeper_wants d_Keeper_wants
  b_Keeper_wants : Binds K d_Keeper_wants ["self"] []
  pa_Keeper_wants : Addr
  pr_Keeper_wants : PropOf K ca.Keeper "wants" pa_Keeper_wants f_Keeper_wants
  pb_Keeper_wants : Binds K d_Keeper_wants ["self"] []
  kw_idle_words : KBn K d_idle ["keeper", "words"] 1 ["words"] (fun us ws => us ++ sel [0] ws) (fun us ws => us ++ sel [0] ws)
  t_LETTERS : Tok
  c_LETTERS : mg "LETTERS" = some (.str "abcdefghijklmnopqrstuvwxyz" t_LETTERS)
  t_LONGEST : Tok
  c_LONGEST : mg "LONGEST" = some (.int 8 t_LONGEST)
  t_TURN : Tok
  c_TURN : mg "TURN" = some (.str "turn" t_TURN)
  t_MOST_CONDITIONS : Tok
  c_MOST_CONDITIONS : mg "MOST_CONDITIONS" = some (.int 6 t_MOST_CONDITIONS)
  t_MOST_RULES : Tok
  c_MOST_RULES : mg "MOST_RULES" = some (.int 8 t_MOST_RULES)
  t_MOST_WANTS : Tok
  c_MOST_WANTS : mg "MOST_WANTS" = some (.int 3 t_MOST_WANTS)
  t_MOST_WORDS : Tok
  c_MOST_WORDS : mg "MOST_WORDS" = some (.int 3 t_MOST_WORDS)
  a_CONDITIONS : Addr
  c_CONDITIONS : mg "CONDITIONS" = some (.ref a_CONDITIONS)
  r_CONDITIONS : ∀ G, Rp K G (.ref a_CONDITIONS) (.tup [.str "alone", .str "bare", .str "child", .str "free", .str "going", .str "gone", .str "held", .str "others", .str "right", .str "strays", .str "there", .str "tidy", .str "unwanted", .str "wanted", .str "wrong"])
  a_PARTS : Addr
  c_PARTS : mg "PARTS" = some (.ref a_PARTS)
  r_PARTS : ∀ G, Rp K G (.ref a_PARTS) (.tup [.str "other", .str "own", .str "stray", .str "thing"])
  a_PLAIN_DEEDS : Addr
  c_PLAIN_DEEDS : mg "PLAIN_DEEDS" = some (.ref a_PLAIN_DEEDS)
  r_PLAIN_DEEDS : ∀ G, Rp K G (.ref a_PLAIN_DEEDS) (.tup [.str "clear", .str "correct", .str "hold", .str "make", .str "mark", .str "release", .str "strike"])
  m_abs : mg "abs" = none
  m_all : mg "all" = none
  m_bool : mg "bool" = none
  m_enumerate : mg "enumerate" = none
  m_int : mg "int" = none
  m_isinstance : mg "isinstance" = none
  m_len : mg "len" = none
  m_list : mg "list" = none
  m_min : mg "min" = none
  m_range : mg "range" = none
  m_repr : mg "repr" = none
  m_set : mg "set" = none
  m_sorted : mg "sorted" = none
  m_str : mg "str" = none
  m_tuple : mg "tuple" = none
section
variable {P : Program} {w : World} {K : PySem.W.Frag} {mg : Str → Option Value} {base : Heap}
def cdsOf (T : Top K mg) : List TLH.Cd := [(TLH.codeAt K T.f_law, TLH.tabAt K T.f_law, (("law" : Str) ++ ".<locals>." ++ "<lambda>"))]
structure Zed (T : Top K mg) (base : Heap) : Prop where
  tb : ∀ t ∈ cdsOf T, LamX.TabB base mg t.1 t.2.1
  un : ∀ p ∈ TLH.tabsOf (cdsOf T), ∀ q ∈ TLH.tabsOf (cdsOf T), p.1 = q.1 → p.2 = q.2
theorem okG_Keeper_name (T : Top K mg) : FnOk P w K mg base CX0 1 T.f_Keeper_name T.d_Keeper_name ["self"] (getSp T.ca.Keeper "own_name") := getter_ok T.F_Keeper_name sc_Keeper_name T.cl_Keeper T.na_Keeper_own_name
theorem okG_Keeper_rules (T : Top K mg) : FnOk P w K mg base CX0 1 T.f_Keeper_rules T.d_Keeper_rules ["self"] (getSp T.ca.Keeper "own_rules") := getter_ok T.F_Keeper_rules sc_Keeper_rules T.cl_Keeper T.na_Keeper_own_rules
theorem okG_Keeper_wants (T : Top K mg) : FnOk P w K mg base CX0 1 T.f_Keeper_wants T.d_Keeper_wants ["self"] (getSp T.ca.Keeper "own_wants") := getter_ok T.F_Keeper_wants sc_Keeper_wants T.cl_Keeper T.na_Keeper_own_wants
theorem oi_BadWord (T : Top K mg) : FnOk P w K mg base CX0 1 T.f_BadWord___init__ T.d_BadWord___init__ ["self", "thing"] (TX.spInit T.ca.BadWord "thing") := TX.ok_init (m := "a value that is no word, or no new one") T.F_BadWord___init__ sc_BadWord___init__ T.ox_BadWord T.no_BadWord_thing fun cdv A outer s H E =>
    pss_cons (ps_expr (TX.pe_binit rfl T.g_KeeperError T.bc_KeeperError (pa_cons (pe_var (i := 0) rfl (.inl rfl)) (pa_cons pe_str pa_nil)))) (pss_one (ps_ost (pe_var (i := 0) rfl (.inl rfl)) (pe_var (i := 1) rfl (.inl rfl))))
theorem ok_is_list (T : Top K mg) (Z : Zed T base) : FnOk P w K mg base CX0 1 T.f_is_list T.d_is_list ["value"] (toSp K (TLH.tabsOf (cdsOf T)) 1 S_is_list) := by
  refine ok_tree T.F_is_list sc_is_list (fun cdv A outer s H E hr =>
    (ds_one (ds_ret (d_callB call_isi2 (c_isi _) (by rfl) T.m_isinstance bt_isinstance (d_cons (d_var 0) (d_cons (d_tup (d_cons (d_bltT (by rfl) T.m_list bt_list) (d_cons (d_bltT (by rfl) T.m_tuple bt_tuple) d_nil))) d_nil)))))) ?_
  exact k_is_list
theorem ok_is_listG (T : Top K mg) (Z : Zed T base) : FnOk P w K mg base CX0 1 T.f_is_list T.d_is_list ["value"] (toSp K (TLH.tabsOf (cdsOf T)) 1 S_is_listG) := by
  refine ok_tree T.F_is_list sc_is_list (fun cdv A outer s H E hr =>
    (ds_one (ds_ret (d_callB call_isi2 (c_isi _) (by rfl) T.m_isinstance bt_isinstance (d_cons (d_var 0) (d_cons (d_tup (d_cons (d_bltT (by rfl) T.m_list bt_list) (d_cons (d_bltT (by rfl) T.m_tuple bt_tuple) d_nil))) d_nil)))))) ?_
  exact k_is_listG
theorem ok_is_word (T : Top K mg) (Z : Zed T base) : FnOk P w K mg base CX0 1 T.f_is_word T.d_is_word ["value"] (toSp K (TLH.tabsOf (cdsOf T)) 1 S_is_word) := by
  refine ok_tree T.F_is_word sc_is_word (fun cdv A outer s H E hr =>
    (ds_cons (ds_if (PW.pt (d_orT (d_notT (d_tst (d_callB call_isi2 (c_isi _) (by rfl) T.m_isinstance bt_isinstance (d_cons (d_var 0) (d_cons (d_bltT (by rfl) T.m_str bt_str) d_nil))))) (d_or1T (d_notT (d_chainT op_le2 op_le2 (c_ord _) (c_ord _) d_int (d_callB call_len2 (c_len _) (by rfl) T.m_len bt_len (d_cons (d_var 0) d_nil)) (d_glob (v := (.int 8)) (d := (.int 8)) (by rfl) T.c_LONGEST ⟨_, rfl⟩ (fun _ => .int _))))))) (ds_one (ds_ret d_bl)) ds_nil)
      (ds_one (ds_ret (d_callB (cr_all rfl) (c_all _) (by rfl) T.m_all bt_all (d_cons (d_lc rfl sc_is_word.nd (di_str (d_var 0)) (blkOk_by (N := ["value", "letter"]) (sc := defScope s_is_word) (own := [("letter", 1)]) (by decide +kernel)) (fun _ _ _ _ _ => (dg_name 1 sc_is_word.nd)) (fun _ _ _ _ _ => dts_nil) (fun _ _ _ _ _ => (d_cmp op_in2 (c_in _) (d_var 1) (d_glob (v := (.str "abcdefghijklmnopqrstuvwxyz")) (d := (.str "abcdefghijklmnopqrstuvwxyz")) (by rfl) T.c_LETTERS ⟨_, rfl⟩ (fun _ => .str _)) rfl))) d_nil)))))) ?_
  exact k_is_word
theorem ok_thing_conditions (T : Top K mg) (Z : Zed T base) : FnOk P w K mg base CX0 1 T.f_thing_conditions T.d_thing_conditions ["thing", "wants"] (toSp K (TLH.tabsOf (cdsOf T)) 2 S_thing_conditions) := by
  refine ok_tree T.F_thing_conditions sc_thing_conditions (fun cdv A outer s H E hr =>
    (ds_cons (ds_if (d_cmpT (op_eq3 hr.units) (c_eq _) (d_var 0) (d_tup d_nil) (nomark _)) (ds_one (ds_ret (d_lst (d_cons d_str d_nil)))) ds_nil)
      (ds_cons (ds_asg (d_frz (d_var 0)) (dg_tup (n := 3) rfl (dg_cons (dg_name 2 sc_thing_conditions.nd) (dg_cons (dg_name 3 sc_thing_conditions.nd) (dg_cons (dg_name 4 sc_thing_conditions.nd) dg_nil)))))
      (ds_cons (ds_set 5 sc_thing_conditions.nd (d_lst (d_cons (d_ife (d_tst (d_var 3)) d_str d_str) (d_cons (d_ife (d_tst (d_var 4)) d_str d_str) d_nil))))
      (ds_one (ds_ret (d_bin op_add4 (c_add _) (d_var 5) (d_lst (d_cons (d_ife (d_cmpT op_in2 (c_in _) (d_var 2) (d_var 1) rfl) d_str d_str) d_nil))))))))) ?_
  exact k_thing_conditions
theorem ok_own_conditions (T : Top K mg) (Z : Zed T base) : FnOk P w K mg base CX0 1 T.f_own_conditions T.d_own_conditions ["thing", "own"] (toSp K (TLH.tabsOf (cdsOf T)) 2 S_own_conditions) := by
  refine ok_tree T.F_own_conditions sc_own_conditions (fun cdv A outer s H E hr =>
    (ds_cons (ds_if (d_cmpT (op_eq3 hr.units) (c_eq _) (d_var 1) (d_tup d_nil) (nomark _)) (ds_one (ds_ret (d_lst (d_cons d_str d_nil)))) ds_nil)
      (ds_one (ds_ret (d_lst (d_cons d_str (d_cons (d_ife (PW.pt (d_andT (d_cmpT (op_ne3 hr.units) (c_ne _) (d_var 0) (d_tup d_nil) (nomark _)) (d_and1T (d_cmpT (op_eq3 hr.units) (c_eq _) (d_ix (d_var 1) d_int) (d_ix (d_var 0) d_int) (nomark _))))) d_str d_str) d_nil))))))) ?_
  exact k_own_conditions
theorem ok_held_for (T : Top K mg) (Z : Zed T base) : FnOk P w K mg base CX0 2 T.f_held_for T.d_held_for ["view", "wants"] (toSp K (TLH.tabsOf (cdsOf T)) 2 S_held_for) := by
  refine ok_tree T.F_held_for sc_held_for (fun cdv A outer s H E hr =>
    (ds_cons (ds_asg (d_frz (d_var 0)) (dg_tup (n := 4) rfl (dg_cons (dg_name 2 sc_held_for.nd) (dg_cons (dg_name 3 sc_held_for.nd) (dg_cons (dg_name 4 sc_held_for.nd) (dg_cons (dg_name 5 sc_held_for.nd) dg_nil))))))
      (ds_cons (ds_set 6 sc_held_for.nd (d_bin op_add4 (c_add _) (d_call ((ok_thing_conditions T Z).mono (by decide)) hr (by rfl) T.g_thing_conditions T.F_thing_conditions.kp T.b_thing_conditions pass0 (d_cons (d_frz (d_var 2)) (d_cons (d_frz (d_var 1)) d_nil))) (d_call ((ok_own_conditions T Z).mono (by decide)) hr (by rfl) T.g_own_conditions T.F_own_conditions.kp T.b_own_conditions pass0 (d_cons (d_frz (d_var 2)) (d_cons (d_frz (d_var 3)) d_nil)))))
      (ds_cons (ds_set 6 sc_held_for.nd (d_bin op_add4 (c_add _) (d_var 6) (d_lst (d_cons (d_ife (d_tst (d_var 4)) d_str d_str) (d_cons (d_ife (d_cmpT (op_eq3 hr.units) (c_eq _) (d_var 5) d_int (nomark _)) d_str d_str) d_nil)))))
      (ds_one (ds_ret (d_callB cr_sorted2 (c_sorted2 _) (by rfl) T.m_sorted bt_sorted (d_cons (d_var 6) d_nil)))))))) ?_
  exact k_held_for
theorem ok_things_of (T : Top K mg) (Z : Zed T base) : FnOk P w K mg base CX0 1 T.f_things_of T.d_things_of ["words"] (toSp K (TLH.tabsOf (cdsOf T)) 1 S_things_of) := by
  refine ok_tree T.F_things_of sc_things_of (fun cdv A outer s H E hr =>
    (ds_one (ds_ret (d_bin op_add4 (c_add _) (d_lst (d_cons (d_tup d_nil) d_nil)) (d_lcN rfl sc_things_of.nd (di_seq (d_frz (d_var 0))) (blkOk_by (N := ["words", "word", "is_going", "is_held"]) (sc := defScope s_things_of) (own := [("word", 1), ("is_going", 2), ("is_held", 3)]) (by decide +kernel)) (fun env => loop_out turn_out3_0 (fun _ => rfl)) (fun _ _ _ _ _ => (dg_name 1 sc_things_of.nd)) (fun _ _ _ _ _ => dts_nil) (fun _ _ _ _ _ => (db_for (vs := [2, 3]) rfl rfl (loop_out turn_out3_1 (fun _ => rfl)) rfl (di_seq (d_tup (d_cons d_bl (d_cons d_bl d_nil)))) (dg_name 2 sc_things_of.nd) dts_nil (db_for (vs := [3]) rfl rfl (loop_in turn_in3) rfl (di_seq (d_tup (d_cons d_bl (d_cons d_bl d_nil)))) (dg_name 3 sc_things_of.nd) dts_nil (db_last rfl (d_tup (d_cons (d_frz (d_var 1)) (d_cons (d_frz (d_var 2)) (d_cons (d_frz (d_var 3)) d_nil))))) (by decide) (by decide)) (by decide) (by decide)))))))) ?_
  exact k_things_of
theorem ok_views_of (T : Top K mg) (Z : Zed T base) : FnOk P w K mg base CX0 2 T.f_views_of T.d_views_of ["words"] (toSp K (TLH.tabsOf (cdsOf T)) 1 S_views_of) := by
  refine ok_tree T.F_views_of sc_views_of (fun cdv A outer s H E hr =>
    (ds_cons (ds_set 1 sc_views_of.nd (d_bin op_add4 (c_add _) (d_lst (d_cons (d_tup d_nil) d_nil)) (d_lc rfl sc_views_of.nd (di_seq (d_frz (d_var 0))) (blkOk_by (N := ["words", "owns", "word", "thing", "own", "other", "stray"]) (sc := defScope s_views_of) (own := [("word", 2)]) (by decide +kernel)) (fun _ _ _ _ _ => (dg_name 2 sc_views_of.nd)) (fun _ _ _ _ _ => dts_nil) (fun _ _ _ _ _ => (d_tup (d_cons d_int (d_cons (d_frz (d_var 2)) d_nil)))))))
      (ds_one (ds_ret (d_lcN rfl sc_views_of.nd (di_seq (d_call ((ok_things_of T Z).mono (by decide)) hr (by rfl) T.g_things_of T.F_things_of.kp T.b_things_of pass0 (d_cons (d_frz (d_var 0)) d_nil))) (blkOk_by (N := ["words", "owns", "word", "thing", "own", "other", "stray"]) (sc := defScope s_views_of) (own := [("thing", 3), ("own", 4), ("other", 5), ("stray", 6)]) (by decide +kernel)) (fun env => loop_out turn_out4_0 (fun _ => rfl)) (fun _ _ _ _ _ => (dg_name 3 sc_views_of.nd)) (fun _ _ _ _ _ => dts_nil) (fun _ _ _ _ _ => (db_for (vs := [4, 5, 6]) rfl rfl (loop_out turn_out4_1 (fun _ => rfl)) rfl (di_seq (d_frz (d_var 1))) (dg_name 4 sc_views_of.nd) dts_nil (db_for (vs := [5, 6]) rfl rfl (loop_out turn_out4_2 (fun _ => rfl)) rfl (di_seq (d_tup (d_cons d_bl (d_cons d_bl d_nil)))) (dg_name 5 sc_views_of.nd) dts_nil (db_for (vs := [6]) rfl rfl (loop_in turn_in4) rfl (di_seq (d_tup (d_cons d_int (d_cons d_int d_nil)))) (dg_name 6 sc_views_of.nd) dts_nil (db_last rfl (d_tup (d_cons (d_frz (d_var 3)) (d_cons (d_frz (d_var 4)) (d_cons (d_frz (d_var 5)) (d_cons (d_frz (d_var 6)) d_nil)))))) (by decide) (by decide)) (by decide) (by decide)) (by decide) (by decide)))))))) ?_
  exact k_views_of
theorem ok_are_different (T : Top K mg) (Z : Zed T base) : FnOk P w K mg base CX0 1 T.f_are_different T.d_are_different ["things", "some"] (toSp K (TLH.tabsOf (cdsOf T)) 2 S_are_different) := by
  refine ok_tree T.F_are_different sc_are_different (fun cdv A outer s H E hr =>
    (ds_cons (ds_if (PW.pt (d_orT (d_notT (d_tst (d_callB call_isi2 (c_isi _) (by rfl) T.m_isinstance bt_isinstance (d_cons (d_var 0) (d_cons (d_bltT (by rfl) T.m_tuple bt_tuple) d_nil))))) (d_or1T (d_notT (d_tst (d_callB (cr_all rfl) (c_all _) (by rfl) T.m_all bt_all (d_cons (d_lc rfl sc_are_different.nd (di_seq (d_frz (d_var 0))) (blkOk_by (N := ["things", "some", "one"]) (sc := defScope s_are_different) (own := [("one", 2)]) (by decide +kernel)) (fun _ _ _ _ _ => (dg_name 2 sc_are_different.nd)) (fun _ _ _ _ _ => dts_nil) (fun _ _ _ _ _ => (d_and (d_callB call_isi2 (c_isi _) (by rfl) T.m_isinstance bt_isinstance (d_cons (d_var 2) (d_cons (d_bltT (by rfl) T.m_str bt_str) d_nil))) (d_one (d_cmp op_in2 (c_in _) (d_var 2) (d_var 1) rfl))))) d_nil))))))) (ds_one (ds_ret d_bl)) ds_nil)
      (ds_one (ds_ret (d_cmp (op_eq3 hr.units) (c_eq _) (d_lenSet rfl (by rfl) T.m_len (by rfl) T.m_set (d_var 0)) (d_callB call_len2 (c_len _) (by rfl) T.m_len bt_len (d_cons (d_var 0) d_nil)) (nomark _)))))) ?_
  exact k_are_different
theorem ok_is_deed (T : Top K mg) (Z : Zed T base) : FnOk P w K mg base CX0 2 T.f_is_deed T.d_is_deed ["value"] (toSp K (TLH.tabsOf (cdsOf T)) 1 S_is_deed) := by
  refine ok_tree T.F_is_deed sc_is_deed (fun cdv A outer s H E hr =>
    (ds_cons (ds_if (PW.pt (d_orT (d_notT (d_tst (d_callB call_isi2 (c_isi _) (by rfl) T.m_isinstance bt_isinstance (d_cons (d_var 0) (d_cons (d_bltT (by rfl) T.m_tuple bt_tuple) d_nil))))) (d_orT (d_cmpT (op_eq3 hr.units) (c_eq _) (d_var 0) (d_tup d_nil) (nomark _)) (d_or1T (d_notT (d_tst (d_callB call_isi2 (c_isi _) (by rfl) T.m_isinstance bt_isinstance (d_cons (d_ix (d_var 0) d_int) (d_cons (d_bltT (by rfl) T.m_str bt_str) d_nil))))))))) (ds_one (ds_ret d_bl)) ds_nil)
      (ds_cons (ds_if (d_cmpT (op_eq3 hr.units) (c_eq _) (d_ix (d_var 0) d_int) (d_glob (v := (.str "turn")) (d := (.str "turn")) (by rfl) T.c_TURN ⟨_, rfl⟩ (fun _ => .str _)) (nomark _)) (ds_one (ds_ret (d_and (d_cmp (op_eq3 hr.units) (c_eq _) (d_callB call_len2 (c_len _) (by rfl) T.m_len bt_len (d_cons (d_var 0) d_nil)) d_int (nomark _)) (d_one (d_call ((ok_is_word T Z).mono (by decide)) hr (by rfl) T.g_is_word T.F_is_word.kp T.b_is_word pass0 (d_cons (d_ix (d_var 0) d_int) d_nil)))))) ds_nil)
      (ds_one (ds_ret (d_and (d_cmp (op_eq3 hr.units) (c_eq _) (d_callB call_len2 (c_len _) (by rfl) T.m_len bt_len (d_cons (d_var 0) d_nil)) d_int (nomark _)) (d_one (d_cmp op_in2 (c_in _) (d_ix (d_var 0) d_int) (d_glob (v := .ref T.a_PLAIN_DEEDS) (d := (.tup [.str "clear", .str "correct", .str "hold", .str "make", .str "mark", .str "release", .str "strike"])) (by rfl) T.c_PLAIN_DEEDS rfl T.r_PLAIN_DEEDS) rfl)))))))) ?_
  exact k_is_deed
theorem ok_is_rule (T : Top K mg) (Z : Zed T base) : FnOk P w K mg base CX0 3 T.f_is_rule T.d_is_rule ["value"] (toSp K (TLH.tabsOf (cdsOf T)) 1 S_is_rule) := by
  refine ok_tree T.F_is_rule sc_is_rule (fun cdv A outer s H E hr =>
    (ds_cons (ds_if (PW.pt (d_orT (d_notT (d_tst (d_callB call_isi2 (c_isi _) (by rfl) T.m_isinstance bt_isinstance (d_cons (d_var 0) (d_cons (d_bltT (by rfl) T.m_tuple bt_tuple) d_nil))))) (d_or1T (d_cmpT (op_ne3 hr.units) (c_ne _) (d_callB call_len2 (c_len _) (by rfl) T.m_len bt_len (d_cons (d_var 0) d_nil)) d_int (nomark _))))) (ds_one (ds_ret d_bl)) ds_nil)
      (ds_cons (ds_asg (d_frz (d_var 0)) (dg_tup (n := 3) rfl (dg_cons (dg_name 1 sc_is_rule.nd) (dg_cons (dg_name 2 sc_is_rule.nd) (dg_cons (dg_name 3 sc_is_rule.nd) dg_nil)))))
      (ds_one (ds_ret (d_and (d_call ((ok_are_different T Z).mono (by decide)) hr (by rfl) T.g_are_different T.F_are_different.kp T.b_are_different pass0 (d_cons (d_frz (d_var 1)) (d_cons (d_glob (v := .ref T.a_CONDITIONS) (d := (.tup [.str "alone", .str "bare", .str "child", .str "free", .str "going", .str "gone", .str "held", .str "others", .str "right", .str "strays", .str "there", .str "tidy", .str "unwanted", .str "wanted", .str "wrong"])) (by rfl) T.c_CONDITIONS rfl T.r_CONDITIONS) d_nil))) (d_and (d_cmp op_le2 (c_ord _) (d_callB call_len2 (c_len _) (by rfl) T.m_len bt_len (d_cons (d_var 1) d_nil)) (d_glob (v := (.int 6)) (d := (.int 6)) (by rfl) T.c_MOST_CONDITIONS ⟨_, rfl⟩ (fun _ => .int _)) (nomark _)) (d_and (d_call ((ok_is_deed T Z).mono (by decide)) hr (by rfl) T.g_is_deed T.F_is_deed.kp T.b_is_deed pass0 (d_cons (d_frz (d_var 2)) d_nil)) (d_one (d_call ((ok_are_different T Z).mono (by decide)) hr (by rfl) T.g_are_different T.F_are_different.kp T.b_are_different pass0 (d_cons (d_frz (d_var 3)) (d_cons (d_glob (v := .ref T.a_PARTS) (d := (.tup [.str "other", .str "own", .str "stray", .str "thing"])) (by rfl) T.c_PARTS rfl T.r_PARTS) d_nil)))))))))))) ?_
  exact k_is_rule
theorem ok_are_wants (T : Top K mg) (Z : Zed T base) : FnOk P w K mg base CX0 2 T.f_are_wants T.d_are_wants ["value"] (toSp K (TLH.tabsOf (cdsOf T)) 1 S_are_wants) := by
  refine ok_tree T.F_are_wants sc_are_wants (fun cdv A outer s H E hr =>
    (ds_cons (ds_if (PW.pt (d_orT (d_notT (d_tst (d_call ((ok_is_list T Z).mono (by decide)) hr (by rfl) T.g_is_list T.F_is_list.kp T.b_is_list pass0 (d_cons (d_frz (d_var 0)) d_nil)))) (d_orT (d_cmpT op_gt2 (c_ord _) (d_callB call_len2 (c_len _) (by rfl) T.m_len bt_len (d_cons (d_var 0) d_nil)) (d_glob (v := (.int 3)) (d := (.int 3)) (by rfl) T.c_MOST_WANTS ⟨_, rfl⟩ (fun _ => .int _)) (nomark _)) (d_or1T (d_notT (d_tst (d_callB (cr_all rfl) (c_all _) (by rfl) T.m_all bt_all (d_cons (d_lc rfl sc_are_wants.nd (di_seq (d_frz (d_var 0))) (blkOk_by (N := ["value", "word"]) (sc := defScope s_are_wants) (own := [("word", 1)]) (by decide +kernel)) (fun _ _ _ _ _ => (dg_name 1 sc_are_wants.nd)) (fun _ _ _ _ _ => dts_nil) (fun _ _ _ _ _ => (d_call ((ok_is_word T Z).mono (by decide)) hr (by rfl) T.g_is_word T.F_is_word.kp T.b_is_word pass0 (d_cons (d_frz (d_var 1)) d_nil)))) d_nil)))))))) (ds_one (ds_ret d_bl)) ds_nil)
      (ds_one (ds_ret (d_cmp (op_eq3 hr.units) (c_eq _) (d_lenSet2 rfl (by rfl) T.m_len (by rfl) T.m_set (d_var 0)) (d_callB call_len2 (c_len _) (by rfl) T.m_len bt_len (d_cons (d_var 0) d_nil)) (nomark _)))))) ?_
  exact k_are_wants
theorem ok_Keeper___init__ (T : Top K mg) (Z : Zed T base) : FnOk P w K mg base CX0 4 T.f_Keeper___init__ T.d_Keeper___init__ ["self", "name", "wants", "rules"] (toSp K (TLH.tabsOf (cdsOf T)) 4 (S_Keeper___init__ T.ca)) := by
  refine ok_tree T.F_Keeper___init__ sc_Keeper___init__ (fun cdv A outer s H E hr =>
    (ds_cons (ds_if (d_notT (d_tst (d_call ((ok_is_word T Z).mono (by decide)) hr (by rfl) T.g_is_word T.F_is_word.kp T.b_is_word pass0 (d_cons (d_frz (d_var 1)) d_nil)))) (ds_one ds_never) ds_nil)
      (ds_cons (ds_if (d_notT (d_tst (d_call ((ok_are_wants T Z).mono (by decide)) hr (by rfl) T.g_are_wants T.F_are_wants.kp T.b_are_wants pass0 (d_cons (d_frz (d_var 2)) d_nil)))) (ds_one ds_never) ds_nil)
      (ds_cons (ds_if (PW.pt (d_orT (d_notT (d_tst (d_call ((ok_is_list T Z).mono (by decide)) hr (by rfl) T.g_is_list T.F_is_list.kp T.b_is_list pass0 (d_cons (d_frz (d_var 3)) d_nil)))) (d_or1T (d_cmpT op_gt2 (c_ord _) (d_callB call_len2 (c_len _) (by rfl) T.m_len bt_len (d_cons (d_var 3) d_nil)) (d_glob (v := (.int 8)) (d := (.int 8)) (by rfl) T.c_MOST_RULES ⟨_, rfl⟩ (fun _ => .int _)) (nomark _))))) (ds_one ds_never) ds_nil)
      (ds_cons (ds_for PassesOwn.never rfl (di_enum (by rfl) T.m_enumerate (d_cons (d_frz (d_var 3)) d_nil)) (dg_tup (n := 2) rfl (dg_cons (dg_name 4 sc_Keeper___init__.nd) (dg_cons (dg_name 5 sc_Keeper___init__.nd) dg_nil))) (ds_one (ds_if (d_notT (d_tst (d_call ((ok_is_rule T Z).mono (by decide)) hr (by rfl) T.g_is_rule T.F_is_rule.kp T.b_is_rule pass0 (d_cons (d_frz (d_var 5)) d_nil)))) (ds_one ds_never) ds_nil)))
      (ds_cons (ds_fld 0 T.cl_Keeper T.na_Keeper_own_name (d_frz (d_var 1)))
      (ds_cons (ds_fld 0 T.cl_Keeper T.na_Keeper_own_wants (d_callT call_tuple_of (c_tuple _) (by rfl) T.m_tuple bt_tuple (d_cons (d_callB cr_sorted2 (c_sorted2 _) (by rfl) T.m_sorted bt_sorted (d_cons (d_var 2) d_nil)) d_nil)))
      (ds_one (ds_fld 0 T.cl_Keeper T.na_Keeper_own_rules (d_callT call_tuple_of (c_tuple _) (by rfl) T.m_tuple bt_tuple (d_cons (d_lc rfl sc_Keeper___init__.nd (di_seq (d_frz (d_var 3))) (blkOk_by (N := ["self", "name", "wants", "rules", "at", "rule", "sight", "deed", "checks"]) (sc := defScope s_Keeper___init__) (own := [("sight", 6), ("deed", 7), ("checks", 8)]) (by decide +kernel)) (fun _ _ _ _ _ => (dg_tup (n := 3) rfl (dg_cons (dg_name 6 sc_Keeper___init__.nd) (dg_cons (dg_name 7 sc_Keeper___init__.nd) (dg_cons (dg_name 8 sc_Keeper___init__.nd) dg_nil))))) (fun _ _ _ _ _ => dts_nil) (fun _ _ _ _ _ => (d_tup (d_cons (d_callT call_tuple_of (c_tuple _) (by rfl) T.m_tuple bt_tuple (d_cons (d_callB cr_sorted2 (c_sorted2 _) (by rfl) T.m_sorted bt_sorted (d_cons (d_var 6) d_nil)) d_nil)) (d_cons (d_frz (d_var 7)) (d_cons (d_callT call_tuple_of (c_tuple _) (by rfl) T.m_tuple bt_tuple (d_cons (d_callB cr_sorted2 (c_sorted2 _) (by rfl) T.m_sorted bt_sorted (d_cons (d_var 8) d_nil)) d_nil)) d_nil)))))) d_nil))))))))))) ?_
  exact k_Keeper___init__ T.ca
theorem ok_Keeper___len__ (T : Top K mg) (Z : Zed T base) : FnOk P w K mg base CX0 1 T.f_Keeper___len__ T.d_Keeper___len__ ["self"] (toSp K (TLH.tabsOf (cdsOf T)) 1 (S_Keeper___len__ T.ca)) := by
  refine ok_tree T.F_Keeper___len__ sc_Keeper___len__ (fun cdv A outer s H E hr =>
    (ds_one (ds_ret (d_callB call_len2 (c_len _) (by rfl) T.m_len bt_len (d_cons (d_fld T.cl_Keeper T.na_Keeper_own_rules (d_var 0)) d_nil))))) ?_
  exact k_Keeper___len__ T.ca
theorem ok_Keeper_decided (T : Top K mg) (Z : Zed T base) : FnOk P w K mg base CX0 3 T.f_Keeper_decided T.d_Keeper_decided ["self", "view"] (toSp K (TLH.tabsOf (cdsOf T)) 2 (S_Keeper_decided T.ca)) := by
  refine ok_tree T.F_Keeper_decided sc_Keeper_decided (fun cdv A outer s H E hr =>
    (ds_cons (ds_set 2 sc_Keeper_decided.nd (d_frz (d_call ((ok_held_for T Z).mono (by decide)) hr (by rfl) T.g_held_for T.F_held_for.kp T.b_held_for pass0 (d_cons (d_frz (d_var 1)) (d_cons (d_fld T.cl_Keeper T.na_Keeper_own_wants (d_var 0)) d_nil)))))
      (ds_cons (ds_for PassesOwn.never rfl (di_enum (by rfl) T.m_enumerate (d_cons (d_fld T.cl_Keeper T.na_Keeper_own_rules (d_var 0)) d_nil)) (dg_tup (n := 2) rfl (dg_cons (dg_name 3 sc_Keeper_decided.nd) (dg_cons (dg_name 4 sc_Keeper_decided.nd) dg_nil))) (ds_one (ds_if (d_tst (d_callB (cr_all rfl) (c_all _) (by rfl) T.m_all bt_all (d_cons (d_lc rfl sc_Keeper_decided.nd (di_seq (d_ix (d_var 4) d_int)) (blkOk_by (N := ["self", "view", "known", "at", "rule", "condition"]) (sc := defScope s_Keeper_decided) (own := [("condition", 5)]) (by decide +kernel)) (fun _ _ _ _ _ => (dg_name 5 sc_Keeper_decided.nd)) (fun _ _ _ _ _ => dts_nil) (fun _ _ _ _ _ => (d_cmp op_in2 (c_in _) (d_var 5) (d_var 2) rfl))) d_nil))) (ds_one (ds_ret (d_var 3))) ds_nil)))
      (ds_one (ds_ret d_non))))) ?_
  exact k_Keeper_decided T.ca
theorem ok_need_words (T : Top K mg) (Z : Zed T base) : FnOk P w K mg base (L2.CX P w) 3 T.f_need_words T.d_need_words ["words"] (toSpX K (TLH.tabsOf (cdsOf T)) 1 (S_need_words T.ca)) := by
  refine okX2_tree T.F_need_words sc_need_words (fun cdv A outer s H E XC hr =>
    (ds_cons (ds_if (PW.pt (d_orT (d_notT (d_tst (d_call ((ok_is_listG T Z).mono (by decide)) hr (by rfl) T.g_is_list T.F_is_list.kp T.b_is_list pass0 (d_cons (d_frz (d_var 0)) d_nil)))) (d_or1T (d_notT (d_chainT op_le2 op_le2 (c_ord _) (c_ord _) d_int (d_callB call_len2 (c_len _) (by rfl) T.m_len bt_len (d_cons (d_var 0) d_nil)) (d_glob (v := (.int 3)) (d := (.int 3)) (by rfl) T.c_MOST_WORDS ⟨_, rfl⟩ (fun _ => .int _))))))) (ds_one (ds_raise rfl T.ox_BadWord T.ic_BadWord.1 T.ic_BadWord.2 (oi_BadWord T) (hr.mono (by decide)) T.bi_BadWord (by rfl) T.g_BadWord (takes_of rfl rfl rfl rfl) (d_cons d_non d_nil))) ds_nil)
      (ds_one (ds_for (passesX rfl) rfl (di_enum (by rfl) T.m_enumerate (d_cons (d_frz (d_var 0)) d_nil)) (dg_tup (n := 2) rfl (dg_cons (dg_name 1 sc_need_words.nd) (dg_cons (dg_name 2 sc_need_words.nd) dg_nil))) (ds_one (ds_if (PW.pt (d_orT (d_notT (d_tst (d_call ((ok_is_word T Z).mono (by decide)) hr (by rfl) T.g_is_word T.F_is_word.kp T.b_is_word pass0 (d_cons (d_frz (d_var 2)) d_nil)))) (d_or1T (d_cmpT op_in2 (c_in _) (d_var 2) (d_slice (d_var 0) d_nop (d_part (d_var 1))) rfl)))) (ds_one (ds_raise rfl T.ox_BadWord T.ic_BadWord.1 T.ic_BadWord.2 (oi_BadWord T) (hr.mono (by decide)) T.bi_BadWord (by rfl) T.g_BadWord (takes_of rfl rfl rfl rfl) (d_cons (d_frz (d_var 2)) d_nil))) ds_nil)))))) ?_
  exact k_need_words T.ca
theorem ok_all_views (T : Top K mg) (Z : Zed T base) : FnOk P w K mg base (L2.CX P w) 4 T.f_all_views T.d_all_views ["words"] (toSpX K (TLH.tabsOf (cdsOf T)) 1 (S_all_views T.ca)) := by
  refine okX2_tree T.F_all_views sc_all_views (fun cdv A outer s H E XC hr =>
    (ds_cons (ds_expr (d_callX ((ok_need_words T Z).mono (by decide)) hr (by rfl) T.g_need_words T.F_need_words.kp T.b_need_words (takes_of rfl rfl rfl rfl) (d_cons (d_frz (d_var 0)) d_nil)))
      (ds_one (ds_ret (d_call ((ok_views_of T Z).mono (by decide)) hr (by rfl) T.g_views_of T.F_views_of.kp T.b_views_of pass0 (d_cons (d_callB cr_sorted2 (c_sorted2 _) (by rfl) T.m_sorted bt_sorted (d_cons (d_var 0) d_nil)) d_nil)))))) ?_
  exact k_all_views T.ca
theorem ok_table_of (T : Top K mg) (Z : Zed T base) : FnOk P w K mg base (L2.CX P w) 5 T.f_table_of T.d_table_of ["keeper", "words"] (toSpX K (TLH.tabsOf (cdsOf T)) 2 (S_table_of T.ca w)) := by
  refine okX2_tree T.F_table_of sc_table_of (fun cdv A outer s H E XC hr =>
    (ds_one (ds_ret (d_tbW w rfl rfl hr.units sc_table_of.nd (di_seq (d_callX ((ok_all_views T Z).mono (by decide)) hr (by rfl) T.g_all_views T.F_all_views.kp T.b_all_views (takes_of rfl rfl rfl rfl) (d_cons (d_frz (d_var 1)) d_nil))) (blkOk_by (N := ["keeper", "words", "view"]) (sc := defScope s_table_of) (own := [("view", 2)]) (by decide +kernel)) (fun _ _ _ _ _ => (dg_name 2 sc_table_of.nd)) (fun _ _ _ _ _ => dts_nil) (fun _ _ _ _ _ => (d_frz (d_var 2))) (fun _ _ _ _ _ => (d_ometh (d_var 0) T.cl_Keeper T.me_Keeper_decided ((ok_Keeper_decided T Z).mono (by decide)) hr T.b_Keeper_decided pass0 (d_cons (d_frz (d_var 2)) d_nil))))))) ?_
  exact k_table_of T.ca w
theorem ok_choice (T : Top K mg) (Z : Zed T base) : FnOk P w K mg base CX0 4 T.f_choice T.d_choice ["keeper", "view"] (toSp K (TLH.tabsOf (cdsOf T)) 2 (S_choice T.ca)) := by
  refine ok_tree T.F_choice sc_choice (fun cdv A outer s H E hr =>
    (ds_cons (ds_set 2 sc_choice.nd (d_ometh (d_var 0) T.cl_Keeper T.me_Keeper_decided ((ok_Keeper_decided T Z).mono (by decide)) hr T.b_Keeper_decided pass0 (d_cons (d_frz (d_var 1)) d_nil)))
      (ds_one (ds_ret (d_ife (d_cmpT op_isN (c_isN _) (d_var 2) d_non (nomark _)) d_non (d_slice (d_ix (d_prop T.cl_Keeper T.pr_Keeper_rules (okG_Keeper_rules T) (hr.mono (by decide)) T.pb_Keeper_rules pass0 (d_var 0)) (d_var 2)) (d_part d_int) d_nop)))))) ?_
  exact k_choice T.ca
theorem ok_parted (T : Top K mg) (Z : Zed T base) : FnOk P w K mg base (L2.CX P w) 5 T.f_parted T.d_parted ["one", "other", "words"] (toSpX K (TLH.tabsOf (cdsOf T)) 3 (S_parted T.ca)) := by
  refine okX2_tree T.F_parted sc_parted (fun cdv A outer s H E XC hr =>
    (ds_cons (ds_for (passesX rfl) rfl (di_seq (d_callX ((ok_all_views T Z).mono (by decide)) hr (by rfl) T.g_all_views T.F_all_views.kp T.b_all_views (takes_of rfl rfl rfl rfl) (d_cons (d_frz (d_var 2)) d_nil))) (dg_name 3 sc_parted.nd) (ds_one (ds_if (d_cmpT (op_ne3 hr.units) (c_ne _) (d_call ((ok_choice T Z).mono (by decide)) hr (by rfl) T.g_choice T.F_choice.kp T.b_choice pass0 (d_cons (d_frz (d_var 0)) (d_cons (d_frz (d_var 3)) d_nil))) (d_call ((ok_choice T Z).mono (by decide)) hr (by rfl) T.g_choice T.F_choice.kp T.b_choice pass0 (d_cons (d_frz (d_var 1)) (d_cons (d_frz (d_var 3)) d_nil))) (nomark _)) (ds_one (ds_ret (d_var 3))) ds_nil)))
      (ds_one (ds_ret d_non)))) ?_
  exact k_parted T.ca
theorem ok_idle (T : Top K mg) (Z : Zed T base) : FnOk P w K mg base (L2.CX P w) 5 T.f_idle T.d_idle ["keeper", "words"] (toSpX K (TLH.tabsOf (cdsOf T)) 2 (S_idle T.ca)) := by
  refine okX2_tree T.F_idle sc_idle (fun cdv A outer s H E XC hr =>
    (ds_cons (ds_setX 2 sc_idle.nd (d_kc rfl sc_idle.nd (di_seq (d_callX ((ok_all_views T Z).mono (by decide)) hr (by rfl) T.g_all_views T.F_all_views.kp T.b_all_views (takes_of rfl rfl rfl rfl) (d_cons (d_frz (d_var 1)) d_nil))) (blkOk_by (N := ["keeper", "words", "found", "view", "at"]) (sc := defScope s_idle) (own := [("view", 3)]) (by decide +kernel)) (fun _ _ _ _ _ => (dg_name 3 sc_idle.nd)) (fun _ _ _ _ _ => dts_nil) (fun _ _ _ _ _ => (d_ometh (d_var 0) T.cl_Keeper T.me_Keeper_decided ((ok_Keeper_decided T Z).mono (by decide)) hr T.b_Keeper_decided pass0 (d_cons (d_frz (d_var 3)) d_nil))) (fun _ _ _ _ _ => d_bl)))
      (ds_one (ds_ret (d_lc rfl sc_idle.nd (di_range1 (by rfl) T.m_range (d_cons (d_callB (call_olen T.me_Keeper___len__ ((ok_Keeper___len__ T Z).mono (by decide)) hr T.b_Keeper___len__ pass0) c_olen (by rfl) T.m_len bt_len (d_cons (d_var 0) d_nil)) d_nil)) (blkOk_by (N := ["keeper", "words", "found", "view", "at"]) (sc := defScope s_idle) (own := [("at", 4)]) (by decide +kernel)) (fun _ _ _ _ _ => (dg_name 4 sc_idle.nd)) (fun _ _ _ _ _ => (dts_one (d_notinKdT 2 (d_var 4)))) (fun _ _ _ _ _ => (d_frz (d_var 4)))))))) ?_
  exact k_idle T.ca
theorem ok_trimmed (T : Top K mg) (Z : Zed T base) : FnOk P w K mg base (L2.CX P w) 6 T.f_trimmed T.d_trimmed ["keeper", "words"] (toSpX K (TLH.tabsOf (cdsOf T)) 2 (S_trimmed T.ca)) := by
  refine okX2_tree T.F_trimmed sc_trimmed (fun cdv A outer s H E XC hr =>
    (ds_cons (ds_expr (d_callX ((ok_need_words T Z).mono (by decide)) hr (by rfl) T.g_need_words T.F_need_words.kp T.b_need_words (takes_of rfl rfl rfl rfl) (d_cons (d_frz (d_var 1)) d_nil)))
      (ds_cons (ds_setX 2 sc_trimmed.nd (d_frz (d_var 0)))
      (ds_cons (ds_for (passesX rfl) rfl (di_range3 (by rfl) T.m_range (d_cons (d_bin op_sub (c_sub _) (d_callB (call_olen T.me_Keeper___len__ ((ok_Keeper___len__ T Z).mono (by decide)) hr T.b_Keeper___len__ pass0) c_olen (by rfl) T.m_len bt_len (d_cons (d_var 0) d_nil)) d_int) (d_cons (d_un un_neg (c_neg _) d_int) (d_cons (d_un un_neg (c_neg _) d_int) d_nil)))) (dg_name 3 sc_trimmed.nd) (ds_cons (ds_setX 4 sc_trimmed.nd (d_makeX T.mk_Keeper ((ok_Keeper___init__ T Z).mono (by decide)) hr (by rfl) T.g_Keeper T.b_Keeper___init__ pass0 (d_cons (d_prop T.cl_Keeper T.pr_Keeper_name (okG_Keeper_name T) (hr.mono (by decide)) T.pb_Keeper_name pass0 (d_var 2)) (d_cons (d_prop T.cl_Keeper T.pr_Keeper_wants (okG_Keeper_wants T) (hr.mono (by decide)) T.pb_Keeper_wants pass0 (d_var 2)) (d_cons (d_bin op_add4 (c_add _) (d_slice (d_prop T.cl_Keeper T.pr_Keeper_rules (okG_Keeper_rules T) (hr.mono (by decide)) T.pb_Keeper_rules pass0 (d_var 2)) d_nop (d_part (d_var 3))) (d_slice (d_prop T.cl_Keeper T.pr_Keeper_rules (okG_Keeper_rules T) (hr.mono (by decide)) T.pb_Keeper_rules pass0 (d_var 2)) (d_part (d_bin op_add4 (c_add _) (d_var 3) d_int)) d_nop)) d_nil)))))
      (ds_one (ds_if (d_cmpT op_isN (c_isN _) (d_callX ((ok_parted T Z).mono (by decide)) hr (by rfl) T.g_parted T.F_parted.kp T.b_parted (takes_of rfl rfl rfl rfl) (d_cons (d_frz (d_var 2)) (d_cons (d_frz (d_var 4)) (d_cons (d_frz (d_var 1)) d_nil)))) d_non (nomark _)) (ds_one (ds_setX 2 sc_trimmed.nd (d_frz (d_var 4)))) ds_nil))))
      (ds_one (ds_ret (d_var 2))))))) ?_
  exact k_trimmed T.ca
theorem ok__law_begun (T : Top K mg) (Z : Zed T base) : FnOk P w K mg base CX0 1 T.f__law_begun T.d__law_begun ["_law_script"] (toSp K (TLH.tabsOf (cdsOf T)) 1 S__law_begun) := by
  refine ok_tree T.F__law_begun sc__law_begun (fun cdv A outer s H E hr =>
    (ds_cons (ds_setLc 1 rfl sc__law_begun.nd (di_seq (d_frz (d_var 0))) (blkOk_by (N := ["_law_script", "_law_cells", "_law_cell"]) (sc := defScope s__law_begun) (own := [("_law_cell", 2)]) (by decide +kernel)) (fun _ _ _ _ _ => (dg_name 2 sc__law_begun.nd)) (fun _ _ _ _ _ => dts_nil) (fun _ _ _ _ _ => (d_callB call_abs (c_abs _) (by rfl) T.m_abs bt_abs (d_cons (d_var 2) d_nil))) (by rfl))
      (ds_one (ds_ret (d_sgNew 1 (d_lc rfl sc__law_begun.nd (di_seq (d_frz (d_var 1))) (blkOk_by (N := ["_law_script", "_law_cells", "_law_cell"]) (sc := defScope s__law_begun) (own := [("_law_cell", 2)]) (by decide +kernel)) (fun _ _ _ _ _ => (dg_name 2 sc__law_begun.nd)) (fun _ _ _ _ _ => (dts_one (d_cmpT op_ge2 (c_ord _) (d_var 2) (d_bin op_pow (c_pow _) d_int d_int) (nomark _)))) (fun _ _ _ _ _ => (d_bin op_sub (c_sub _) (d_var 2) (d_bin op_pow (c_pow _) d_int d_int))))))))) ?_
  exact k__law_begun
theorem ok__law_mixed (T : Top K mg) (Z : Zed T base) : FnOk P w K mg base CX0 1 T.f__law_mixed T.d__law_mixed ["_law_draw"] (toSp K (TLH.tabsOf (cdsOf T)) 1 S__law_mixed) := by
  refine ok_tree T.F__law_mixed sc__law_mixed (fun cdv A outer s H E hr =>
    (ds_cons (ds_set 1 sc__law_mixed.nd (d_bin op_add4 (c_add _) (d_sgTurn 0 (hu_of hr)) d_int))
      (ds_cons (ds_sgTurn 0 (hu_of hr) (d_var 1))
      (ds_cons (ds_set 2 sc__law_mixed.nd (d_bin op_add4 (c_add _) (d_bin op_mul2 (c_mul _) d_int (d_var 1)) (d_callB call_len2 (c_len _) (by rfl) T.m_len bt_len (d_cons (d_sgCells 0 (hu_of hr)) d_nil))))
      (ds_cons (ds_for PassesOwn.never rfl (di_seq (d_sgCells 0 (hu_of hr))) (dg_name 3 sc__law_mixed.nd) (ds_one (ds_set 2 sc__law_mixed.nd (d_bin op_mod (c_mod _) (d_callT call_int1 (c_int _) (by rfl) T.m_int bt_int (d_cons (d_bin op_add4 (c_add _) (d_bin op_add4 (c_add _) (d_bin op_mul2 (c_mul _) (d_var 2) d_int) (d_var 3)) (d_bin op_mul2 (c_mul _) d_int (d_var 1))) d_nil)) d_int))))
      (ds_cons (ds_for PassesOwn.never rfl (di_range1 (by rfl) T.m_range (d_cons d_int d_nil)) (dg_name 4 sc__law_mixed.nd) (ds_one (ds_set 2 sc__law_mixed.nd (d_bin op_mod (c_mod _) (d_callT call_int1 (c_int _) (by rfl) T.m_int bt_int (d_cons (d_bin op_add4 (c_add _) (d_bin op_add4 (c_add _) (d_bin op_add4 (c_add _) (d_bin op_mul2 (c_mul _) (d_var 2) (d_var 2)) (d_bin op_mul2 (c_mul _) d_int (d_var 2))) d_int) (d_var 4)) d_nil)) d_int))))
      (ds_one (ds_ret (d_var 2))))))))) ?_
  exact k__law_mixed
theorem ok__law_take (T : Top K mg) (Z : Zed T base) : FnOk P w K mg base CX0 2 T.f__law_take T.d__law_take ["_law_draw", "_law_many"] (toSp K (TLH.tabsOf (cdsOf T)) 2 S__law_take) := by
  refine ok_tree T.F__law_take sc__law_take (fun cdv A outer s H E hr =>
    (ds_drawG 0 (ds_cons (ds_if (d_cmpT (op_eq3 hr.units) (c_eq _) (d_sgRest 0 (hu_of hr)) d_int (nomark _)) (ds_one (ds_sgRest 0 (hu_of hr) (d_ife (d_sgAny 0 (hu_of hr)) (d_sgPop 0 (hu_of hr)) (d_call ((ok__law_mixed T Z).mono (by decide)) hr (by rfl) T.g__law_mixed T.F__law_mixed.kp T.b__law_mixed pass0 (d_cons (d_var 0) d_nil))))) ds_nil)
      (ds_cons (ds_set 2 sc__law_take.nd (d_bin op_mod (c_mod _) (d_callT call_int1 (c_int _) (by rfl) T.m_int bt_int (d_cons (d_sgRest 0 (hu_of hr)) d_nil)) (d_var 1)))
      (ds_cons (ds_sgRest 0 (hu_of hr) (d_bin op_fdiv (c_div _) (d_sgRest 0 (hu_of hr)) (d_var 1)))
      (ds_one (ds_ret (d_var 2)))))))) ?_
  exact k__law_take
theorem ok__law_pick (T : Top K mg) (Z : Zed T base) : FnOk P w K mg base CX0 3 T.f__law_pick T.d__law_pick ["_law_draw", "_law_some"] (toSp K (TLH.tabsOf (cdsOf T)) 2 S__law_pick) := by
  refine ok_tree T.F__law_pick sc__law_pick (fun cdv A outer s H E hr =>
    (ds_one (ds_ret (d_ix (d_var 1) (d_call ((ok__law_take T Z).mono (by decide)) hr (by rfl) T.g__law_take T.F__law_take.kp T.b__law_take pass0 (d_cons (d_var 0) (d_cons (d_callB call_len2 (c_len _) (by rfl) T.m_len bt_len (d_cons (d_var 1) d_nil)) d_nil))))))) ?_
  exact k__law_pick
theorem ok__law_word (T : Top K mg) (Z : Zed T base) : FnOk P w K mg base CX0 4 T.f__law_word T.d__law_word ["_law_draw"] (toSp K (TLH.tabsOf (cdsOf T)) 1 S__law_word) := by
  refine ok_tree T.F__law_word sc__law_word (fun cdv A outer s H E hr =>
    (ds_cons (ds_if (d_cmpT (op_eq3 hr.units) (c_eq _) (d_call ((ok__law_take T Z).mono (by decide)) hr (by rfl) T.g__law_take T.F__law_take.kp T.b__law_take pass0 (d_cons (d_var 0) (d_cons d_int d_nil))) d_int (nomark _)) (ds_one (ds_ret (d_call ((ok__law_pick T Z).mono (by decide)) hr (by rfl) T.g__law_pick T.F__law_pick.kp T.b__law_pick pass0 (d_cons (d_var 0) (d_cons (d_lst (d_cons d_str (d_cons d_str (d_cons d_str (d_cons d_str (d_cons d_str (d_cons d_str (d_cons d_str (d_cons d_str (d_cons d_str (d_cons d_str (d_cons d_str d_nil)))))))))))) d_nil))))) ds_nil)
      (ds_cons (ds_set 1 sc__law_word.nd d_str)
      (ds_cons (ds_set 2 sc__law_word.nd (d_frz (d_call ((ok__law_pick T Z).mono (by decide)) hr (by rfl) T.g__law_pick T.F__law_pick.kp T.b__law_pick pass0 (d_cons (d_var 0) (d_cons (d_lst (d_cons d_int (d_cons d_int (d_cons d_int (d_cons d_int (d_cons d_int d_nil)))))) d_nil)))))
      (ds_one (ds_ret (d_m1 PySem.F.slot_str_join PySem.F.type_str_join mt_join (c_join _) d_str (d_lc rfl sc__law_word.nd (di_range1 (by rfl) T.m_range (d_cons (d_var 2) d_nil)) (blkOk_by (N := ["_law_draw", "_law_letters", "_law_long", "_law_lap"]) (sc := defScope s__law_word) (own := [("_law_lap", 3)]) (by decide +kernel)) (fun _ _ _ _ _ => (dg_name 3 sc__law_word.nd)) (fun _ _ _ _ _ => dts_nil) (fun _ _ _ _ _ => (d_call ((ok__law_pick T Z).mono (by decide)) hr (by rfl) T.g__law_pick T.F__law_pick.kp T.b__law_pick pass0 (d_cons (d_var 0) (d_cons (d_frz (d_var 1)) d_nil)))))))))))) ?_
  exact k__law_word
theorem ok__law_words (T : Top K mg) (Z : Zed T base) : FnOk P w K mg base CX0 5 T.f__law_words T.d__law_words ["_law_draw", "_law_many"] (toSp K (TLH.tabsOf (cdsOf T)) 2 S__law_words) := by
  refine ok_tree T.F__law_words sc__law_words (fun cdv A outer s H E hr =>
    (ds_cons (ds_set 2 sc__law_words.nd (d_lst d_nil))
      (ds_cons (ds_for PassesOwn.never rfl (di_range1 (by rfl) T.m_range (d_cons (d_var 1) d_nil)) (dg_name 3 sc__law_words.nd) (ds_cons (ds_set 4 sc__law_words.nd (d_frz (d_call ((ok__law_word T Z).mono (by decide)) hr (by rfl) T.g__law_word T.F__law_word.kp T.b__law_word pass0 (d_cons (d_var 0) d_nil))))
      (ds_one (ds_expr (d_methF 2 PySem.F.slot_list_append PySem.F.type_list_append mt_append (cm_append _) (d_cons (d_ix (d_lc rfl sc__law_words.nd (di_seq (d_lst (d_cons (d_frz (d_var 4)) (d_cons d_str (d_cons d_str (d_cons d_str (d_cons d_str (d_cons d_str (d_cons d_str d_nil))))))))) (blkOk_by (N := ["_law_draw", "_law_many", "_law_found", "_law_turn", "_law_word_here", "_law_spare"]) (sc := defScope s__law_words) (own := [("_law_spare", 5)]) (by decide +kernel)) (fun _ _ _ _ _ => (dg_name 5 sc__law_words.nd)) (fun _ _ _ _ _ => (dts_one (d_cmpT op_notin2 (c_in _) (d_var 5) (d_var 2) rfl))) (fun _ _ _ _ _ => (d_frz (d_var 5)))) d_int) d_nil))))))
      (ds_one (ds_ret (d_var 2)))))) ?_
  exact k__law_words
theorem ok__law_any_rule (T : Top K mg) (Z : Zed T base) : FnOk P w K mg base CX0 4 T.f__law_any_rule T.d__law_any_rule ["_law_draw", "_law_some"] (toSp K (TLH.tabsOf (cdsOf T)) 2 S__law_any_rule) := by
  refine ok_tree T.F__law_any_rule sc__law_any_rule (fun cdv A outer s H E hr =>
    (ds_cons (ds_set 2 sc__law_any_rule.nd (d_lst (d_cons d_str (d_cons d_str (d_cons d_str (d_cons d_str (d_cons d_str (d_cons d_str (d_cons d_str (d_cons d_str (d_cons d_str (d_cons d_str (d_cons d_str (d_cons d_str d_nil))))))))))))))
      (ds_cons (ds_set 2 sc__law_any_rule.nd (d_bin op_add4 (c_add _) (d_var 2) (d_lst (d_cons d_str (d_cons d_str (d_cons d_str d_nil))))))
      (ds_cons (ds_set 3 sc__law_any_rule.nd (d_slice (d_lc rfl sc__law_any_rule.nd (di_seq (d_frz (d_var 2))) (blkOk_by (N := ["_law_draw", "_law_some", "_law_known_here", "_law_sight", "_law_one", "_law_word_here", "_law_checks", "_law_part"]) (sc := defScope s__law_any_rule) (own := [("_law_one", 4)]) (by decide +kernel)) (fun _ _ _ _ _ => (dg_name 4 sc__law_any_rule.nd)) (fun _ _ _ _ _ => (dts_one (d_cmpT (op_eq3 hr.units) (c_eq _) (d_call ((ok__law_take T Z).mono (by decide)) hr (by rfl) T.g__law_take T.F__law_take.kp T.b__law_take pass0 (d_cons (d_var 0) (d_cons d_int d_nil))) d_int (nomark _)))) (fun _ _ _ _ _ => (d_frz (d_var 4)))) d_nop (d_part (d_call ((ok__law_take T Z).mono (by decide)) hr (by rfl) T.g__law_take T.F__law_take.kp T.b__law_take pass0 (d_cons (d_var 0) (d_cons d_int d_nil))))))
      (ds_cons (ds_set 5 sc__law_any_rule.nd (d_frz (d_call ((ok__law_pick T Z).mono (by decide)) hr (by rfl) T.g__law_pick T.F__law_pick.kp T.b__law_pick pass0 (d_cons (d_var 0) (d_cons (d_lst (d_cons d_str (d_cons d_str (d_cons d_str (d_cons d_str (d_cons d_str (d_cons d_str (d_cons d_str (d_cons d_str d_nil))))))))) d_nil)))))
      (ds_cons (ds_setLc 6 rfl sc__law_any_rule.nd (di_seq (d_lst (d_cons d_str (d_cons d_str (d_cons d_str (d_cons d_str d_nil)))))) (blkOk_by (N := ["_law_draw", "_law_some", "_law_known_here", "_law_sight", "_law_one", "_law_word_here", "_law_checks", "_law_part"]) (sc := defScope s__law_any_rule) (own := [("_law_part", 7)]) (by decide +kernel)) (fun _ _ _ _ _ => (dg_name 7 sc__law_any_rule.nd)) (fun _ _ _ _ _ => (dts_one (d_cmpT (op_eq3 hr.units) (c_eq _) (d_call ((ok__law_take T Z).mono (by decide)) hr (by rfl) T.g__law_take T.F__law_take.kp T.b__law_take pass0 (d_cons (d_var 0) (d_cons d_int d_nil))) d_int (nomark _)))) (fun _ _ _ _ _ => (d_frz (d_var 7))) (by rfl))
      (ds_one (ds_ret (d_tup (d_cons (d_callT call_tuple_of (c_tuple _) (by rfl) T.m_tuple bt_tuple (d_cons (d_rev (d_var 3)) d_nil)) (d_cons (d_ife (d_cmpT (op_eq3 hr.units) (c_eq _) (d_var 5) d_str (nomark _)) (d_tup (d_cons d_str (d_cons (d_call ((ok__law_pick T Z).mono (by decide)) hr (by rfl) T.g__law_pick T.F__law_pick.kp T.b__law_pick pass0 (d_cons (d_var 0) (d_cons (d_frz (d_var 1)) d_nil))) d_nil))) (d_tup (d_cons (d_frz (d_var 5)) d_nil))) (d_cons (d_callT call_tuple_of (c_tuple _) (by rfl) T.m_tuple bt_tuple (d_cons (d_var 6) d_nil)) d_nil)))))))))))) ?_
  exact k__law_any_rule
theorem rs__law_refusal (T : Top K mg) {A : Around} {outer : List PySem.Env} {s : Shared} {H : Hp} {cdv : Value} (gz : A.guards = some []) (hr : Room 0 (A.deeper (envOfC "_law_refusal" (defScope s__law_refusal) s.heap.objs.size T.f__law_refusal cdv))) : PSs (cxOf C8.CX0 P w K mg base ["_law_work", "_law_caught", "error"] "_law_refusal" (defScope s__law_refusal) T.f__law_refusal cdv A outer s H C8.E0).nox (defBody s__law_refusal).tail.tail (liftS K (.of (TLH.tabsOf (cdsOf T)) 0) (r__law_refusal T.ca)) :=
  (ds_cons (ds_if (d_isNXT (i := 1) rfl (.inl rfl) (by decide) (by decide)) (ds_one (ds_ret (d_frz (d_lst d_nil)))) ds_nil)
      (ds_one (ds_ret (d_frz (d_ife (d_tst (d_isX (i := 1) (J := fun C b => (C = T.ca.BadWord ∧ b = true)) rfl (.inl rfl) (by decide) (by decide) (by rfl) T.m_isinstance bt_isinstance (by rfl) T.g_BadWord (by decide) (by rintro C b (⟨rfl, rfl⟩) <;> first | exact ⟨T.ec_BadWord, T.kt_BadWord_BadWord⟩) T.kn_BadWord)) (d_lst (d_cons (d_xg (i := 1) (T := fun C => C = T.ca.BadWord) rfl (.inl rfl) (by decide) (by decide) (by rintro C (rfl) <;> first | exact ⟨T.xf_BadWord, T.no_BadWord_thing⟩)) d_nil)) (d_lst (d_cons d_str d_nil)))))))
theorem ok__law_is_plain_word (T : Top K mg) (Z : Zed T base) : FnOk P w K mg base CX0 1 T.f__law_is_plain_word T.d__law_is_plain_word ["_law_thing"] (toSp K (TLH.tabsOf (cdsOf T)) 1 S__law_is_plain_word) := by
  refine ok_tree T.F__law_is_plain_word sc__law_is_plain_word (fun cdv A outer s H E hr =>
    (ds_cons (ds_if (PW.pt (d_orT (d_notT (d_tst (d_callB call_isi2 (c_isi _) (by rfl) T.m_isinstance bt_isinstance (d_cons (d_var 0) (d_cons (d_bltT (by rfl) T.m_str bt_str) d_nil))))) (d_or1T (d_cmpT op_notin2 (c_in _) (d_callB call_len2 (c_len _) (by rfl) T.m_len bt_len (d_cons (d_var 0) d_nil)) (d_lst (d_cons d_int (d_cons d_int (d_cons d_int (d_cons d_int (d_cons d_int (d_cons d_int (d_cons d_int (d_cons d_int d_nil))))))))) rfl)))) (ds_one (ds_ret d_bl)) ds_nil)
      (ds_one (ds_ret (d_cmp (op_eq3 hr.units) (c_eq _) (d_lc rfl sc__law_is_plain_word.nd (di_str (d_var 0)) (blkOk_by (N := ["_law_thing", "_law_letter"]) (sc := defScope s__law_is_plain_word) (own := [("_law_letter", 1)]) (by decide +kernel)) (fun _ _ _ _ _ => (dg_name 1 sc__law_is_plain_word.nd)) (fun _ _ _ _ _ => (dts_one (d_cmpT op_notin2 (c_in _) (d_var 1) d_str rfl))) (fun _ _ _ _ _ => (d_frz (d_var 1)))) (d_lst d_nil) (nomark _)))))) ?_
  exact k__law_is_plain_word
theorem ok__law_due (T : Top K mg) (Z : Zed T base) : FnOk P w K mg base CX0 2 T.f__law_due T.d__law_due ["_law_some"] (toSp K (TLH.tabsOf (cdsOf T)) 1 S__law_due) := by
  refine ok_tree T.F__law_due sc__law_due (fun cdv A outer s H E hr =>
    (ds_cons (ds_if (PW.pt (d_orT (d_notT (d_tst (d_callB call_isi2 (c_isi _) (by rfl) T.m_isinstance bt_isinstance (d_cons (d_var 0) (d_cons (d_tup (d_cons (d_bltT (by rfl) T.m_list bt_list) (d_cons (d_bltT (by rfl) T.m_tuple bt_tuple) d_nil))) d_nil))))) (d_or1T (d_cmpT op_notin2 (c_in _) (d_callB call_len2 (c_len _) (by rfl) T.m_len bt_len (d_cons (d_var 0) d_nil)) (d_lst (d_cons d_int (d_cons d_int (d_cons d_int d_nil)))) rfl)))) (ds_one (ds_ret (d_lst (d_cons d_non d_nil)))) ds_nil)
      (ds_cons (ds_for PassesOwn.never rfl (di_enum (by rfl) T.m_enumerate (d_cons (d_frz (d_var 0)) d_nil)) (dg_tup (n := 2) rfl (dg_cons (dg_name 1 sc__law_due.nd) (dg_cons (dg_name 2 sc__law_due.nd) dg_nil))) (ds_one (ds_if (PW.pt (d_orT (d_notT (d_tst (d_call ((ok__law_is_plain_word T Z).mono (by decide)) hr (by rfl) T.g__law_is_plain_word T.F__law_is_plain_word.kp T.b__law_is_plain_word pass0 (d_cons (d_frz (d_var 2)) d_nil)))) (d_or1T (d_cmpT op_in2 (c_in _) (d_var 2) (d_slice (d_callT call_list_of (c_list _) (by rfl) T.m_list bt_list (d_cons (d_var 0) d_nil)) d_nop (d_part (d_var 1))) rfl)))) (ds_one (ds_ret (d_lst (d_cons (d_frz (d_var 2)) d_nil)))) ds_nil)))
      (ds_one (ds_ret (d_lst d_nil)))))) ?_
  exact k__law_due
theorem ok_law (T : Top K mg) (Z : Zed T base) (hS : Keeps S_law 1 11 (r_law T.ca w)) : FnG P w K mg base CX0 10 T.f_law T.d_law ["_law_script"] (toSp K (TLH.tabsOf (cdsOf T)) 1 S_law) := by
  refine okG_treeC T.F_law sc_law (fun cdv hcd A outer s H E gz hr => PSs.nox (
    (ds_cons (ds_set 1 sc_law.nd (d_call ((ok__law_begun T Z).mono (by decide)) hr (by rfl) T.g__law_begun T.F__law_begun.kp T.b__law_begun pass0 (d_cons (d_frz (d_var 0)) d_nil)))
      (ds_cons (ds_for PassesOwn.never rfl (di_range1 (by rfl) T.m_range (d_cons (d_bin op_add4 (c_add _) d_int (d_callB (call_min2 rfl) (c_min2 _) (by rfl) T.m_min bt_min (d_cons (d_callB call_len2 (c_len _) (by rfl) T.m_len bt_len (d_cons (d_var 0) d_nil)) (d_cons d_int d_nil)))) d_nil)) (dg_name 2 sc_law.nd) (ds_cons (ds_set 3 sc_law.nd (d_lst (d_cons d_non (d_cons d_int (d_cons d_bl (d_cons d_str (d_cons d_str (d_cons d_str (d_cons d_str (d_cons d_str (d_cons (d_tup d_nil) (d_cons (d_lst (d_cons d_str d_nil)) (d_cons d_dnew (d_cons d_str (d_cons (d_bin op_pow (c_pow _) d_int d_int) (d_cons d_str (d_cons (d_tup (d_cons d_str (d_cons d_str d_nil))) d_nil)))))))))))))))))
      (ds_cons (ds_set 4 sc_law.nd (d_frz (d_call ((ok__law_words T Z).mono (by decide)) hr (by rfl) T.g__law_words T.F__law_words.kp T.b__law_words pass0 (d_cons (d_var 1) (d_cons d_int d_nil)))))
      (ds_cons (ds_set 5 sc_law.nd (d_lc rfl sc_law.nd (di_seq (d_bin op_add4 (c_add _) (d_var 4) (d_slice (d_var 4) d_nop (d_part d_int)))) (blkOk_by (N := ["_law_script", "_law_draw", "_law_turn", "_law_odd", "_law_pool", "_law_some", "_law_word_here", "_law_made", "_law_due_here", "_law_shown", "_law_found"]) (sc := defScope s_law) (own := [("_law_word_here", 6)]) (by decide +kernel)) (fun _ _ _ _ _ => (dg_name 6 sc_law.nd)) (fun _ _ _ _ _ => dts_nil) (fun _ _ _ _ _ => (d_call ((ok__law_pick T Z).mono (by decide)) hr (by rfl) T.g__law_pick T.F__law_pick.kp T.b__law_pick pass0 (d_cons (d_var 1) (d_cons (d_lst (d_cons (d_call ((ok__law_pick T Z).mono (by decide)) hr (by rfl) T.g__law_pick T.F__law_pick.kp T.b__law_pick pass0 (d_cons (d_var 1) (d_cons (d_frz (d_var 4)) d_nil))) (d_cons (d_call ((ok__law_pick T Z).mono (by decide)) hr (by rfl) T.g__law_pick T.F__law_pick.kp T.b__law_pick pass0 (d_cons (d_var 1) (d_cons (d_frz (d_var 4)) d_nil))) (d_cons (d_frz (d_var 6)) d_nil)))) d_nil))))))
      (ds_cons (ds_set 5 sc_law.nd (d_slice (d_lc rfl sc_law.nd (di_seq (d_frz (d_var 5))) (blkOk_by (N := ["_law_script", "_law_draw", "_law_turn", "_law_odd", "_law_pool", "_law_some", "_law_word_here", "_law_made", "_law_due_here", "_law_shown", "_law_found"]) (sc := defScope s_law) (own := [("_law_word_here", 6)]) (by decide +kernel)) (fun _ _ _ _ _ => (dg_name 6 sc_law.nd)) (fun _ _ _ _ _ => dts_nil) (fun _ _ _ _ _ => (d_ife (d_cmpT op_gt2 (c_ord _) (d_call ((ok__law_take T Z).mono (by decide)) hr (by rfl) T.g__law_take T.F__law_take.kp T.b__law_take pass0 (d_cons (d_var 1) (d_cons d_int d_nil))) d_int (nomark _)) (d_frz (d_var 6)) (d_call ((ok__law_pick T Z).mono (by decide)) hr (by rfl) T.g__law_pick T.F__law_pick.kp T.b__law_pick pass0 (d_cons (d_var 1) (d_cons (d_frz (d_var 3)) d_nil)))))) d_nop (d_part (d_call ((ok__law_take T Z).mono (by decide)) hr (by rfl) T.g__law_take T.F__law_take.kp T.b__law_take pass0 (d_cons (d_var 1) (d_cons d_int d_nil))))))
      (ds_cons (ds_set 5 sc_law.nd (d_frz (d_call ((ok__law_pick T Z).mono (by decide)) hr (by rfl) T.g__law_pick T.F__law_pick.kp T.b__law_pick pass0 (d_cons (d_var 1) (d_cons (d_lst (d_cons (d_frz (d_var 5)) (d_cons (d_frz (d_var 5)) (d_cons (d_frz (d_var 5)) (d_cons (d_callT call_tuple_of (c_tuple _) (by rfl) T.m_tuple bt_tuple (d_cons (d_var 5) d_nil)) (d_cons (d_call ((ok__law_pick T Z).mono (by decide)) hr (by rfl) T.g__law_pick T.F__law_pick.kp T.b__law_pick pass0 (d_cons (d_var 1) (d_cons (d_frz (d_var 3)) d_nil))) (d_cons d_str (d_cons (d_disp (ks := [Sum.inr ("a" : Str)]) (ts := [dC (.int 1)]) (pps_cons pe_str d_int pps_nil)) d_nil)))))))) d_nil)))))
      (ds_cons (ds_set 7 sc_law.nd (d_make T.mk_Keeper ((ok_Keeper___init__ T Z).mono (by decide)) hr (by rfl) T.g_Keeper T.b_Keeper___init__ pass0 (d_cons d_str (d_cons (d_frz (d_var 4)) (d_cons (d_lst (d_cons (d_call ((ok__law_any_rule T Z).mono (by decide)) hr (by rfl) T.g__law_any_rule T.F__law_any_rule.kp T.b__law_any_rule pass0 (d_cons (d_var 1) (d_cons (d_frz (d_var 4)) d_nil))) d_nil)) d_nil)))))
      (ds_cons (ds_par2 8 9 rfl sc_law.nd (d_call ((ok__law_due T Z).mono (by decide)) hr (by rfl) T.g__law_due T.F__law_due.kp T.b__law_due pass0 (d_cons (d_frz (d_var 5)) d_nil)) (d_callB (call_repr gz hr.units) (c_repr _) (by rfl) T.m_repr bt_repr (d_cons (d_var 5) d_nil)) (by rfl))
      (ds_cons (ds_set 10 sc_law.nd (d_lst (d_cons (by exact d_refO (P := TLH.tabAt K T.f_law) (c := TLH.codeAt K T.f_law) (R := r__law_refusal T.ca) (SR := S__law_refusal T.ca) (Ct := fun C => C = T.ca.BadWord) (te := fun XC => (dCallX 1 (S_all_views T.ca) XC (dCons ((dFrz (dVar 5))) dNil))) T.F__law_refusal T.F__law_refusal.kp T.b__law_refusal sc__law_refusal (by rfl) T.g__law_refusal T.g_KeeperError rfl rfl rfl sc__law_refusal.nd (by decide) rfl rfl rfl rfl rfl (fun cdv s H hr => rs__law_refusal T gz (hr.mono (by decide))) (Z.tb _ (List.mem_of_getElem? (l := cdsOf T) (i := 0) rfl)) hcd (List.mem_map.mpr ⟨_, List.mem_of_getElem? (l := cdsOf T) (i := 0) rfl, rfl⟩) (fun p hp he => Z.un p hp (TLH.tabAt K T.f_law, _) (List.mem_map.mpr ⟨_, List.mem_of_getElem? (l := cdsOf T) (i := 0) rfl, rfl⟩) he) hr (LamX.lamS_by (sc := defScope s_law) (by decide +kernel)) rfl (fun _ _ _ _ _ => rfl) (k__law_refusal T.ca) (by rintro C (rfl) <;> first | exact T.xm_BadWord) (fun A outer s H E f c' XC σ0 hr => (d_callXL ((ok_all_views T Z).mono (by decide)) hr (by rfl) T.g_all_views T.F_all_views.kp T.b_all_views (takes_of rfl rfl rfl rfl) (d_cons (d_frz (d_var 5)) d_nil)))) d_nil)))
      (ds_cons (ds_expr (d_methF 10 PySem.F.slot_list_append PySem.F.type_list_append mt_append (cm_append _) (d_cons (by exact d_refO (P := TLH.tabAt K T.f_law) (c := TLH.codeAt K T.f_law) (R := r__law_refusal T.ca) (SR := S__law_refusal T.ca) (Ct := fun C => C = T.ca.BadWord) (te := fun XC => (dCallX 2 (S_table_of T.ca w) XC (dCons ((dFrz (dVar 7))) (dCons ((dFrz (dVar 5))) dNil)))) T.F__law_refusal T.F__law_refusal.kp T.b__law_refusal sc__law_refusal (by rfl) T.g__law_refusal T.g_KeeperError rfl rfl rfl sc__law_refusal.nd (by decide) rfl rfl rfl rfl rfl (fun cdv s H hr => rs__law_refusal T gz (hr.mono (by decide))) (Z.tb _ (List.mem_of_getElem? (l := cdsOf T) (i := 0) rfl)) hcd (List.mem_map.mpr ⟨_, List.mem_of_getElem? (l := cdsOf T) (i := 0) rfl, rfl⟩) (fun p hp he => Z.un p hp (TLH.tabAt K T.f_law, _) (List.mem_map.mpr ⟨_, List.mem_of_getElem? (l := cdsOf T) (i := 0) rfl, rfl⟩) he) hr (LamX.lamS_by (sc := defScope s_law) (by decide +kernel)) rfl (fun _ _ _ _ _ => rfl) (k__law_refusal T.ca) (by rintro C (rfl) <;> first | exact T.xm_BadWord) (fun A outer s H E f c' XC σ0 hr => (d_callXL ((ok_table_of T Z).mono (by decide)) hr (by rfl) T.g_table_of T.F_table_of.kp T.b_table_of (takes_of rfl rfl rfl rfl) (d_cons (d_frz (d_var 7)) (d_cons (d_frz (d_var 5)) d_nil))))) d_nil)))
      (ds_cons (ds_expr (d_methF 10 PySem.F.slot_list_append PySem.F.type_list_append mt_append (cm_append _) (d_cons (by exact d_refO (P := TLH.tabAt K T.f_law) (c := TLH.codeAt K T.f_law) (R := r__law_refusal T.ca) (SR := S__law_refusal T.ca) (Ct := fun C => C = T.ca.BadWord) (te := fun XC => (dCallX 3 (S_parted T.ca) XC (dCons ((dFrz (dVar 7))) (dCons ((dMake 1 T.ca.Keeper 4 (S_Keeper___init__ T.ca) (dCons (dC (.str "q")) (dCons ((dLst dNil)) (dCons ((dLst dNil)) dNil))))) (dCons ((dFrz (dVar 5))) dNil))))) T.F__law_refusal T.F__law_refusal.kp T.b__law_refusal sc__law_refusal (by rfl) T.g__law_refusal T.g_KeeperError rfl rfl rfl sc__law_refusal.nd (by decide) rfl rfl rfl rfl rfl (fun cdv s H hr => rs__law_refusal T gz (hr.mono (by decide))) (Z.tb _ (List.mem_of_getElem? (l := cdsOf T) (i := 0) rfl)) hcd (List.mem_map.mpr ⟨_, List.mem_of_getElem? (l := cdsOf T) (i := 0) rfl, rfl⟩) (fun p hp he => Z.un p hp (TLH.tabAt K T.f_law, _) (List.mem_map.mpr ⟨_, List.mem_of_getElem? (l := cdsOf T) (i := 0) rfl, rfl⟩) he) hr (LamX.lamS_by (sc := defScope s_law) (by decide +kernel)) rfl (fun _ _ _ _ _ => rfl) (k__law_refusal T.ca) (by rintro C (rfl) <;> first | exact T.xm_BadWord) (fun A outer s H E f c' XC σ0 hr => (d_callXL ((ok_parted T Z).mono (by decide)) hr (by rfl) T.g_parted T.F_parted.kp T.b_parted (takes_of rfl rfl rfl rfl) (d_cons (d_frz (d_var 7)) (d_cons (d_makeL T.mk_Keeper ((ok_Keeper___init__ T Z).mono (by decide)) hr (by rfl) T.g_Keeper T.b_Keeper___init__ pass0 (d_cons d_str (d_cons (d_lst d_nil) (d_cons (d_lst d_nil) d_nil)))) (d_cons (d_frz (d_var 5)) d_nil)))))) d_nil)))
      (ds_cons (ds_expr (d_methF 10 PySem.F.slot_list_append PySem.F.type_list_append mt_append (cm_append _) (d_cons (by exact d_refO (P := TLH.tabAt K T.f_law) (c := TLH.codeAt K T.f_law) (R := r__law_refusal T.ca) (SR := S__law_refusal T.ca) (Ct := fun C => C = T.ca.BadWord) (te := fun XC => (dCallX 2 (S_idle T.ca) XC (dApp 1 [0] 1 (dCons ((dFrz (dVar 7))) dNil) (dCons ((dFrz (dVar 5))) dNil)))) T.F__law_refusal T.F__law_refusal.kp T.b__law_refusal sc__law_refusal (by rfl) T.g__law_refusal T.g_KeeperError rfl rfl rfl sc__law_refusal.nd (by decide) rfl rfl rfl rfl rfl (fun cdv s H hr => rs__law_refusal T gz (hr.mono (by decide))) (Z.tb _ (List.mem_of_getElem? (l := cdsOf T) (i := 0) rfl)) hcd (List.mem_map.mpr ⟨_, List.mem_of_getElem? (l := cdsOf T) (i := 0) rfl, rfl⟩) (fun p hp he => Z.un p hp (TLH.tabAt K T.f_law, _) (List.mem_map.mpr ⟨_, List.mem_of_getElem? (l := cdsOf T) (i := 0) rfl, rfl⟩) he) hr (LamX.lamS_by (sc := defScope s_law) (by decide +kernel)) rfl (fun _ _ _ _ _ => rfl) (k__law_refusal T.ca) (by rintro C (rfl) <;> first | exact T.xm_BadWord) (fun A outer s H E f c' XC σ0 hr => (d_callXLK [0] ["words"] ((ok_idle T Z).mono (by decide)) hr (by rfl) T.g_idle T.F_idle.kp (T.kw_idle_words) (takes_of rfl rfl rfl rfl) (d_cons (d_frz (d_var 7)) d_nil) (dk_cons (d_frz (d_var 5)) dk_nil)))) d_nil)))
      (ds_cons (ds_expr (d_methF 10 PySem.F.slot_list_append PySem.F.type_list_append mt_append (cm_append _) (d_cons (by exact d_refO (P := TLH.tabAt K T.f_law) (c := TLH.codeAt K T.f_law) (R := r__law_refusal T.ca) (SR := S__law_refusal T.ca) (Ct := fun C => C = T.ca.BadWord) (te := fun XC => (dCallX 2 (S_trimmed T.ca) XC (dCons ((dFrz (dVar 7))) (dCons ((dFrz (dVar 5))) dNil)))) T.F__law_refusal T.F__law_refusal.kp T.b__law_refusal sc__law_refusal (by rfl) T.g__law_refusal T.g_KeeperError rfl rfl rfl sc__law_refusal.nd (by decide) rfl rfl rfl rfl rfl (fun cdv s H hr => rs__law_refusal T gz (hr.mono (by decide))) (Z.tb _ (List.mem_of_getElem? (l := cdsOf T) (i := 0) rfl)) hcd (List.mem_map.mpr ⟨_, List.mem_of_getElem? (l := cdsOf T) (i := 0) rfl, rfl⟩) (fun p hp he => Z.un p hp (TLH.tabAt K T.f_law, _) (List.mem_map.mpr ⟨_, List.mem_of_getElem? (l := cdsOf T) (i := 0) rfl, rfl⟩) he) hr (LamX.lamS_by (sc := defScope s_law) (by decide +kernel)) rfl (fun _ _ _ _ _ => rfl) (k__law_refusal T.ca) (by rintro C (rfl) <;> first | exact T.xm_BadWord) (fun A outer s H E f c' XC σ0 hr => (d_callXL ((ok_trimmed T Z).mono (by decide)) hr (by rfl) T.g_trimmed T.F_trimmed.kp T.b_trimmed (takes_of rfl rfl rfl rfl) (d_cons (d_frz (d_var 7)) (d_cons (d_frz (d_var 5)) d_nil))))) d_nil)))
      (ds_one (ds_if (PW.pt (d_orT (d_cmpT (op_ne3 hr.units) (c_ne _) (d_callB (call_repr gz hr.units) (c_repr _) (by rfl) T.m_repr bt_repr (d_cons (d_var 10) d_nil)) (d_callB (call_repr gz hr.units) (c_repr _) (by rfl) T.m_repr bt_repr (d_cons (d_bin op_mul2 (c_mul _) (d_lst (d_cons (d_frz (d_var 8)) d_nil)) d_int) d_nil)) (nomark _)) (d_or1T (d_cmpT (op_ne3 hr.units) (c_ne _) (d_callB (call_repr gz hr.units) (c_repr _) (by rfl) T.m_repr bt_repr (d_cons (d_var 5) d_nil)) (d_var 9) (nomark _))))) (ds_one (ds_ret d_bl)) ds_nil)))))))))))))))
      (ds_one (ds_ret d_bl)))))) ?_
  exact hS
end
open TLH
def e_is_list : He5.DefA := { at_ := (fun K => He.ga K "is_list"), name := "is_list", qual := "is_list", params := defArgs s_is_list, body := defBody s_is_list, scope := defScope s_is_list, kwd := [] }
def e_is_word : He5.DefA := { at_ := (fun K => He.ga K "is_word"), name := "is_word", qual := "is_word", params := defArgs s_is_word, body := defBody s_is_word, scope := defScope s_is_word, kwd := [] }
def e_thing_conditions : He5.DefA := { at_ := (fun K => He.ga K "thing_conditions"), name := "thing_conditions", qual := "thing_conditions", params := defArgs s_thing_conditions, body := defBody s_thing_conditions, scope := defScope s_thing_conditions, kwd := [] }
def e_own_conditions : He5.DefA := { at_ := (fun K => He.ga K "own_conditions"), name := "own_conditions", qual := "own_conditions", params := defArgs s_own_conditions, body := defBody s_own_conditions, scope := defScope s_own_conditions, kwd := [] }
def e_held_for : He5.DefA := { at_ := (fun K => He.ga K "held_for"), name := "held_for", qual := "held_for", params := defArgs s_held_for, body := defBody s_held_for, scope := defScope s_held_for, kwd := [] }
def e_things_of : He5.DefA := { at_ := (fun K => He.ga K "things_of"), name := "things_of", qual := "things_of", params := defArgs s_things_of, body := defBody s_things_of, scope := defScope s_things_of, kwd := [] }
def e_views_of : He5.DefA := { at_ := (fun K => He.ga K "views_of"), name := "views_of", qual := "views_of", params := defArgs s_views_of, body := defBody s_views_of, scope := defScope s_views_of, kwd := [] }
def e_are_different : He5.DefA := { at_ := (fun K => He.ga K "are_different"), name := "are_different", qual := "are_different", params := defArgs s_are_different, body := defBody s_are_different, scope := defScope s_are_different, kwd := [] }
def e_is_deed : He5.DefA := { at_ := (fun K => He.ga K "is_deed"), name := "is_deed", qual := "is_deed", params := defArgs s_is_deed, body := defBody s_is_deed, scope := defScope s_is_deed, kwd := [] }
def e_is_rule : He5.DefA := { at_ := (fun K => He.ga K "is_rule"), name := "is_rule", qual := "is_rule", params := defArgs s_is_rule, body := defBody s_is_rule, scope := defScope s_is_rule, kwd := [] }
def e_are_wants : He5.DefA := { at_ := (fun K => He.ga K "are_wants"), name := "are_wants", qual := "are_wants", params := defArgs s_are_wants, body := defBody s_are_wants, scope := defScope s_are_wants, kwd := [] }
def e_Keeper___init__ : He5.DefA := { at_ := (TLH.mth "Keeper" "__init__"), name := "__init__", qual := "Keeper.__init__", params := defArgs s_Keeper___init__, body := defBody s_Keeper___init__, scope := defScope s_Keeper___init__, kwd := [] }
def e_Keeper___len__ : He5.DefA := { at_ := (TLH.mth "Keeper" "__len__"), name := "__len__", qual := "Keeper.__len__", params := defArgs s_Keeper___len__, body := defBody s_Keeper___len__, scope := defScope s_Keeper___len__, kwd := [] }
def e_Keeper_decided : He5.DefA := { at_ := (TLH.mth "Keeper" "decided"), name := "decided", qual := "Keeper.decided", params := defArgs s_Keeper_decided, body := defBody s_Keeper_decided, scope := defScope s_Keeper_decided, kwd := [] }
def e_need_words : He5.DefA := { at_ := (fun K => He.ga K "need_words"), name := "need_words", qual := "need_words", params := defArgs s_need_words, body := defBody s_need_words, scope := defScope s_need_words, kwd := [] }
def e_all_views : He5.DefA := { at_ := (fun K => He.ga K "all_views"), name := "all_views", qual := "all_views", params := defArgs s_all_views, body := defBody s_all_views, scope := defScope s_all_views, kwd := [] }
def e_table_of : He5.DefA := { at_ := (fun K => He.ga K "table_of"), name := "table_of", qual := "table_of", params := defArgs s_table_of, body := defBody s_table_of, scope := defScope s_table_of, kwd := [] }
def e_choice : He5.DefA := { at_ := (fun K => He.ga K "choice"), name := "choice", qual := "choice", params := defArgs s_choice, body := defBody s_choice, scope := defScope s_choice, kwd := [] }
def e_parted : He5.DefA := { at_ := (fun K => He.ga K "parted"), name := "parted", qual := "parted", params := defArgs s_parted, body := defBody s_parted, scope := defScope s_parted, kwd := [] }
def e_idle : He5.DefA := { at_ := (fun K => He.ga K "idle"), name := "idle", qual := "idle", params := defArgs s_idle, body := defBody s_idle, scope := defScope s_idle, kwd := [] }
def e_trimmed : He5.DefA := { at_ := (fun K => He.ga K "trimmed"), name := "trimmed", qual := "trimmed", params := defArgs s_trimmed, body := defBody s_trimmed, scope := defScope s_trimmed, kwd := [] }
def e__law_begun : He5.DefA := { at_ := (fun K => He.ga K "_law_begun"), name := "_law_begun", qual := "_law_begun", params := defArgs s__law_begun, body := defBody s__law_begun, scope := defScope s__law_begun, kwd := [] }
def e__law_mixed : He5.DefA := { at_ := (fun K => He.ga K "_law_mixed"), name := "_law_mixed", qual := "_law_mixed", params := defArgs s__law_mixed, body := defBody s__law_mixed, scope := defScope s__law_mixed, kwd := [] }
def e__law_take : He5.DefA := { at_ := (fun K => He.ga K "_law_take"), name := "_law_take", qual := "_law_take", params := defArgs s__law_take, body := defBody s__law_take, scope := defScope s__law_take, kwd := [] }
def e__law_pick : He5.DefA := { at_ := (fun K => He.ga K "_law_pick"), name := "_law_pick", qual := "_law_pick", params := defArgs s__law_pick, body := defBody s__law_pick, scope := defScope s__law_pick, kwd := [] }
def e__law_word : He5.DefA := { at_ := (fun K => He.ga K "_law_word"), name := "_law_word", qual := "_law_word", params := defArgs s__law_word, body := defBody s__law_word, scope := defScope s__law_word, kwd := [] }
def e__law_words : He5.DefA := { at_ := (fun K => He.ga K "_law_words"), name := "_law_words", qual := "_law_words", params := defArgs s__law_words, body := defBody s__law_words, scope := defScope s__law_words, kwd := [] }
def e__law_any_rule : He5.DefA := { at_ := (fun K => He.ga K "_law_any_rule"), name := "_law_any_rule", qual := "_law_any_rule", params := defArgs s__law_any_rule, body := defBody s__law_any_rule, scope := defScope s__law_any_rule, kwd := [] }
def e__law_refusal : He5.DefA := { at_ := (fun K => He.ga K "_law_refusal"), name := "_law_refusal", qual := "_law_refusal", params := defArgs s__law_refusal, body := defBody s__law_refusal, scope := defScope s__law_refusal, kwd := [] }
def e__law_is_plain_word : He5.DefA := { at_ := (fun K => He.ga K "_law_is_plain_word"), name := "_law_is_plain_word", qual := "_law_is_plain_word", params := defArgs s__law_is_plain_word, body := defBody s__law_is_plain_word, scope := defScope s__law_is_plain_word, kwd := [] }
def e__law_due : He5.DefA := { at_ := (fun K => He.ga K "_law_due"), name := "_law_due", qual := "_law_due", params := defArgs s__law_due, body := defBody s__law_due, scope := defScope s__law_due, kwd := [] }
def e_law : He5.DefA := { at_ := (fun K => He.ga K "law"), name := "law", qual := "law", params := defArgs s_law, body := defBody s_law, scope := defScope s_law, kwd := [] }
def e_Keeper_name : He5.DefA := { at_ := (TLH.getter "Keeper" "name"), name := "name", qual := "Keeper.name", params := defArgs s_Keeper_name, body := defBody s_Keeper_name, scope := defScope s_Keeper_name, kwd := [] }
def e_Keeper_rules : He5.DefA := { at_ := (TLH.getter "Keeper" "rules"), name := "rules", qual := "Keeper.rules", params := defArgs s_Keeper_rules, body := defBody s_Keeper_rules, scope := defScope s_Keeper_rules, kwd := [] }
def e_Keeper_wants : He5.DefA := { at_ := (TLH.getter "Keeper" "wants"), name := "wants", qual := "Keeper.wants", params := defArgs s_Keeper_wants, body := defBody s_Keeper_wants, scope := defScope s_Keeper_wants, kwd := [] }
def e_BadWord___init__ : He5.DefA := { at_ := (TLH.mth "BadWord" "__init__"), name := "__init__", qual := "BadWord.__init__", params := defArgs s_BadWord___init__, body := defBody s_BadWord___init__, scope := defScope s_BadWord___init__, kwd := [] }
def fnL : List He5.DefA := [e_is_list, e_is_word, e_thing_conditions, e_own_conditions, e_held_for, e_things_of, e_views_of, e_are_different, e_is_deed, e_is_rule, e_are_wants, e_Keeper___init__, e_Keeper___len__, e_Keeper_decided, e_need_words, e_all_views, e_table_of, e_choice, e_parted, e_idle, e_trimmed, e__law_begun, e__law_mixed, e__law_take, e__law_pick, e__law_word, e__law_words, e__law_any_rule, e__law_refusal, e__law_is_plain_word, e__law_due, e_law, e_Keeper_name, e_Keeper_rules, e_Keeper_wants, e_BadWord___init__]
def faL : List He.Fa := [.glo "is_list", .glo "is_word", .glo "thing_conditions", .glo "own_conditions", .glo "held_for", .glo "things_of", .glo "views_of", .glo "are_different", .glo "is_deed", .glo "is_rule", .glo "are_wants", .glo "need_words", .glo "all_views", .glo "table_of", .glo "choice", .glo "parted", .glo "idle", .glo "trimmed", .glo "_law_begun", .glo "_law_mixed", .glo "_law_take", .glo "_law_pick", .glo "_law_word", .glo "_law_words", .glo "_law_any_rule", .glo "_law_refusal", .glo "_law_is_plain_word", .glo "_law_due", .glo "law", .glo "KeeperError", .glo "BadWord", .glo "Keeper", .cls "Keeper", .noat "Keeper" "own_name", .noat "Keeper" "own_rules", .noat "Keeper" "own_wants", .mkr "Keeper", .meth "Keeper" "__len__", .meth "Keeper" "decided", .str "LETTERS" "abcdefghijklmnopqrstuvwxyz", .int "LONGEST" 8, .str "TURN" "turn", .int "MOST_CONDITIONS" 6, .int "MOST_RULES" 8, .int "MOST_WANTS" 3, .int "MOST_WORDS" 3, .glo "CONDITIONS", .glo "PARTS", .glo "PLAIN_DEEDS", .free "abs", .free "all", .free "bool", .free "enumerate", .free "int", .free "isinstance", .free "len", .free "list", .free "min", .free "range", .free "repr", .free "set", .free "sorted", .free "str", .free "tuple"]
def ex0 (K : Fr) : Bool := propB K "Keeper" "name"
def ex1 (K : Fr) : Bool := propB K "Keeper" "rules"
def ex2 (K : Fr) : Bool := propB K "Keeper" "wants"
def ex3 (K : Fr) : Bool := cstB K "CONDITIONS" (.tup [.str "alone", .str "bare", .str "child", .str "free", .str "going", .str "gone", .str "held", .str "others", .str "right", .str "strays", .str "there", .str "tidy", .str "unwanted", .str "wanted", .str "wrong"])
def ex4 (K : Fr) : Bool := cstB K "PARTS" (.tup [.str "other", .str "own", .str "stray", .str "thing"])
def ex5 (K : Fr) : Bool := cstB K "PLAIN_DEEDS" (.tup [.str "clear", .str "correct", .str "hold", .str "make", .str "mark", .str "release", .str "strike"])
def ex6 (K : Fr) : Bool := TX.oexB K (He.ga K "BadWord")
def ex7 (K : Fr) : Bool := TX.iniB K (He.ga K "BadWord") ((TLH.mth "BadWord" "__init__") K)
def ex8 (K : Fr) : Bool := TX.noB K (He.ga K "BadWord") "thing"
def ex9 (K : Fr) : Bool := TX.baseB K (He.ga K "KeeperError")
def ex10 (K : Fr) : Bool := TX.exmB K (He.ga K "BadWord") (He.ga K "KeeperError")
def ex11 (K : Fr) : Bool := TX.excB K (He.ga K "BadWord")
def ex12 (K : Fr) : Bool := TX.kitB K (.ref (He.ga K "BadWord")) (.ref (He.ga K "BadWord")) true
def ex13 (K : Fr) : Bool := TX.kitB K (.type "NoneType") (.ref (He.ga K "BadWord")) false
def ex14 (K : Fr) : Bool := xfB K (He.ga K "BadWord")
def exL : List (Fr → Bool) := [ex0, ex1, ex2, ex3, ex4, ex5, ex6, ex7, ex8, ex9, ex10, ex11, ex12, ex13, ex14]
def exA (K : Fr) : Bool := exL.all fun f => f K
def tsL : List (Fr → Addr) := [(fun K => He.ga K "law")]
def as0 : List Addr := [3, 2, 0, 1, 4, 5, 6, 7, 8, 9, 10, 11, 12, 13, 14, 15, 16, 17, 18, 19, 20, 21, 22, 23, 24, 25, 26, 27, 28, 29, 30, 31, 32, 33, 34, 35, 36, 37, 38, 39, 40, 41, 42, 43, 44, 45, 46, 47, 48, 49, 50, 51, 52, 53, 54, 55, 56, 57, 58, 59, 60, 61, 62, 63, 64, 65, 66, 67, 68, 69, 70, 71, 72, 73, 74, 75, 76, 77, 78, 79, 80, 81, 82, 83, 84, 85, 86, 87, 88, 89, 90, 91, 92, 93, 94, 95, 96, 97, 98, 99]
def as1 : List Addr := [100, 101, 102, 103, 104, 105, 106, 107, 108, 109, 110, 111, 112, 113, 114, 115, 116, 117, 118, 119, 120, 121, 122, 123, 124, 125, 126, 127, 128, 129, 130, 131, 132, 133, 134, 135, 136, 137, 138, 139, 140, 141, 142, 143, 144, 145, 146, 147, 148, 149, 150, 151, 152, 153, 154, 155, 156, 157, 158, 159, 160, 161, 162, 163, 164, 165, 166, 167, 168, 169, 170, 171, 172, 173, 174, 175, 176, 177, 178, 179, 180, 181, 182, 183, 184, 185, 186, 187, 188, 189, 190, 191, 192, 193, 194, 195, 196, 197, 198, 199]
def as2 : List Addr := [200, 201, 202, 203, 204, 205, 206, 207, 208, 209, 210, 211, 212, 213, 214, 215, 216, 217, 218, 219, 220, 221, 222, 223, 224, 225, 226, 227, 228, 229, 230, 231, 232, 233, 234, 235, 236, 237, 238, 239, 240, 241, 242, 243, 244, 245, 246, 247, 248, 249, 250, 251, 252, 253, 254, 255, 256, 257, 258, 259, 260, 261, 262, 263, 264, 265, 266, 267, 268, 269, 270, 271, 272, 273, 274, 275, 276, 277, 278, 279, 280, 281, 282, 283, 284, 285, 286, 287, 288, 289, 290, 291, 292, 293, 294, 295, 296, 297, 298, 299]
def as3 : List Addr := [300, 301, 302, 303, 304, 305, 306, 307, 308, 309, 310, 311, 312, 313, 314, 315, 316, 317, 318, 319, 320, 321, 322, 323, 324, 325, 326, 327, 328, 329, 330, 331, 332, 333, 334, 335, 336, 337, 338, 339, 340, 341, 342, 343, 344, 345, 346, 347, 348, 349, 350, 351, 352, 353, 354, 355, 356, 357, 358, 359, 360, 361, 362, 363, 364, 365, 366, 367, 368, 369, 370, 371, 372, 373, 374, 375, 376, 377, 378, 379, 380, 381, 382, 383, 384, 385, 386, 387, 388, 389, 390, 391, 392, 393, 394, 395, 396, 397, 398, 399]
def as4 : List Addr := [400, 401, 402, 403, 404, 405, 406, 407, 408, 409, 410, 411, 412, 413, 414, 415, 416, 417, 418, 419, 420, 421, 422, 423, 424, 425, 426, 427, 428, 429, 430, 431, 432, 433, 434, 435, 436, 437, 438, 439, 440, 441, 442, 443, 444, 445, 446, 447, 448, 449, 450, 451, 452, 453, 454, 455, 456, 457, 458, 459, 460, 461, 462, 463, 464, 465, 466, 467, 468, 469, 470, 471, 472, 473, 474, 475, 476, 477, 478, 479, 480, 481, 482, 483, 484, 485, 486, 487, 488, 489, 490, 491, 492, 493, 494, 495, 496, 497, 498, 499]
def as5 : List Addr := [500, 501, 502, 503, 504, 505, 506, 507, 508, 509, 510, 511, 512, 513, 514, 515, 516, 517, 518, 519, 520, 521, 522, 523, 524, 525, 526, 527, 528, 529, 530, 531, 532, 533, 534, 535, 536, 537, 538, 539, 540, 541, 542, 543, 544, 545, 546, 547, 548, 549, 550, 551, 552, 553, 554, 555, 556, 557, 558, 559, 560, 561, 562, 563, 564, 565, 566, 567, 568, 569, 570, 571, 572, 573, 574, 575, 576, 577, 578, 579, 580, 581, 582, 583, 584, 585, 586, 587, 588, 589, 590, 591, 592, 593, 594, 595, 596, 597, 598, 599]
def as6 : List Addr := [600, 601, 602, 603, 604, 605, 606, 607, 608, 609, 610, 611, 612, 613, 614, 615, 616, 617, 618, 619, 620, 621, 622, 623, 624, 625, 626, 627, 628, 629, 630, 631, 632, 633, 634, 635, 636, 637, 638, 639, 640, 641, 642, 643, 644, 645, 646, 647, 648, 649, 650, 651, 652, 653, 654, 655, 656, 657, 658, 659, 660, 661, 662, 663, 664, 665, 666, 667, 668, 669, 670, 671, 672, 673, 674, 675, 676, 677, 678, 679, 680, 681, 682, 683, 684, 685, 686, 687, 688, 689, 690, 691, 692, 693, 694, 695, 696, 697, 698, 699]
def as7 : List Addr := [700, 701, 702, 703, 704, 705, 706, 707, 708, 709, 710, 711, 712, 713, 714, 715, 716, 717, 718, 719, 720, 721, 722, 723, 724, 725, 726, 727, 728, 729, 730, 731, 732, 733, 734, 735, 736, 737, 738, 739, 740, 741, 742, 743, 744, 745, 746, 747, 748, 749, 750, 751, 752, 753, 754, 755, 756, 757, 758, 759, 760, 761, 762, 763, 764, 765, 766, 767, 768, 769, 770, 771, 772, 773, 774, 775, 776, 777, 778, 779, 780, 781, 782, 783, 784, 785, 786, 787, 788, 789, 790, 791, 792, 793, 794, 795, 796, 797, 798, 799]
def as8 : List Addr := [800, 801, 802, 803, 804, 805, 806, 807, 808, 809, 810, 811, 812, 813, 814, 815, 816, 817, 818, 819, 820, 821, 822, 823, 824, 825, 826, 827, 828, 829, 830, 831, 832, 833, 834, 835, 836, 837, 838, 839, 840, 841, 842, 843, 844, 845, 846, 847, 848, 849, 850, 851, 852, 853, 854, 855, 856, 857, 858, 859, 860, 861, 862, 863, 864, 865, 866, 867, 868, 869, 870, 871, 872, 873, 874, 875, 876, 877, 878, 879, 880, 881, 882, 883, 884, 885, 886, 887, 888, 889, 890, 891, 892, 893, 894, 895, 896, 897, 898, 899]
def as9 : List Addr := [900, 901, 902, 903, 904, 905, 906, 907, 908, 909, 910, 911, 912, 913, 914, 915, 916, 917, 918, 919, 920, 921, 922, 923, 924, 925, 926, 927, 928, 929, 930, 931, 932, 933, 934, 935, 936, 937, 938, 939, 940, 941, 942, 943, 944, 945, 946, 947, 948, 949, 950, 951, 952, 953, 954, 955, 956, 957, 958, 959, 960, 961, 962, 963, 964, 965, 966, 967, 968, 969, 970, 971, 972, 973, 974, 975, 976, 977, 978, 979, 980, 981, 982, 983, 984, 985, 986, 987, 988, 989, 990, 991, 992, 993, 994, 995, 996, 997, 998, 999]
def as10 : List Addr := [1000, 1001, 1002, 1003, 1004, 1005, 1006, 1007, 1008, 1009, 1010, 1011, 1012, 1013, 1014, 1015, 1016, 1017, 1018, 1019, 1020, 1021, 1022, 1023, 1024, 1025, 1026, 1027, 1028, 1029, 1030, 1031, 1032, 1033, 1034, 1035, 1036, 1037, 1038, 1039, 1040, 1041, 1042, 1043, 1044, 1045, 1046, 1047, 1048, 1049, 1050, 1051, 1052, 1053, 1054, 1055, 1056, 1057, 1058, 1059, 1060, 1061, 1062, 1063, 1064, 1065, 1066, 1067, 1068, 1069, 1070, 1071, 1072, 1073, 1074, 1075, 1076, 1077, 1078, 1079, 1080, 1081, 1082, 1083, 1084, 1085, 1086, 1087, 1088, 1089, 1090, 1091, 1092, 1093, 1094, 1095, 1096, 1097, 1098, 1099]
def as11 : List Addr := [1100, 1101, 1102, 1103, 1104, 1105, 1106, 1107, 1108, 1109, 1110, 1111, 1112, 1113, 1114, 1115, 1116, 1117, 1118, 1119, 1120, 1121, 1122, 1123, 1124, 1125, 1126, 1127, 1128, 1129, 1130, 1131, 1132, 1133, 1134, 1135, 1136, 1137, 1138, 1139, 1140, 1141, 1142, 1143, 1144, 1145, 1146, 1147, 1148, 1149, 1150, 1151, 1152, 1153, 1154, 1155, 1156, 1157, 1158, 1159, 1160, 1161, 1162, 1163, 1164, 1165, 1166, 1167, 1168, 1169, 1170, 1171, 1172, 1173, 1174, 1175, 1176, 1177, 1178, 1179, 1180, 1181, 1182, 1183, 1184, 1185, 1186, 1187, 1188, 1189, 1190, 1191, 1192, 1193, 1194, 1195, 1196, 1197, 1198, 1199]
def as12 : List Addr := [1200, 1201, 1202, 1203, 1204, 1205, 1206, 1207, 1208, 1209, 1210, 1211, 1212, 1213, 1214, 1215, 1216, 1217, 1218, 1219, 1220, 1221, 1222, 1223, 1224, 1225, 1226, 1227, 1228, 1229, 1230, 1231, 1232, 1233, 1234, 1235, 1236, 1237, 1238, 1239, 1240, 1241, 1242, 1243, 1244, 1245, 1246, 1247, 1248, 1249, 1250, 1251, 1252, 1253, 1254, 1255, 1256, 1257, 1258, 1259, 1260, 1261, 1262, 1263, 1264, 1265, 1266, 1267, 1268, 1269, 1270, 1271, 1272, 1273, 1274, 1275, 1276, 1277, 1278, 1279, 1280, 1281, 1282, 1283, 1284, 1285, 1286, 1287, 1288, 1289, 1290, 1291, 1292, 1293, 1294, 1295, 1296, 1297, 1298, 1299]
def as13 : List Addr := [1300, 1301, 1302, 1303, 1304, 1305, 1306, 1307, 1308, 1309, 1310, 1311, 1312, 1313, 1314, 1315, 1316, 1317, 1318, 1319, 1320, 1321, 1322, 1323, 1324, 1325, 1326, 1327, 1328, 1329, 1330, 1331, 1332, 1333, 1334, 1335, 1336, 1337, 1338, 1339, 1340, 1341, 1342, 1343, 1344, 1345, 1346, 1347, 1348, 1349, 1350, 1351, 1352, 1353, 1354, 1355, 1356, 1357, 1358, 1359, 1360, 1361, 1362, 1363, 1364, 1365, 1366, 1367, 1368, 1369, 1370, 1371, 1372, 1373, 1374, 1375, 1376, 1377, 1378, 1379, 1380, 1381, 1382, 1383, 1384, 1385, 1386, 1387, 1388, 1389, 1390, 1391, 1392, 1393, 1394, 1395, 1396, 1397, 1398, 1399]
def as14 : List Addr := [1400, 1401, 1402, 1403, 1404, 1405, 1406, 1407, 1408, 1409, 1410, 1411, 1412, 1413, 1414, 1415, 1416, 1417, 1418, 1419, 1420, 1421, 1422, 1423, 1424, 1425, 1426, 1427, 1428, 1429, 1430, 1431, 1432, 1433, 1434, 1435, 1436, 1437, 1438, 1439, 1440, 1441, 1442, 1443, 1444, 1445, 1446, 1447, 1448, 1449, 1450, 1451, 1452, 1453, 1454, 1455, 1456, 1457, 1458, 1459, 1460, 1461, 1462, 1463, 1464, 1465, 1466, 1467, 1468, 1469, 1470, 1471, 1472, 1473, 1474, 1475, 1476, 1477, 1478, 1479, 1480, 1481, 1482, 1483, 1484, 1485, 1486, 1487, 1488, 1489, 1490, 1491, 1492, 1493, 1494, 1495, 1496, 1497, 1498, 1499]
def asL : List Addr := as0 ++ (as1 ++ (as2 ++ (as3 ++ (as4 ++ (as5 ++ (as6 ++ (as7 ++ (as8 ++ (as9 ++ (as10 ++ (as11 ++ (as12 ++ (as13 ++ (as14))))))))))))))
def hkL : PySem.W.Hook := hookZ asL faL fnL tsL exA
def lo0 : List Str := ["_wall", "__name__", "KeeperError", "BadWord", "BadView", "BadKeeper", "BadRule", "LETTERS", "LONGEST", "CONDITIONS", "is_list", "is_number", "is_word", "is_thing_part", "is_own_part", "is_view", "need_view", "thing_conditions", "own_conditions", "held_for", "things_of", "views_of", "PARTS", "PLAIN_DEEDS", "TURN", "MOST_CONDITIONS", "MOST_RULES", "MOST_WANTS", "are_different", "is_deed"]
def lo1 : List Str := ["is_rule", "are_wants", "Keeper", "MOST_WORDS", "need_words", "all_views", "table_of", "choice", "parted", "idle", "trimmed", "_law_begun", "_law_mixed", "_law_take", "_law_pick", "_law_word", "_law_words", "_law_known", "_law_decided", "_law_any_rule", "_law_any_keeper", "_law_near", "_law_refusal", "_law_is_plain_word", "_law_due"]
def loL : List Str := lo0 ++ lo1
abbrev RL : PySem.W.OpenRow := PySem.W.OpenLaw.row PySem.Challenge.rw_latekeepers_k47_comparing_refused
theorem run_eq (w : World) : HandSHeadRun.RunEq RL (PySem.W.view RL.prog [60]) hkL (seenZ asL faL fnL tsL exA) 12000 loL w := by
  intro os
  kernel_rfl
theorem exF {K : Fr} (h : exA K = true) (j : Nat) {f : Fr → Bool} (e : exL[j]? = some f) : f K = true := List.all_eq_true.mp h f (List.mem_of_getElem? e)
theorem top_of {K : Fr} {h : Heap} {mg : Str → Option Value} (X : K.In h) (G : h.Ns mainGlobals mg) (c : SaysY faL fnL tsL exA h K) : ∃ T : Top K mg, T.f_law = (fun K => He.ga K "law") K ∧ mg "law" = some (.ref T.f_law) := by
  obtain ⟨d_is_list, F_is_list⟩ := c.defs e_is_list (List.mem_of_getElem? (i := 0) rfl)
  obtain ⟨d_is_word, F_is_word⟩ := c.defs e_is_word (List.mem_of_getElem? (i := 1) rfl)
  obtain ⟨d_thing_conditions, F_thing_conditions⟩ := c.defs e_thing_conditions (List.mem_of_getElem? (i := 2) rfl)
  obtain ⟨d_own_conditions, F_own_conditions⟩ := c.defs e_own_conditions (List.mem_of_getElem? (i := 3) rfl)
  obtain ⟨d_held_for, F_held_for⟩ := c.defs e_held_for (List.mem_of_getElem? (i := 4) rfl)
  obtain ⟨d_things_of, F_things_of⟩ := c.defs e_things_of (List.mem_of_getElem? (i := 5) rfl)
  obtain ⟨d_views_of, F_views_of⟩ := c.defs e_views_of (List.mem_of_getElem? (i := 6) rfl)
  obtain ⟨d_are_different, F_are_different⟩ := c.defs e_are_different (List.mem_of_getElem? (i := 7) rfl)
  obtain ⟨d_is_deed, F_is_deed⟩ := c.defs e_is_deed (List.mem_of_getElem? (i := 8) rfl)
  obtain ⟨d_is_rule, F_is_rule⟩ := c.defs e_is_rule (List.mem_of_getElem? (i := 9) rfl)
  obtain ⟨d_are_wants, F_are_wants⟩ := c.defs e_are_wants (List.mem_of_getElem? (i := 10) rfl)
  obtain ⟨d_Keeper___init__, F_Keeper___init__⟩ := c.defs e_Keeper___init__ (List.mem_of_getElem? (i := 11) rfl)
  obtain ⟨d_Keeper___len__, F_Keeper___len__⟩ := c.defs e_Keeper___len__ (List.mem_of_getElem? (i := 12) rfl)
  obtain ⟨d_Keeper_decided, F_Keeper_decided⟩ := c.defs e_Keeper_decided (List.mem_of_getElem? (i := 13) rfl)
  obtain ⟨d_need_words, F_need_words⟩ := c.defs e_need_words (List.mem_of_getElem? (i := 14) rfl)
  obtain ⟨d_all_views, F_all_views⟩ := c.defs e_all_views (List.mem_of_getElem? (i := 15) rfl)
  obtain ⟨d_table_of, F_table_of⟩ := c.defs e_table_of (List.mem_of_getElem? (i := 16) rfl)
  obtain ⟨d_choice, F_choice⟩ := c.defs e_choice (List.mem_of_getElem? (i := 17) rfl)
  obtain ⟨d_parted, F_parted⟩ := c.defs e_parted (List.mem_of_getElem? (i := 18) rfl)
  obtain ⟨d_idle, F_idle⟩ := c.defs e_idle (List.mem_of_getElem? (i := 19) rfl)
  obtain ⟨d_trimmed, F_trimmed⟩ := c.defs e_trimmed (List.mem_of_getElem? (i := 20) rfl)
  obtain ⟨d__law_begun, F__law_begun⟩ := c.defs e__law_begun (List.mem_of_getElem? (i := 21) rfl)
  obtain ⟨d__law_mixed, F__law_mixed⟩ := c.defs e__law_mixed (List.mem_of_getElem? (i := 22) rfl)
  obtain ⟨d__law_take, F__law_take⟩ := c.defs e__law_take (List.mem_of_getElem? (i := 23) rfl)
  obtain ⟨d__law_pick, F__law_pick⟩ := c.defs e__law_pick (List.mem_of_getElem? (i := 24) rfl)
  obtain ⟨d__law_word, F__law_word⟩ := c.defs e__law_word (List.mem_of_getElem? (i := 25) rfl)
  obtain ⟨d__law_words, F__law_words⟩ := c.defs e__law_words (List.mem_of_getElem? (i := 26) rfl)
  obtain ⟨d__law_any_rule, F__law_any_rule⟩ := c.defs e__law_any_rule (List.mem_of_getElem? (i := 27) rfl)
  obtain ⟨d__law_refusal, F__law_refusal⟩ := c.defs e__law_refusal (List.mem_of_getElem? (i := 28) rfl)
  obtain ⟨d__law_is_plain_word, F__law_is_plain_word⟩ := c.defs e__law_is_plain_word (List.mem_of_getElem? (i := 29) rfl)
  obtain ⟨d__law_due, F__law_due⟩ := c.defs e__law_due (List.mem_of_getElem? (i := 30) rfl)
  obtain ⟨d_law, F_law⟩ := c.defs e_law (List.mem_of_getElem? (i := 31) rfl)
  obtain ⟨d_Keeper_name, F_Keeper_name⟩ := c.defs e_Keeper_name (List.mem_of_getElem? (i := 32) rfl)
  obtain ⟨d_Keeper_rules, F_Keeper_rules⟩ := c.defs e_Keeper_rules (List.mem_of_getElem? (i := 33) rfl)
  obtain ⟨d_Keeper_wants, F_Keeper_wants⟩ := c.defs e_Keeper_wants (List.mem_of_getElem? (i := 34) rfl)
  obtain ⟨d_BadWord___init__, F_BadWord___init__⟩ := c.defs e_BadWord___init__ (List.mem_of_getElem? (i := 35) rfl)
  obtain ⟨t_LETTERS, c_LETTERS⟩ := He.str_ok X G (c.facts (.str "LETTERS" "abcdefghijklmnopqrstuvwxyz") (List.mem_of_getElem? (i := 39) rfl))
  obtain ⟨t_LONGEST, c_LONGEST⟩ := He.int_ok X G (c.facts (.int "LONGEST" 8) (List.mem_of_getElem? (i := 40) rfl))
  obtain ⟨t_TURN, c_TURN⟩ := He.str_ok X G (c.facts (.str "TURN" "turn") (List.mem_of_getElem? (i := 41) rfl))
  obtain ⟨t_MOST_CONDITIONS, c_MOST_CONDITIONS⟩ := He.int_ok X G (c.facts (.int "MOST_CONDITIONS" 6) (List.mem_of_getElem? (i := 42) rfl))
  obtain ⟨t_MOST_RULES, c_MOST_RULES⟩ := He.int_ok X G (c.facts (.int "MOST_RULES" 8) (List.mem_of_getElem? (i := 43) rfl))
  obtain ⟨t_MOST_WANTS, c_MOST_WANTS⟩ := He.int_ok X G (c.facts (.int "MOST_WANTS" 3) (List.mem_of_getElem? (i := 44) rfl))
  obtain ⟨t_MOST_WORDS, c_MOST_WORDS⟩ := He.int_ok X G (c.facts (.int "MOST_WORDS" 3) (List.mem_of_getElem? (i := 45) rfl))
  refine ⟨{
    ca := { Keeper := He.ga K "Keeper", KeeperError := He.ga K "KeeperError", BadWord := He.ga K "BadWord" },
    g_KeeperError := He.glo_ok X G (c.facts (.glo "KeeperError") (List.mem_of_getElem? (i := 29) rfl)),
    g_BadWord := He.glo_ok X G (c.facts (.glo "BadWord") (List.mem_of_getElem? (i := 30) rfl)),
    ox_BadWord := TX.oex_of (exF c.more 6 rfl : ex6 K = true),
    f_BadWord___init__ := (TLH.mth "BadWord" "__init__") K, d_BadWord___init__ := d_BadWord___init__, F_BadWord___init__ := He5.fun_of F_BadWord___init__,
    bi_BadWord := (He5.fun_of (st := s_BadWord___init__) F_BadWord___init__).binds (ps := ["self", "thing"]) fun _ _ _ _ _ _ us hl => match us, hl with | [_, _], _ => rfl,
    ic_BadWord := TX.ini_of (exF c.more 7 rfl : ex7 K = true),
    no_BadWord_thing := TX.no_of (exF c.more 8 rfl : ex8 K = true),
    bc_KeeperError := TX.base_of (exF c.more 9 rfl : ex9 K = true),
    xm_BadWord := TX.exm_of (exF c.more 10 rfl : ex10 K = true),
    ec_BadWord := TX.exc_of (exF c.more 11 rfl : ex11 K = true),
    kt_BadWord_BadWord := TX.kit_of (exF c.more 12 rfl : ex12 K = true),
    kn_BadWord := TX.kit_of (exF c.more 13 rfl : ex13 K = true),
    xf_BadWord := xfB_ok (exF c.more 14 rfl : ex14 K = true),
    g_Keeper := He.glo_ok X G (c.facts (.glo "Keeper") (List.mem_of_getElem? (i := 31) rfl)),
    cl_Keeper := He.cls_ok (c.facts (.cls "Keeper") (List.mem_of_getElem? (i := 32) rfl)),
    na_Keeper_own_name := He.noat_ok (c.facts (.noat "Keeper" "own_name") (List.mem_of_getElem? (i := 33) rfl)),
    na_Keeper_own_rules := He.noat_ok (c.facts (.noat "Keeper" "own_rules") (List.mem_of_getElem? (i := 34) rfl)),
    na_Keeper_own_wants := He.noat_ok (c.facts (.noat "Keeper" "own_wants") (List.mem_of_getElem? (i := 35) rfl)),
    f_is_list := (fun K => He.ga K "is_list") K, d_is_list := d_is_list, F_is_list := He5.fun_of F_is_list,
    g_is_list := He.glo_ok X G (c.facts (.glo "is_list") (List.mem_of_getElem? (i := 0) rfl)),
    b_is_list := (He5.fun_of (st := s_is_list) F_is_list).binds (ps := ["value"]) fun _ _ _ _ _ _ us hl => match us, hl with | [_], _ => rfl,
    f_is_word := (fun K => He.ga K "is_word") K, d_is_word := d_is_word, F_is_word := He5.fun_of F_is_word,
    g_is_word := He.glo_ok X G (c.facts (.glo "is_word") (List.mem_of_getElem? (i := 1) rfl)),
    b_is_word := (He5.fun_of (st := s_is_word) F_is_word).binds (ps := ["value"]) fun _ _ _ _ _ _ us hl => match us, hl with | [_], _ => rfl,
    f_thing_conditions := (fun K => He.ga K "thing_conditions") K, d_thing_conditions := d_thing_conditions, F_thing_conditions := He5.fun_of F_thing_conditions,
    g_thing_conditions := He.glo_ok X G (c.facts (.glo "thing_conditions") (List.mem_of_getElem? (i := 2) rfl)),
    b_thing_conditions := (He5.fun_of (st := s_thing_conditions) F_thing_conditions).binds (ps := ["thing", "wants"]) fun _ _ _ _ _ _ us hl => match us, hl with | [_, _], _ => rfl,
    f_own_conditions := (fun K => He.ga K "own_conditions") K, d_own_conditions := d_own_conditions, F_own_conditions := He5.fun_of F_own_conditions,
    g_own_conditions := He.glo_ok X G (c.facts (.glo "own_conditions") (List.mem_of_getElem? (i := 3) rfl)),
    b_own_conditions := (He5.fun_of (st := s_own_conditions) F_own_conditions).binds (ps := ["thing", "own"]) fun _ _ _ _ _ _ us hl => match us, hl with | [_, _], _ => rfl,
    f_held_for := (fun K => He.ga K "held_for") K, d_held_for := d_held_for, F_held_for := He5.fun_of F_held_for,
    g_held_for := He.glo_ok X G (c.facts (.glo "held_for") (List.mem_of_getElem? (i := 4) rfl)),
    b_held_for := (He5.fun_of (st := s_held_for) F_held_for).binds (ps := ["view", "wants"]) fun _ _ _ _ _ _ us hl => match us, hl with | [_, _], _ => rfl,
    f_things_of := (fun K => He.ga K "things_of") K, d_things_of := d_things_of, F_things_of := He5.fun_of F_things_of,
    g_things_of := He.glo_ok X G (c.facts (.glo "things_of") (List.mem_of_getElem? (i := 5) rfl)),
    b_things_of := (He5.fun_of (st := s_things_of) F_things_of).binds (ps := ["words"]) fun _ _ _ _ _ _ us hl => match us, hl with | [_], _ => rfl,
    f_views_of := (fun K => He.ga K "views_of") K, d_views_of := d_views_of, F_views_of := He5.fun_of F_views_of,
    g_views_of := He.glo_ok X G (c.facts (.glo "views_of") (List.mem_of_getElem? (i := 6) rfl)),
    b_views_of := (He5.fun_of (st := s_views_of) F_views_of).binds (ps := ["words"]) fun _ _ _ _ _ _ us hl => match us, hl with | [_], _ => rfl,
    f_are_different := (fun K => He.ga K "are_different") K, d_are_different := d_are_different, F_are_different := He5.fun_of F_are_different,
    g_are_different := He.glo_ok X G (c.facts (.glo "are_different") (List.mem_of_getElem? (i := 7) rfl)),
    b_are_different := (He5.fun_of (st := s_are_different) F_are_different).binds (ps := ["things", "some"]) fun _ _ _ _ _ _ us hl => match us, hl with | [_, _], _ => rfl,
    f_is_deed := (fun K => He.ga K "is_deed") K, d_is_deed := d_is_deed, F_is_deed := He5.fun_of F_is_deed,
    g_is_deed := He.glo_ok X G (c.facts (.glo "is_deed") (List.mem_of_getElem? (i := 8) rfl)),
    b_is_deed := (He5.fun_of (st := s_is_deed) F_is_deed).binds (ps := ["value"]) fun _ _ _ _ _ _ us hl => match us, hl with | [_], _ => rfl,
    f_is_rule := (fun K => He.ga K "is_rule") K, d_is_rule := d_is_rule, F_is_rule := He5.fun_of F_is_rule,
    g_is_rule := He.glo_ok X G (c.facts (.glo "is_rule") (List.mem_of_getElem? (i := 9) rfl)),
    b_is_rule := (He5.fun_of (st := s_is_rule) F_is_rule).binds (ps := ["value"]) fun _ _ _ _ _ _ us hl => match us, hl with | [_], _ => rfl,
    f_are_wants := (fun K => He.ga K "are_wants") K, d_are_wants := d_are_wants, F_are_wants := He5.fun_of F_are_wants,
    g_are_wants := He.glo_ok X G (c.facts (.glo "are_wants") (List.mem_of_getElem? (i := 10) rfl)),
    b_are_wants := (He5.fun_of (st := s_are_wants) F_are_wants).binds (ps := ["value"]) fun _ _ _ _ _ _ us hl => match us, hl with | [_], _ => rfl,
    f_Keeper___init__ := (TLH.mth "Keeper" "__init__") K, d_Keeper___init__ := d_Keeper___init__, F_Keeper___init__ := He5.fun_of F_Keeper___init__,
    b_Keeper___init__ := (He5.fun_of (st := s_Keeper___init__) F_Keeper___init__).binds (ps := ["self", "name", "wants", "rules"]) fun _ _ _ _ _ _ us hl => match us, hl with | [_, _, _, _], _ => rfl,
    mk_Keeper := He.mkr_ok (c.facts (.mkr "Keeper") (List.mem_of_getElem? (i := 36) rfl)),
    f_Keeper___len__ := (TLH.mth "Keeper" "__len__") K, d_Keeper___len__ := d_Keeper___len__, F_Keeper___len__ := He5.fun_of F_Keeper___len__,
    b_Keeper___len__ := (He5.fun_of (st := s_Keeper___len__) F_Keeper___len__).binds (ps := ["self"]) fun _ _ _ _ _ _ us hl => match us, hl with | [_], _ => rfl,
    me_Keeper___len__ := He.meth_ok (c.facts (.meth "Keeper" "__len__") (List.mem_of_getElem? (i := 37) rfl)),
    f_Keeper_decided := (TLH.mth "Keeper" "decided") K, d_Keeper_decided := d_Keeper_decided, F_Keeper_decided := He5.fun_of F_Keeper_decided,
    b_Keeper_decided := (He5.fun_of (st := s_Keeper_decided) F_Keeper_decided).binds (ps := ["self", "view"]) fun _ _ _ _ _ _ us hl => match us, hl with | [_, _], _ => rfl,
    me_Keeper_decided := He.meth_ok (c.facts (.meth "Keeper" "decided") (List.mem_of_getElem? (i := 38) rfl)),
    f_need_words := (fun K => He.ga K "need_words") K, d_need_words := d_need_words, F_need_words := He5.fun_of F_need_words,
    g_need_words := He.glo_ok X G (c.facts (.glo "need_words") (List.mem_of_getElem? (i := 11) rfl)),
    b_need_words := (He5.fun_of (st := s_need_words) F_need_words).binds (ps := ["words"]) fun _ _ _ _ _ _ us hl => match us, hl with | [_], _ => rfl,
    f_all_views := (fun K => He.ga K "all_views") K, d_all_views := d_all_views, F_all_views := He5.fun_of F_all_views,
    g_all_views := He.glo_ok X G (c.facts (.glo "all_views") (List.mem_of_getElem? (i := 12) rfl)),
    b_all_views := (He5.fun_of (st := s_all_views) F_all_views).binds (ps := ["words"]) fun _ _ _ _ _ _ us hl => match us, hl with | [_], _ => rfl,
    f_table_of := (fun K => He.ga K "table_of") K, d_table_of := d_table_of, F_table_of := He5.fun_of F_table_of,
    g_table_of := He.glo_ok X G (c.facts (.glo "table_of") (List.mem_of_getElem? (i := 13) rfl)),
    b_table_of := (He5.fun_of (st := s_table_of) F_table_of).binds (ps := ["keeper", "words"]) fun _ _ _ _ _ _ us hl => match us, hl with | [_, _], _ => rfl,
    f_choice := (fun K => He.ga K "choice") K, d_choice := d_choice, F_choice := He5.fun_of F_choice,
    g_choice := He.glo_ok X G (c.facts (.glo "choice") (List.mem_of_getElem? (i := 14) rfl)),
    b_choice := (He5.fun_of (st := s_choice) F_choice).binds (ps := ["keeper", "view"]) fun _ _ _ _ _ _ us hl => match us, hl with | [_, _], _ => rfl,
    f_parted := (fun K => He.ga K "parted") K, d_parted := d_parted, F_parted := He5.fun_of F_parted,
    g_parted := He.glo_ok X G (c.facts (.glo "parted") (List.mem_of_getElem? (i := 15) rfl)),
    b_parted := (He5.fun_of (st := s_parted) F_parted).binds (ps := ["one", "other", "words"]) fun _ _ _ _ _ _ us hl => match us, hl with | [_, _, _], _ => rfl,
    f_idle := (fun K => He.ga K "idle") K, d_idle := d_idle, F_idle := He5.fun_of F_idle,
    g_idle := He.glo_ok X G (c.facts (.glo "idle") (List.mem_of_getElem? (i := 16) rfl)),
    b_idle := (He5.fun_of (st := s_idle) F_idle).binds (ps := ["keeper", "words"]) fun _ _ _ _ _ _ us hl => match us, hl with | [_, _], _ => rfl,
    f_trimmed := (fun K => He.ga K "trimmed") K, d_trimmed := d_trimmed, F_trimmed := He5.fun_of F_trimmed,
    g_trimmed := He.glo_ok X G (c.facts (.glo "trimmed") (List.mem_of_getElem? (i := 17) rfl)),
    b_trimmed := (He5.fun_of (st := s_trimmed) F_trimmed).binds (ps := ["keeper", "words"]) fun _ _ _ _ _ _ us hl => match us, hl with | [_, _], _ => rfl,
    f__law_begun := (fun K => He.ga K "_law_begun") K, d__law_begun := d__law_begun, F__law_begun := He5.fun_of F__law_begun,
    g__law_begun := He.glo_ok X G (c.facts (.glo "_law_begun") (List.mem_of_getElem? (i := 18) rfl)),
    b__law_begun := (He5.fun_of (st := s__law_begun) F__law_begun).binds (ps := ["_law_script"]) fun _ _ _ _ _ _ us hl => match us, hl with | [_], _ => rfl,
    f__law_mixed := (fun K => He.ga K "_law_mixed") K, d__law_mixed := d__law_mixed, F__law_mixed := He5.fun_of F__law_mixed,
    g__law_mixed := He.glo_ok X G (c.facts (.glo "_law_mixed") (List.mem_of_getElem? (i := 19) rfl)),
    b__law_mixed := (He5.fun_of (st := s__law_mixed) F__law_mixed).binds (ps := ["_law_draw"]) fun _ _ _ _ _ _ us hl => match us, hl with | [_], _ => rfl,
    f__law_take := (fun K => He.ga K "_law_take") K, d__law_take := d__law_take, F__law_take := He5.fun_of F__law_take,
    g__law_take := He.glo_ok X G (c.facts (.glo "_law_take") (List.mem_of_getElem? (i := 20) rfl)),
    b__law_take := (He5.fun_of (st := s__law_take) F__law_take).binds (ps := ["_law_draw", "_law_many"]) fun _ _ _ _ _ _ us hl => match us, hl with | [_, _], _ => rfl,
    f__law_pick := (fun K => He.ga K "_law_pick") K, d__law_pick := d__law_pick, F__law_pick := He5.fun_of F__law_pick,
    g__law_pick := He.glo_ok X G (c.facts (.glo "_law_pick") (List.mem_of_getElem? (i := 21) rfl)),
    b__law_pick := (He5.fun_of (st := s__law_pick) F__law_pick).binds (ps := ["_law_draw", "_law_some"]) fun _ _ _ _ _ _ us hl => match us, hl with | [_, _], _ => rfl,
    f__law_word := (fun K => He.ga K "_law_word") K, d__law_word := d__law_word, F__law_word := He5.fun_of F__law_word,
    g__law_word := He.glo_ok X G (c.facts (.glo "_law_word") (List.mem_of_getElem? (i := 22) rfl)),
    b__law_word := (He5.fun_of (st := s__law_word) F__law_word).binds (ps := ["_law_draw"]) fun _ _ _ _ _ _ us hl => match us, hl with | [_], _ => rfl,
    f__law_words := (fun K => He.ga K "_law_words") K, d__law_words := d__law_words, F__law_words := He5.fun_of F__law_words,
    g__law_words := He.glo_ok X G (c.facts (.glo "_law_words") (List.mem_of_getElem? (i := 23) rfl)),
    b__law_words := (He5.fun_of (st := s__law_words) F__law_words).binds (ps := ["_law_draw", "_law_many"]) fun _ _ _ _ _ _ us hl => match us, hl with | [_, _], _ => rfl,
    f__law_any_rule := (fun K => He.ga K "_law_any_rule") K, d__law_any_rule := d__law_any_rule, F__law_any_rule := He5.fun_of F__law_any_rule,
    g__law_any_rule := He.glo_ok X G (c.facts (.glo "_law_any_rule") (List.mem_of_getElem? (i := 24) rfl)),
    b__law_any_rule := (He5.fun_of (st := s__law_any_rule) F__law_any_rule).binds (ps := ["_law_draw", "_law_some"]) fun _ _ _ _ _ _ us hl => match us, hl with | [_, _], _ => rfl,
    f__law_refusal := (fun K => He.ga K "_law_refusal") K, d__law_refusal := d__law_refusal, F__law_refusal := He5.fun_of F__law_refusal,
    g__law_refusal := He.glo_ok X G (c.facts (.glo "_law_refusal") (List.mem_of_getElem? (i := 25) rfl)),
    b__law_refusal := (He5.fun_of (st := s__law_refusal) F__law_refusal).binds (ps := ["_law_work"]) fun _ _ _ _ _ _ us hl => match us, hl with | [_], _ => rfl,
    f__law_is_plain_word := (fun K => He.ga K "_law_is_plain_word") K, d__law_is_plain_word := d__law_is_plain_word, F__law_is_plain_word := He5.fun_of F__law_is_plain_word,
    g__law_is_plain_word := He.glo_ok X G (c.facts (.glo "_law_is_plain_word") (List.mem_of_getElem? (i := 26) rfl)),
    b__law_is_plain_word := (He5.fun_of (st := s__law_is_plain_word) F__law_is_plain_word).binds (ps := ["_law_thing"]) fun _ _ _ _ _ _ us hl => match us, hl with | [_], _ => rfl,
    f__law_due := (fun K => He.ga K "_law_due") K, d__law_due := d__law_due, F__law_due := He5.fun_of F__law_due,
    g__law_due := He.glo_ok X G (c.facts (.glo "_law_due") (List.mem_of_getElem? (i := 27) rfl)),
    b__law_due := (He5.fun_of (st := s__law_due) F__law_due).binds (ps := ["_law_some"]) fun _ _ _ _ _ _ us hl => match us, hl with | [_], _ => rfl,
    f_law := (fun K => He.ga K "law") K, d_law := d_law, F_law := He5.fun_of F_law,
    g_law := He.glo_ok X G (c.facts (.glo "law") (List.mem_of_getElem? (i := 28) rfl)),
    b_law := (He5.fun_of (st := s_law) F_law).binds (ps := ["_law_script"]) fun _ _ _ _ _ _ us hl => match us, hl with | [_], _ => rfl,
    f_Keeper_name := (TLH.getter "Keeper" "name") K, d_Keeper_name := d_Keeper_name, F_Keeper_name := He5.fun_of F_Keeper_name,
    b_Keeper_name := (He5.fun_of (st := s_Keeper_name) F_Keeper_name).binds (ps := ["self"]) fun _ _ _ _ _ _ us hl => match us, hl with | [_], _ => rfl,
    pa_Keeper_name := He.ma K (He.ga K "Keeper") "name", pr_Keeper_name := prop_of (exF c.more 0 rfl : ex0 K = true), pb_Keeper_name := (He5.fun_of (st := s_Keeper_name) F_Keeper_name).binds (ps := ["self"]) fun _ _ _ _ _ _ us hl => match us, hl with | [_], _ => rfl,
    f_Keeper_rules := (TLH.getter "Keeper" "rules") K, d_Keeper_rules := d_Keeper_rules, F_Keeper_rules := He5.fun_of F_Keeper_rules,
    b_Keeper_rules := (He5.fun_of (st := s_Keeper_rules) F_Keeper_rules).binds (ps := ["self"]) fun _ _ _ _ _ _ us hl => match us, hl with | [_], _ => rfl,
    pa_Keeper_rules := He.ma K (He.ga K "Keeper") "rules", pr_Keeper_rules := prop_of (exF c.more 1 rfl : ex1 K = true), pb_Keeper_rules := (He5.fun_of (st := s_Keeper_rules) F_Keeper_rules).binds (ps := ["self"]) fun _ _ _ _ _ _ us hl => match us, hl with | [_], _ => rfl,
    f_Keeper_wants := (TLH.getter "Keeper" "wants") K, d_Keeper_wants := d_Keeper_wants, F_Keeper_wants := He5.fun_of F_Keeper_wants,
    b_Keeper_wants := (He5.fun_of (st := s_Keeper_wants) F_Keeper_wants).binds (ps := ["self"]) fun _ _ _ _ _ _ us hl => match us, hl with | [_], _ => rfl,
    pa_Keeper_wants := He.ma K (He.ga K "Keeper") "wants", pr_Keeper_wants := prop_of (exF c.more 2 rfl : ex2 K = true), pb_Keeper_wants := (He5.fun_of (st := s_Keeper_wants) F_Keeper_wants).binds (ps := ["self"]) fun _ _ _ _ _ _ us hl => match us, hl with | [_], _ => rfl,
    kw_idle_words := kbn_mkN 1 [0] (He5.fun_of (st := s_idle) F_idle) fun _ _ _ _ _ _ us ws h1 h2 => match us, ws, h1, h2 with | [_], [_], _, _ => rfl,
    t_LETTERS := t_LETTERS, c_LETTERS := c_LETTERS,
    t_LONGEST := t_LONGEST, c_LONGEST := c_LONGEST,
    t_TURN := t_TURN, c_TURN := c_TURN,
    t_MOST_CONDITIONS := t_MOST_CONDITIONS, c_MOST_CONDITIONS := c_MOST_CONDITIONS,
    t_MOST_RULES := t_MOST_RULES, c_MOST_RULES := c_MOST_RULES,
    t_MOST_WANTS := t_MOST_WANTS, c_MOST_WANTS := c_MOST_WANTS,
    t_MOST_WORDS := t_MOST_WORDS, c_MOST_WORDS := c_MOST_WORDS,
    a_CONDITIONS := He.ga K "CONDITIONS", c_CONDITIONS := He.glo_ok X G (c.facts (.glo "CONDITIONS") (List.mem_of_getElem? (i := 46) rfl)), r_CONDITIONS := cst_of (exF c.more 3 rfl : ex3 K = true),
    a_PARTS := He.ga K "PARTS", c_PARTS := He.glo_ok X G (c.facts (.glo "PARTS") (List.mem_of_getElem? (i := 47) rfl)), r_PARTS := cst_of (exF c.more 4 rfl : ex4 K = true),
    a_PLAIN_DEEDS := He.ga K "PLAIN_DEEDS", c_PLAIN_DEEDS := He.glo_ok X G (c.facts (.glo "PLAIN_DEEDS") (List.mem_of_getElem? (i := 48) rfl)), r_PLAIN_DEEDS := cst_of (exF c.more 5 rfl : ex5 K = true),
    m_abs := He.free_ok X G (c.facts (.free "abs") (List.mem_of_getElem? (i := 49) rfl)),
    m_all := He.free_ok X G (c.facts (.free "all") (List.mem_of_getElem? (i := 50) rfl)),
    m_bool := He.free_ok X G (c.facts (.free "bool") (List.mem_of_getElem? (i := 51) rfl)),
    m_enumerate := He.free_ok X G (c.facts (.free "enumerate") (List.mem_of_getElem? (i := 52) rfl)),
    m_int := He.free_ok X G (c.facts (.free "int") (List.mem_of_getElem? (i := 53) rfl)),
    m_isinstance := He.free_ok X G (c.facts (.free "isinstance") (List.mem_of_getElem? (i := 54) rfl)),
    m_len := He.free_ok X G (c.facts (.free "len") (List.mem_of_getElem? (i := 55) rfl)),
    m_list := He.free_ok X G (c.facts (.free "list") (List.mem_of_getElem? (i := 56) rfl)),
    m_min := He.free_ok X G (c.facts (.free "min") (List.mem_of_getElem? (i := 57) rfl)),
    m_range := He.free_ok X G (c.facts (.free "range") (List.mem_of_getElem? (i := 58) rfl)),
    m_repr := He.free_ok X G (c.facts (.free "repr") (List.mem_of_getElem? (i := 59) rfl)),
    m_set := He.free_ok X G (c.facts (.free "set") (List.mem_of_getElem? (i := 60) rfl)),
    m_sorted := He.free_ok X G (c.facts (.free "sorted") (List.mem_of_getElem? (i := 61) rfl)),
    m_str := He.free_ok X G (c.facts (.free "str") (List.mem_of_getElem? (i := 62) rfl)),
    m_tuple := He.free_ok X G (c.facts (.free "tuple") (List.mem_of_getElem? (i := 63) rfl)) }, rfl, He.glo_ok X G (c.facts (.glo "law") (List.mem_of_getElem? (i := 28) rfl))⟩
end Lk47
open PySem PySem.W PySem.Calls PyProof.Rows
theorem PySem.Challenge.cw_latekeepers_k47_comparing_refused_holds : PySem.Challenge.rw_latekeepers_k47_comparing_refused.Holds := by
  w_on; o_law
  refine HandSHeadRun.head_any (r := OpenLaw.row PySem.Challenge.rw_latekeepers_k47_comparing_refused) (q := view (OpenLaw.row PySem.Challenge.rw_latekeepers_k47_comparing_refused).prog [60]) (H := Lk47.hkL) (ob := TLH.seenZ Lk47.asL Lk47.faL Lk47.fnL Lk47.tsL Lk47.exA) (M := 12000) (loose := Lk47.loL) (d := HandSHeadRun.topDef (OpenLaw.row PySem.Challenge.rw_latekeepers_k47_comparing_refused).prog 60) (kwd := []) TLH.seenZ_eq
    (by kernel_rfl) (fun s => by kernel_rfl) Lk47.run_eq (by kernel_rfl) (by kernel_rfl) (by kernel_rfl) (by rfl) (by first | assumption | decide +kernel) (by decide +kernel) ⟨rfl, rfl, rfl, rfl, rfl, by decide +kernel⟩ ?hw ?hc
  case hw => w_witness2
  case hc =>
    refine TLH.walk_ofY (l := PySem.Challenge.rw_latekeepers_k47_comparing_refused) (n := 63) (k := 10) (x := "_law_script") (CX := fun _ => L2.CX0) rfl (by decide) (by kernel_rfl) ⟨rfl, by decide, by decide⟩ ?F (fun _ _ _ _ _ z => z)
    intro w mg fa h Y G hmg0
    obtain ⟨K, X, c⟩ := Y
    have hmg : mg ("law" : PySem.Str) = some (.ref fa) := by
      have e : (HandSHeadRun.topDef (OpenLaw.row PySem.Challenge.rw_latekeepers_k47_comparing_refused).prog 60).name = ("law" : PySem.Str) := by kernel_rfl
      rw [← e]; exact hmg0
    obtain ⟨T, z0, zl⟩ := Lk47.top_of X G c
    have efa : fa = T.f_law := by rw [zl] at hmg; cases hmg; rfl
    subst efa
    have cds : ∀ t ∈ Lk47.cdsOf T, ∃ s ∈ Lk47.tsL, t.1 = TLH.codeAt K (s K) ∧ t.2.1 = TLH.tabAt K (s K) := by
      intro t ht
      simp only [Lk47.cdsOf, List.mem_cons, List.not_mem_nil, or_false] at ht
      rcases ht with rfl
      · exact ⟨_, List.mem_of_getElem? (l := Lk47.tsL) (i := 0) rfl, by rw [z0], by rw [z0]⟩
    refine ⟨K, T.d_law, Lk47.cdsOf T, Lk47.S_law, X, ⟨fun t ht => ?_, fun t ht => ?_, fun t ht => ?_, fun s v => ?_, fun ns hl => Lk47.law_true ns hl, fun base inK nsM tb => ?_⟩⟩
    · obtain ⟨s, hs, _, e⟩ := cds t ht; rw [e]; exact c.empty s hs
    · obtain ⟨s, hs, _, e⟩ := cds t ht; rw [e]; exact c.apart s hs
    · obtain ⟨s, hs, e1, e⟩ := cds t ht; rw [e, e1]; exact PySem.W.codeHd_of_K X (c.codes s hs)
    · exact TLH.law_binds T.F_law (fun _ _ _ _ _ _ u => rfl) s v
    · exact Lk47.ok_law T ⟨tb, (fun p hp q hq _ => by simp only [TLH.tabsOf, Lk47.cdsOf, List.map_cons, List.map_nil, List.mem_cons, List.not_mem_nil, or_false] at hp hq; rw [hp, hq])⟩ (Lk47.k_law T.ca w)
