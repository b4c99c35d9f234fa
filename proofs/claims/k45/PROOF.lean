import PyProof.Rows.All
import PySem.Challenge.RW_latekeepers_k45_keepers_parted
import HandS.ForMost
import HandS.DictComp
import KE.KDictCopyH
import KE.KDictKeyed
import KE.KDictLaw
import HandS.IsInst
import HandS.TupAny
import HandS.More
import HandS.Style
import HandS.Small
import HandS.Dict
import HandS.Exc
import HandS.ExcOwn
import PyProof.FactsLen
import HandS.Words
import HandS.WordsExc
import HandS.Ends
import HandS.Defaults
import HandS.Property
import HandS.Strs
import PyProof.ReprLen
import HandS.Codes
import HandS.Comp
import HandS.Iter
import KE.GoesMore
import KE.GoesEnum
set_option Elab.async false
set_option linter.all false
set_option maxRecDepth 100000
set_option maxHeartbeats 4000000
/-! TLK: dicts whose keys are whole numbers and None. -/
namespace L2
open PySem PySem.Spec PyProof.Rows
def lfO : Option Int → Leaf
  | none => .none
  | some i => .num i
def kvO : Option Int → V
  | none => .non
  | some i => .int i
theorem lfO_inj {a b : Option Int} (h : lfO a = lfO b) : a = b := by
  cases a <;> cases b <;> simp_all [lfO]
/-- the dict at d has these keys -/
def KdP (d : Addr) (ks : List (Option Int)) : Heap → Prop := fun h => (d == sysModules) = false ∧ ∀ (prog : Program) (w : World), ∃ kvs : List (Leaf × Value), h.DictOf (leafKind prog w) d kvs ∧ (∀ kv ∈ kvs, ∃ o, kv.1 = lfO o) ∧ kvs.length ≤ ks.length ∧
  ∀ o, (valueAt kvs (lfO o)).isSome = decide (o ∈ ks)
section
variable {prog prog' : Program} {w w' : World} {h : Heap} {d : Addr} {kvs : List (Leaf × Value)}
theorem pairs_re : ∀ {es : List DictEntry} {kvs : List (Leaf × Value)}, Pairs (leafKind prog w) es kvs → Pairs (leafKind prog' w') es kvs
  | _, _, .nil => .nil
  | _, _, .cons a b r => .cons a b (pairs_re r)
theorem pairs_mem : ∀ {es : List DictEntry} {kvs : List (Leaf × Value)}, Pairs (leafKind prog w) es kvs → ∀ e ∈ es, ∃ kv ∈ kvs, (leafKind prog w).is kv.1 e.key = true
  | _, _, .nil, e, he => by cases he
  | _, _, .cons (kv := kv) a b r, e, he => by
    rcases List.mem_cons.mp he with rfl | he
    · exact ⟨kv, List.mem_cons_self .., a⟩
    · obtain ⟨kv', m, z⟩ := pairs_mem r e he
      exact ⟨kv', List.mem_cons_of_mem _ m, z⟩
theorem kind_re (hm : h.DictOf (leafKind prog w) d kvs) (nt : ∀ kv ∈ kvs, ∃ o, kv.1 = lfO o) : h.DictOf (leafKind prog' w') d kvs := by
  obtain ⟨o, es, ep, ho, hc, hd, hk, hp, hn⟩ := hm
  refine ⟨o, es, ep, ho, hc, hd, fun e he => ?_, pairs_re hp, hn⟩
  obtain ⟨k, h1, h2⟩ := hk e he
  obtain ⟨kv, m, z⟩ := pairs_mem hp e (by simpa using he)
  have ek : k = kv.1 := (leafKind prog w).inj _ _ _ h1 z
  obtain ⟨q, eq⟩ := nt kv m
  refine ⟨k, h1, ?_⟩
  rw [h2, ek, eq]
  cases q <;> rfl
end
section
variable {P : Program} {w : World} {H : Hp} {h : Heap} {a : Addr} {ks : List (Option Int)}
theorem kd_ok (hp : KdP a ks h) : ObjOk P w H h a (.ext (KdP a ks)) := by
  obtain ⟨z, q⟩ := id hp
  obtain ⟨kvs, ⟨o, _, _, ho, _⟩, _⟩ := q P w
  refine ⟨hp, ⟨o, ho⟩, fun h1 h2 p k => ⟨p.1, fun prog w => ?_⟩⟩
  obtain ⟨kvs, x, y⟩ := p.2 prog w
  exact ⟨kvs, x.at k, y⟩
theorem kd_new (h : Heap) (hb : (h.objs.size == sysModules) = false) : KdP h.objs.size [] (h.push { cls := .type "dict", data := .dict #[] }) :=
  ⟨hb, fun prog w => ⟨[], Heap.DictOf.new h, ⟨fun kv z => (by simp at z), Nat.le_refl _, fun o => rfl⟩⟩⟩
theorem kd_put {h' : Heap} {o : Option Int} {v : Value} (hp : KdP a ks h) {kvs : List (Leaf × Value)} (nt : ∀ kv ∈ kvs, ∃ o, kv.1 = lfO o) (hl : kvs.length ≤ ks.length) (hs : ∀ o, (valueAt kvs (lfO o)).isSome = decide (o ∈ ks)) (hd : h'.DictOf (leafKind P w) a (stored kvs (lfO o) v)) : KdP a (ks ++ [o]) h' := by
  have nt' : ∀ kv ∈ stored kvs (lfO o) v, ∃ o, kv.1 = lfO o := by
    intro kv hkv
    unfold stored at hkv
    split at hkv
    · obtain ⟨x, hx, e⟩ := List.mem_map.mp hkv
      obtain ⟨q, hq⟩ := nt x hx
      split at e
      · exact ⟨q, by rw [← e]; exact hq⟩
      · exact ⟨q, by rw [← e]; exact hq⟩
    · rcases List.mem_append.mp hkv with m | m
      · exact nt kv m
      · have : kv = (lfO o, v) := by simpa using m
        exact ⟨o, by rw [this]⟩
  refine ⟨hp.1, fun prog' w' => ⟨stored kvs (lfO o) v, kind_re hd nt', nt', ?_, fun q => ?_⟩⟩
  · rw [length_stored, List.length_append]
    show _ ≤ ks.length + 1
    split <;> omega
  · by_cases e : q = o
    · subst e
      rw [valueAt_stored_same]
      simp
    · rw [valueAt_stored_other kvs _ v (fun z => e (lfO_inj z)), hs q]
      simp [e]
theorem kd_key {o : Option Int} {u : Value} (r : RelV (kvO o) u) : (leafKind P w).is (lfO o) u = true := by
  cases o with
  | none => cases (show u = Value.none from r); rfl
  | some i => obtain ⟨t, rfl⟩ := (show ∃ t, u = Value.int i t from r); exact decide_eq_true rfl
/-- d[k] = v by a comprehension -/
theorem kd_dictSet {X : Cx} {pins : List (Addr × Obj)} {σ : St} {H : Hp} {s : Shared} {E : Value → Shared → Prop} {D : Addr} {ks : List (Option Int)} {o : Option Int} {u r : Value} {Q : Unit → Shared → Prop} (I : Inv X pins σ H s) (hD : H D = some (.ext (KdP D ks))) (hz : ks.length < sizeLine)
    (ry : RelV (kvO o) u) (h : ∀ s', Inv X pins σ (upd H D (.ext (KdP D (ks ++ [o])))) s' → Q () s') : wpAny (model X.prog X.w) X.A (dictSet D u r) Q E s := by
  have hp : KdP D ks s.heap := (I.hok D _ hD).1
  obtain ⟨kvs, dd, nt, hl, hs⟩ := hp.2 X.prog X.w
  refine wpAny_dictSet_pairs (hsz := by omega) (kd_key ry) dd fun h' dd' sb => h _ ?_
  have he : ∃ q, h'.get? D = some q := let ⟨q, _, _, hq, _⟩ := dd'; ⟨q, hq⟩
  exact d_write I (by rw [hD]; exact True.intro) sb he (kd_ok (kd_put hp nt hl hs dd'))
end
/-! ### the comprehension -/
section
variable {X : Cx}
/-- {k: v for target in iter if ..}, keys whole numbers and None -/
def tKc (wi : TI) (g : TG) (tt : TT) (tk tv : TE) (vs : List Nat) : TE := fun σ H Q => wi σ H fun J H1 => ∀ D, H1 D = none → ∃ W : Nat → Nat → Hp → Prop, (∃ m, W 0 m (upd H1 D (.ext (KdP D [])))) ∧ ∀ i m H, W i m H →
  (J.stop i H ∧ Q (.ref D) H) ∨ (J.go i H ∧ ∃ Nx : Hp → Prop, (∀ H', Nx H' → ∃ m', m' < m ∧ W (i + 1) m' H') ∧ ∀ x H', J.yld i H x H' → g x (wipe σ vs) H' fun σ2 H2 => wipe σ2 vs = wipe σ vs ∧ tt σ2 H2 fun b H3 =>
    if b = true then tk σ2 H3 fun y H4 => tv σ2 H4 fun _ H5 => ∃ ks o, y = kvO o ∧ H5 D = some (.ext (KdP D ks)) ∧ ks.length < sizeLine ∧ Nx (upd H5 D (.ext (KdP D (ks ++ [o])))) else Nx H3)
theorem kc_core {pins : List (Addr × Obj)} {s : Shared} {σ : St} {H : Hp} {Q : VK} {kx vx tg iter : Expr} {ifs : List Expr} {scope : Scope} {own : List (Str × Nat)} {pos pos' : Pos} {wi : TI} {g : TG} {tt : TT} {tk tv : TE} {use : Option (Value → Sem Unit)} {Qf : Value → Shared → Prop}
    (hc : X.calm = true) (hN : X.N.Nodup) (I : Inv X pins σ H s) (hi : PI X tg iter wi) (ok : BlkOk X.N X.env.scope scope own)
    (hg : ∀ (s : Shared) (H : Hp) (C : Addr) (cl : List (Str × Addr)) (fp : List Addr), PG (X.blk s H scope (compEnvC scope cl C X.env) fp) tg g) (ht : ∀ (s : Shared) (H : Hp) (C : Addr) (cl : List (Str × Addr)) (fp : List Addr), PTs (X.blk s H scope (compEnvC scope cl C X.env) fp) ifs tt)
    (hk : ∀ (s : Shared) (H : Hp) (C : Addr) (cl : List (Str × Addr)) (fp : List Addr), PE (X.blk s H scope (compEnvC scope cl C X.env) fp) kx tk)
    (he : ∀ (s : Shared) (H : Hp) (C : Addr) (cl : List (Str × Addr)) (fp : List Addr), PE (X.blk s H scope (compEnvC scope cl C X.env) fp) vx tv) (hs : ∀ x, foldedSetIterable iter X.env x = pure x)
    (h : tKc wi g tt tk tv (own.map (·.2)) σ H Q)
    (hRR : ∀ D C s' m H', Inv X pins σ H' s' → Q (.ref D) H' → s'.heap.Ns C m → FpOk X pins H' C → compPost (model X.prog X.w) X.A X.xe use Qf (.ref D) C (.ok .next) s') :
    wpAny (model X.prog X.w) X.A (comprehension (.DictComp kx vx [⟨tg, iter, ifs, 0⟩] scope pos) scope X.env pos' newDict false (eval iter X.env) use) Qf X.xe s := by
  have hfree : ∀ y ∈ scope.names, y.2 = .free → ∃ c, X.env.cells.lookup y.1 = some c := fun y hy e => (ok.free y hy e).elim (fun k => I.ok.has _ (.inl k)) fun k => I.ok.has _ (.inr k)
  refine wpAny_comprehension_free (use := use) rfl hs (closure_ok hfree) ok.kind (fun y hy e => by rw [ok.uniq y hy, e]) (thn (hi.run pins s σ H _ I h) fun xv s1 hx => thn hx fun itv s2 ⟨it, fp, tn, J, H2, e, I2, T, st2, f2, q⟩ => ?_)
  subst e
  refine wpAny_newObj_type (newEnv_comp ?_)
  generalize hD : s2.heap.objs.size = D
  have hDn : H2 D = none := I2.hok.fresh (Nat.le_of_eq hD)
  obtain ⟨W, ⟨m0, w0⟩, turn⟩ := q D hDn
  generalize hs3 : ({ s2 with heap := s2.heap.push { cls := .type "dict", data := .dict #[] } } : Shared) = s3
  have hmod : (s2.heap.objs.size == sysModules) = false := beq_eq_false_iff_ne.mpr (Ne.symm (Nat.ne_of_lt I2.big))
  have I3 : Inv X pins σ (upd H2 D (.ext (KdP D []))) s3 := by
    subst hs3 hD
    exact I2.laid (t' := s2.toks) (fun b o e => Heap.get?_push_of_some _ e) (Nat.le_refl _) (kd_ok (kd_new s2.heap hmod))
  have h3 : s3.heap = s2.heap.push { cls := .type "dict", data := .dict #[] } := by rw [← hs3]
  have f3 : ∀ b ∈ fp, FpOk X pins (upd H2 D (.ext (KdP D []))) b ∧ b < s3.heap.objs.size := fun b hb => by
    obtain ⟨o, e, _⟩ := T.obj _ _ st2 b hb
    have hlt := Heap.lt_size e
    exact ⟨⟨by rw [upd_ne (by rw [← hD]; exact Nat.ne_of_lt hlt)]; exact (f2 b hb).1, (f2 b hb).2⟩, by rw [h3, Heap.size_push]; exact Nat.lt_succ_of_lt hlt⟩
  have st3 : tn 0 s3.heap := T.keep _ _ _ st2 fun b _ o e => by rw [h3]; exact Heap.get?_push_of_some _ e
  have I4 := block_start I3 ok hN f3
  generalize hcl : cellsFrom (s3.heap.objs.size + 1) scope.names (cloFrom X.env.cells scope.names []) = cl at I4
  have pg := hg s3 (upd H2 D (.ext (KdP D []))) s3.heap.objs.size cl fp
  have pt := ht s3 (upd H2 D (.ext (KdP D []))) s3.heap.objs.size cl fp
  have pk := hk s3 (upd H2 D (.ext (KdP D []))) s3.heap.objs.size cl fp
  have pe := he s3 (upd H2 D (.ext (KdP D []))) s3.heap.objs.size cl fp
  subst hcl
  have nfp : ∀ b ∈ fp, (upd H2 D (.ext (KdP D []))) b = none := fun b hb => (f3 b hb).1.1
  show codeAny _ _ (.compStart (.DictComp kx vx [⟨tg, iter, ifs, 0⟩] scope pos) 0 (.ref it) (.ref D) (compEnvC scope (cellsFrom (s3.heap.objs.size + 1) scope.names (cloFrom X.env.cells scope.names [])) s3.heap.objs.size X.env)) (compPost (model X.prog X.w) X.A X.xe use Qf (.ref D) s3.heap.objs.size) { s3 with heap := pushCells (s3.heap.push { cls := .type "dict", data := .dict #[] }) scope.names }
  generalize hce : compEnvC scope (cellsFrom (s3.heap.objs.size + 1) scope.names (cloFrom X.env.cells scope.names [])) s3.heap.objs.size X.env = ce at I4 pg pt pk pe ⊢
  have cL : ce.locals = s3.heap.objs.size := by subst hce; rfl
  generalize hH3 : upd H2 D (.ext (KdP D [])) = H3 at I3 I4 pg pt pk pe w0 nfp f3
  generalize hs4 : ({ s3 with heap := pushCells (s3.heap.push { cls := .type "dict", data := .dict #[] }) scope.names } : Shared) = s4 at I4 ⊢
  have st4 : tn 0 s4.heap := T.keep _ _ _ st3 fun b _ o e => by rw [← hs4]; exact pushCells_keeps _ _ _ _ (Heap.get?_push_of_some _ e)
  have stat : ∀ {σ' : St} {H' : Hp} {s' : Shared}, Inv (X.blk s3 H3 scope ce fp) [] σ' H' s' → (∀ b ∈ fp, H' b = none) → ∀ b ∈ fp, FpOk (X.blk s3 H3 scope ce fp) [] H' b := fun {σ' H' s'} I' hn b hb =>
    ⟨hn b hb, (I'.ok.exf b hb).1, I'.ok.exfs b hb, .inl hb, fun x c e => (I'.ok.exf b hb).2 x c e, fun p hp => absurd (show p ∈ ([] : List (Addr × Obj)) ++ [] from hp) (by simp)⟩
  refine (fun loop => codeAny_compStart_dict loop (T.self X.A 0 _ _ _ st4 loop)) ?_
  refine compLoop_anyD (fun n s' => ∃ i H', Inv (X.blk s3 H3 scope ce fp) [] (wipe σ (own.map (·.2))) H' s' ∧ tn i s'.heap ∧ (∀ b ∈ fp, H' b = none) ∧ W i n H') ?_ m0 ⟨0, H3, I4, st4, nfp, w0⟩
  rintro n s5 ⟨i, H5, I5, st5, n5, w5⟩
  rcases turn i n H5 w5 with ⟨stop, qq⟩ | ⟨go, Nx, hNx, step⟩
  · refine thnF (T.done (X.blk s3 H3 scope ce fp) rfl rfl rfl hc i [] s5 _ H5 (fun _ _ => False) I5 (stat I5 n5) st5 stop) fun r s6 ⟨hr, I6⟩ => ?_
    subst hr
    have I7 : Inv X pins σ H5 s6 := I3.call' (ch := fp) I6.os I6.base I6.hok I6.bare fun b hb => ⟨(f3 b hb).1.2.2.2.1, (f3 b hb).1.2.1, (f3 b hb).1.2.2.2.2.1, (f3 b hb).1.2.2.2.2.2⟩
    have nC : H5 s3.heap.objs.size = none := cL ▸ (show H5 ce.locals = none from I6.free)
    obtain ⟨m, hn, _⟩ := I6.loc
    have hn : s6.heap.Ns ce.locals m := hn
    rw [cL] at hn
    exact hRR D s3.heap.objs.size s6 m H5 I7 qq hn (I3.fpOk (Nat.le_refl _) nC)
  · refine thnF (T.item (X.blk s3 H3 scope ce fp) rfl rfl rfl hc i [] s5 _ H5 (fun _ _ => False) I5 (stat I5 n5) st5 go) fun r s6 ⟨u, hr, h6⟩ => ?_
    subst hr
    refine thnF h6 fun _ s7 ⟨x, H7, I7, r7, y7, st7, n7⟩ => ?_
    refine thnF (pg.run _ s7 _ H7 x u _ (I7.pinned (stat I7 n7) (T.obj _ _ st7)) r7 (step x H7 y7)) fun _ s8 ⟨σ8, H8, I8, hw8, q8⟩ => ?_
    refine thnF (pt.run _ s8 σ8 H8 _ I8 q8) fun b s9 ⟨H9, I9, q9⟩ => ?_
    have fin : ∀ {s' : Shared} {H' : Hp}, Inv (X.blk s3 H3 scope ce fp) ([] ++ pinsAt fp s7.heap) σ8 H' s' → Nx H' → ∃ m, m < n ∧ ∃ i H', Inv (X.blk s3 H3 scope ce fp) [] (wipe σ (own.map (·.2))) H' s' ∧ tn i s'.heap ∧ (∀ b ∈ fp, H' b = none) ∧ W i m H' := fun {s' H'} I' nx => by
      obtain ⟨m', hm, w'⟩ := hNx H' nx
      have pin' : ∀ b ∈ fp, ∀ o, s7.heap.get? b = some o → s'.heap.get? b = some o ∧ H' b = none := fun b hb o e => ⟨(I'.pin (b, o) (List.mem_append_right _ (List.mem_append_right _ (mem_pinsAt hb e)))).1, (I'.pin (b, o) (List.mem_append_right _ (List.mem_append_right _ (mem_pinsAt hb e)))).2.1⟩
      refine ⟨m', hm, i + 1, H', (I'.unpinned (pins := [])).weak (by rw [← hw8, wipe_length]) (fun j v e => ?_), T.keep _ _ _ st7 fun b hb o e => (pin' b hb o e).1, fun b hb => ?_, w'⟩
      · rw [← hw8] at e
        exact (wipe_some e).1
      · obtain ⟨o, e, _⟩ := T.obj _ _ st7 b hb
        exact (pin' b hb o e).2
    cases b with
    | false =>
      rw [if_neg Bool.false_ne_true] at q9
      exact fin I9 q9
    | true =>
      rw [if_pos rfl] at q9
      refine thnF (pk.run _ s9 σ8 H9 _ I9 q9) fun z s10 ⟨yk, H10, I10, r10, q10⟩ => ?_
      refine thnF (pe.run _ s10 σ8 H10 _ I10 q10) fun z2 s11 ⟨yv, H11, I11, r11, ks, o, ek, hD11, hz11, nx⟩ => ?_
      subst ek
      exact kd_dictSet (X := X.blk s3 H3 scope ce fp) I11 hD11 hz11 r10 fun s12 I12 => fin I12 nx
theorem pe_kc {kx vx tg iter : Expr} {ifs : List Expr} {scope : Scope} {own : List (Str × Nat)} {pos : Pos} {wi : TI} {g : TG} {tt : TT} {tk tv : TE} (hc : X.calm = true) (hN : X.N.Nodup) (hi : PI X tg iter wi) (ok : BlkOk X.N X.env.scope scope own)
    (hg : ∀ (s : Shared) (H : Hp) (C : Addr) (cl : List (Str × Addr)) (fp : List Addr), PG (X.blk s H scope (compEnvC scope cl C X.env) fp) tg g) (ht : ∀ (s : Shared) (H : Hp) (C : Addr) (cl : List (Str × Addr)) (fp : List Addr), PTs (X.blk s H scope (compEnvC scope cl C X.env) fp) ifs tt)
    (hk : ∀ (s : Shared) (H : Hp) (C : Addr) (cl : List (Str × Addr)) (fp : List Addr), PE (X.blk s H scope (compEnvC scope cl C X.env) fp) kx tk)
    (he : ∀ (s : Shared) (H : Hp) (C : Addr) (cl : List (Str × Addr)) (fp : List Addr), PE (X.blk s H scope (compEnvC scope cl C X.env) fp) vx tv) (hs : ∀ x, foldedSetIterable iter X.env x = pure x := by intro _; rfl) :
    PE X (.DictComp kx vx [⟨tg, iter, ifs, 0⟩] scope pos) (tKc wi g tt tk tv (own.map (·.2))) := by
  refine ⟨fun pins s σ H Q I h => ?_⟩
  rw [arm_eval_DictComp]
  refine kc_core hc hN I hi ok hg ht hk he hs h fun D C s' m H' I' q hn f => ⟨m, hn, fun h'' sb => ?_⟩
  obtain ⟨f0, f1, f2, f3, f4, f5⟩ := f
  exact ⟨.ref D, H', I'.turned (t' := s'.toks) (fun b o hb e => (sb.2 b hb).trans e) f0 f1 f3 f4 f5, rfl, q⟩
end
end L2

/-! TL0: trees over the hand layer: data as trees, what is frozen (G), what is owned (ω), the lifted readings. -/
namespace TL
open PySem PySem.Spec PyProof.Rows L2

/-- data as trees -/
inductive D where
  | non | bl (b : Bool) | int (i : Int) | str (x : Str)
  | tup (xs : List D) | lst (xs : List D) | dct (kvs : List (Key × D))
  | obj (C : Addr) (fs : List (Str × D)) | ref (a : Addr) | ty (n : String)
  | scr (ns : List Int)

instance : Inhabited D := ⟨.non⟩

mutual
/-- in the frozen heap G the value stands for the tree -/
inductive Rp (K : PySem.W.Frag) (G : Hp) : V → D → Prop
  | non : Rp K G .non .non
  | bl (b : Bool) : Rp K G (.bl b) (.bl b)
  | int (i : Int) : Rp K G (.int i) (.int i)
  | str (x : Str) : Rp K G (.str x) (.str x)
  | tup {a : Addr} {vs : List V} {ds : List D} : SqT K G a vs → RpL K G vs ds → Rp K G (.ref a) (.tup ds)
  | lst {a : Addr} {vs : List V} {ds : List D} : G a = some (.lst vs) → RpL K G vs ds → Rp K G (.ref a) (.lst ds)
  | dct {a : Addr} {kvs : List (Key × V)} {ds : List (Key × D)} : G a = some (.dK kvs) → RpK K G kvs ds → Rp K G (.ref a) (.dct ds)
  | obj {a C dx : Addr} {fs : List (Str × V)} {ds : List (Str × D)} : G a = some (.ins C dx fs) → G dx = some (.own a) → RpF K G fs ds → Rp K G (.ref a) (.obj C ds)
  | ref (a : Addr) : Rp K G (.ref a) (.ref a)
  | ty (n : String) : Rp K G (.ty n) (.ty n)
  | scr {a : Addr} {ns : List Int} : SqL K G a (ns.map V.int) → Rp K G (.ref a) (.scr ns)
inductive RpL (K : PySem.W.Frag) (G : Hp) : List V → List D → Prop
  | nil : RpL K G [] []
  | cons {v : V} {vs : List V} {d : D} {ds : List D} : Rp K G v d → RpL K G vs ds → RpL K G (v :: vs) (d :: ds)
inductive RpK (K : PySem.W.Frag) (G : Hp) : List (Key × V) → List (Key × D) → Prop
  | nil : RpK K G [] []
  | cons {k : Key} {v : V} {kvs : List (Key × V)} {d : D} {ds : List (Key × D)} : Rp K G v d → RpK K G kvs ds → RpK K G ((k, v) :: kvs) ((k, d) :: ds)
inductive RpF (K : PySem.W.Frag) (G : Hp) : List (Str × V) → List (Str × D) → Prop
  | nil : RpF K G [] []
  | cons {f : Str} {v : V} {fs : List (Str × V)} {d : D} {ds : List (Str × D)} : Rp K G v d → RpF K G fs ds → RpF K G ((f, v) :: fs) ((f, d) :: ds)
end

theorem seqT {K : PySem.W.Frag} {H H' : Hp} {a : Addr} {xs : List V} (e : Same H H') (h : SqT K H a xs) : SqT K H' a xs := by
  rcases h with (h | ⟨o, h⟩) | h
  · exact .inl (.inl (e _ _ h))
  · exact .inl (.inr ⟨o, e _ _ h⟩)
  · exact .inr h

section
variable {K : PySem.W.Frag} {G G' : Hp}
mutual
theorem Rp.mono (s : Same G G') : ∀ {v : V} {d : D}, Rp K G v d → Rp K G' v d
  | _, _, .non => .non
  | _, _, .bl b => .bl b
  | _, _, .int i => .int i
  | _, _, .str x => .str x
  | _, _, .tup h r => .tup (seqT s h) (RpL.mono s r)
  | _, _, .lst h r => .lst (s _ _ h) (RpL.mono s r)
  | _, _, .dct h r => .dct (s _ _ h) (RpK.mono s r)
  | _, _, .obj h h' r => .obj (s _ _ h) (s _ _ h') (RpF.mono s r)
  | _, _, .ref a => .ref a
  | _, _, .ty n => .ty n
  | _, _, .scr h => .scr (s.seq h)
theorem RpL.mono (s : Same G G') : ∀ {vs : List V} {ds : List D}, RpL K G vs ds → RpL K G' vs ds
  | _, _, .nil => .nil
  | _, _, .cons h r => .cons (Rp.mono s h) (RpL.mono s r)
theorem RpK.mono (s : Same G G') : ∀ {vs : List (Key × V)} {ds : List (Key × D)}, RpK K G vs ds → RpK K G' vs ds
  | _, _, .nil => .nil
  | _, _, .cons h r => .cons (Rp.mono s h) (RpK.mono s r)
theorem RpF.mono (s : Same G G') : ∀ {vs : List (Str × V)} {ds : List (Str × D)}, RpF K G vs ds → RpF K G' vs ds
  | _, _, .nil => .nil
  | _, _, .cons h r => .cons (Rp.mono s h) (RpF.mono s r)
end
theorem RpL.length : ∀ {vs : List V} {ds : List D}, RpL K G vs ds → vs.length = ds.length
  | _, _, .nil => rfl
  | _, _, .cons _ r => congrArg (· + 1) r.length
theorem RpL.append : ∀ {vs ws : List V} {ds es : List D}, RpL K G vs ds → RpL K G ws es → RpL K G (vs ++ ws) (ds ++ es)
  | _, _, _, _, .nil, s => s
  | _, _, _, _, .cons h r, s => .cons h (r.append s)
theorem RpL.get : ∀ {vs : List V} {ds : List D} {i : Nat} {d : D}, RpL K G vs ds → ds[i]? = some d → ∃ v, vs[i]? = some v ∧ Rp K G v d
  | _, _, _, _, .nil, h => by simp at h
  | _, _, 0, _, .cons h _, e => by simp at e; subst e; exact ⟨_, rfl, h⟩
  | _, _, i + 1, _, .cons _ r, e => by
    obtain ⟨v, h1, h2⟩ := RpL.get (i := i) r (by simpa using e)
    exact ⟨v, by simpa using h1, h2⟩
theorem RpL.get' : ∀ {vs : List V} {ds : List D} {i : Nat} {v : V}, RpL K G vs ds → vs[i]? = some v → ∃ d, ds[i]? = some d ∧ Rp K G v d
  | _, _, _, _, .nil, h => by simp at h
  | _, _, 0, _, .cons h _, e => by simp at e; subst e; exact ⟨_, rfl, h⟩
  | _, _, i + 1, _, .cons _ r, e => by
    obtain ⟨v, h1, h2⟩ := RpL.get' (i := i) r (by simpa using e)
    exact ⟨v, by simpa using h1, h2⟩
theorem RpL.take : ∀ {vs : List V} {ds : List D} (n : Nat), RpL K G vs ds → RpL K G (vs.take n) (ds.take n)
  | _, _, 0, _ => .nil
  | _, _, _ + 1, .nil => .nil
  | _, _, n + 1, .cons h r => .cons h (r.take n)
theorem RpL.drop : ∀ {vs : List V} {ds : List D} (n : Nat), RpL K G vs ds → RpL K G (vs.drop n) (ds.drop n)
  | _, _, 0, r => r
  | _, _, _ + 1, .nil => .nil
  | _, _, n + 1, .cons _ r => r.drop n
theorem RpL.set {v : V} {d : D} (h : Rp K G v d) : ∀ {vs : List V} {ds : List D} (i : Nat), RpL K G vs ds → RpL K G (vs.set i v) (ds.set i d)
  | _, _, _, .nil => .nil
  | _, _, 0, .cons _ r => .cons h r
  | _, _, i + 1, .cons h' r => .cons h' (RpL.set h i r)
theorem RpL.eraseIdx : ∀ {vs : List V} {ds : List D} (i : Nat), RpL K G vs ds → RpL K G (vs.eraseIdx i) (ds.eraseIdx i)
  | _, _, _, .nil => .nil
  | _, _, 0, .cons _ r => r
  | _, _, i + 1, .cons h r => .cons h (r.eraseIdx i)
theorem RpL.reverse {vs : List V} {ds : List D} (h : RpL K G vs ds) : RpL K G vs.reverse ds.reverse := by
  induction vs generalizing ds with
  | nil => cases h; exact .nil
  | cons v vs ih =>
    cases h with
    | cons h r => rw [List.reverse_cons, List.reverse_cons]; exact (ih r).append (.cons h .nil)
theorem RpL.insertIdx {v : V} {d : D} (h : Rp K G v d) : ∀ {vs : List V} {ds : List D} (i : Nat), RpL K G vs ds → RpL K G (vs.insertIdx i v) (ds.insertIdx i d)
  | _, _, 0, r => .cons h r
  | _, _, _ + 1, .nil => .nil
  | _, _, i + 1, .cons h' r => .cons h' (RpL.insertIdx h i r)
theorem RpL.rep {vs : List V} {ds : List D} (h : RpL K G vs ds) : ∀ k : Nat, RpL K G (List.replicate k vs).flatten (List.replicate k ds).flatten
  | 0 => .nil
  | k + 1 => by rw [List.replicate_succ, List.replicate_succ, List.flatten_cons, List.flatten_cons]; exact h.append (h.rep k)
theorem RpL.ints : ∀ ns : List Int, RpL K G (ns.map V.int) (ns.map D.int)
  | [] => .nil
  | n :: ns => .cons (.int n) (RpL.ints ns)
theorem RpL.strs : ∀ ns : List Str, RpL K G (ns.map V.str) (ns.map D.str)
  | [] => .nil
  | n :: ns => .cons (.str n) (RpL.strs ns)
end

abbrev Stt := L2.St
/-! ### what a slot holds -/
inductive Res where
  /-- the law's source of draws, good for b more turns -/
  | st (b : Nat)
  /-- the same, laid open -/
  | stx (L C : List Int) (r t : Int) (b : Nat)
  /-- an own object that is being made, with the fields set so far -/
  | ob (C : Addr) (fs : List (Str × D))
  /-- the source of draws whose list has the key "great" -/
  | sg (b : Nat)
  | sgx (L C : List Int) (r t : Int) (b : Nat)
  /-- a dict with these keys, whole numbers and None -/
  | kd (ks : List (Option Int))
/-- in a slot: nothing known; frozen data; an owned list, dict; an owned thing -/
inductive Sl where
  | un | fr (d : D) | ls (xs : List D) | dc (kvs : List (Key × D)) | rs (r : Res)
def Sl.own : Sl → Bool
  | .ls _ => true
  | .dc _ => true
  | .rs _ => true
  | _ => false
abbrev Env := List Sl
/-- the law's source: {"large": [..], "cells": [..], "rest": n, "turn": n} -/
def StX (G H : Hp) (F : Addr → Prop) (v : V) (large cells : List Int) (rest turn : Int) (b : Nat) : Prop :=
  ∃ (S L C : Addr), v = .ref S ∧ F S ∧ F L ∧
    H S = some (.dK [(Sum.inr "large", .ref L), (Sum.inr "cells", .ref C), (Sum.inr "rest", .int rest), (Sum.inr "turn", .int turn)]) ∧
    H L = some (.lst (large.map V.int)) ∧ G C = some (.lst (cells.map V.int)) ∧ large.length ≤ 63 ∧ cells.length ≤ 63 ∧ 0 ≤ turn ∧ turn + b ≤ 1000000000000
/-- {"great": [..], "cells": [..], "rest": n, "turn": n} -/
def SgX (G H : Hp) (F : Addr → Prop) (v : V) (great cells : List Int) (rest turn : Int) (b : Nat) : Prop :=
  ∃ (S L C : Addr), v = .ref S ∧ F S ∧ F L ∧
    H S = some (.dK [(Sum.inr "great", .ref L), (Sum.inr "cells", .ref C), (Sum.inr "rest", .int rest), (Sum.inr "turn", .int turn)]) ∧
    H L = some (.lst (great.map V.int)) ∧ G C = some (.lst (cells.map V.int)) ∧ great.length ≤ 63 ∧ cells.length ≤ 63 ∧ 0 ≤ turn ∧ turn + b ≤ 1000000000000
def Res.ok (K : PySem.W.Frag) (G H : Hp) (F : Addr → Prop) (v : V) : Res → Prop
  | .st b => ∃ large cells rest turn, StX G H F v large cells rest turn b
  | .stx L C r t b => StX G H F v L C r t b
  | .ob C fs => ∃ (a dx : Addr) (vs : List (Str × V)), v = .ref a ∧ F a ∧ F dx ∧ H a = some (.ins C dx vs) ∧ H dx = some (.own a) ∧ RpF K G vs fs
  | .sg b => ∃ great cells rest turn, SgX G H F v great cells rest turn b
  | .sgx L C r t b => SgX G H F v L C r t b
  | .kd ks => ∃ a, v = .ref a ∧ F a ∧ H a = some (.ext (KdP a ks))
def SlOk (K : PySem.W.Frag) (G H : Hp) (F : Addr → Prop) (ov : Option (Option V)) : Sl → Prop
  | .un => True
  | .fr d => ∃ v, ov = some (some v) ∧ Rp K G v d
  | .ls ds => ∃ a vs, ov = some (some (.ref a)) ∧ F a ∧ H a = some (.lst vs) ∧ RpL K G vs ds
  | .dc ds => ∃ a vs, ov = some (some (.ref a)) ∧ F a ∧ H a = some (.dK vs) ∧ RpK K G vs ds
  | .rs r => ∃ v, ov = some (some v) ∧ r.ok K G H F v
theorem StX.mono {G G' H H' : Hp} {F F' : Addr → Prop} {v : V} {lg cs : List Int} {rest turn : Int} {b : Nat} (s : Same G G') (hF : ∀ a, F a → F' a ∧ H' a = H a) (h : StX G H F v lg cs rest turn b) : StX G' H' F' v lg cs rest turn b := by
  obtain ⟨S, L, C, e, f1, f2, h1, h2, h3, h4⟩ := h
  exact ⟨S, L, C, e, (hF _ f1).1, (hF _ f2).1, (hF _ f1).2.trans h1, (hF _ f2).2.trans h2, s _ _ h3, h4⟩
theorem SgX.mono {G G' H H' : Hp} {F F' : Addr → Prop} {v : V} {lg cs : List Int} {rest turn : Int} {b : Nat} (s : Same G G') (hF : ∀ a, F a → F' a ∧ H' a = H a) (h : SgX G H F v lg cs rest turn b) : SgX G' H' F' v lg cs rest turn b := by
  obtain ⟨S, L, C, e, f1, f2, h1, h2, h3, h4⟩ := h
  exact ⟨S, L, C, e, (hF _ f1).1, (hF _ f2).1, (hF _ f1).2.trans h1, (hF _ f2).2.trans h2, s _ _ h3, h4⟩
theorem Res.ok.mono {K : PySem.W.Frag} {G G' H H' : Hp} {F F' : Addr → Prop} {v : V} {r : Res} (s : Same G G') (hF : ∀ a, F a → F' a ∧ H' a = H a) (h : r.ok K G H F v) : r.ok K G' H' F' v := by
  cases r with
  | st b =>
    obtain ⟨lg, cs, rest, turn, h⟩ := h
    exact ⟨lg, cs, rest, turn, h.mono s hF⟩
  | stx L C r t b => exact StX.mono s hF h
  | sg b =>
    obtain ⟨lg, cs, rest, turn, h⟩ := h
    exact ⟨lg, cs, rest, turn, h.mono s hF⟩
  | sgx L C r t b => exact SgX.mono s hF h
  | kd ks =>
    obtain ⟨a, e, f1, h1⟩ := h
    exact ⟨a, e, (hF _ f1).1, (hF _ f1).2.trans h1⟩
  | ob C fs =>
    obtain ⟨a, dx, vs, e, f1, f2, h1, h2, r⟩ := h
    exact ⟨a, dx, vs, e, (hF _ f1).1, (hF _ f2).1, (hF _ f1).2.trans h1, (hF _ f2).2.trans h2, RpF.mono s r⟩
theorem SlOk.mono {K : PySem.W.Frag} {G G' H H' : Hp} {F F' : Addr → Prop} {ov : Option (Option V)} {s : Sl} (g : Same G G') (hF : ∀ a, F a → F' a ∧ H' a = H a) (h : SlOk K G H F ov s) : SlOk K G' H' F' ov s := by
  cases s with
  | un => trivial
  | fr d => obtain ⟨v, e, r⟩ := h; exact ⟨v, e, r.mono g⟩
  | ls ds => obtain ⟨a, vs, e, f, h1, r⟩ := h; exact ⟨a, vs, e, (hF _ f).1, (hF _ f).2.trans h1, r.mono g⟩
  | dc ds => obtain ⟨a, vs, e, f, h1, r⟩ := h; exact ⟨a, vs, e, (hF _ f).1, (hF _ f).2.trans h1, r.mono g⟩
  | rs r => obtain ⟨v, e, q⟩ := h; exact ⟨v, e, q.mono g hF⟩

/-! ### the environment -/
/-- the base: frozen and tracked at the entry, what was handed over as owned, the parameters' values -/
structure Bs where
  G0 : Hp
  H0 : Hp
  A0 : Addr → Prop
  P : Stt
abbrev Own := Addr → Option Nat
structure EnvW (K : PySem.W.Frag) (B : Bs) (G : Hp) (ω : Own) (ρ : Env) (σ : Stt) (H : Hp) : Prop where
  gle : Same G H
  g0 : ∀ a o, G a = some o → B.G0 a = some o ∨ B.H0 a = none ∨ B.A0 a
  keep : ∀ a o, B.H0 a = some o → ¬ B.A0 a → H a = some o
  own : ∀ (a : Addr) (i : Nat), ω a = some i → G a = none ∧ H a ≠ none ∧ (B.A0 a ∨ B.H0 a = none)
  len : ρ.length = σ.length
  slot : ∀ (i : Nat) (s : Sl), ρ[i]? = some s → SlOk K G H (fun a => ω a = some i) σ[i]? s
  pin : ∀ (i : Nat) (s : Sl) (v : V), ρ[i]? = some s → s.own = true → B.P[i]? = some (some v) → σ[i]? = some (some v)
/-- a result: frozen data; what a slot owns; something new that is owned by none -/
inductive Rs where
  | dat (d : D) | sl (i : Nat) | nw (s : Sl)
def RsOk (K : PySem.W.Frag) (G H : Hp) (ω : Own) (σ : Stt) (v : V) : Rs → Prop
  | .dat d => Rp K G v d
  | .sl i => σ[i]? = some (some v)
  | .nw s => s.own = true ∧ SlOk K G H (fun a => ω a = some σ.length) (some (some v)) s
/-- settled: something new is frozen -/
def stl : Rs → Rs
  | .nw (.ls xs) => .dat (.lst xs)
  | .nw (.dc xs) => .dat (.dct xs)
  | r => r
def val (ρ : Env) : Rs → Option D
  | .dat d => some d
  | .sl i => match ρ[i]? with
    | some (.ls xs) => some (.lst xs)
    | some (.dc xs) => some (.dct xs)
    | _ => none
  | .nw (.ls xs) => some (.lst xs)
  | .nw (.dc xs) => some (.dct xs)
  | .nw _ => none
/-- data as it is read now: frozen, or an owned list or dict of frozen data -/
def RdV (K : PySem.W.Frag) (G H : Hp) (v : V) (d : D) : Prop :=
  Rp K G v d ∨ (∃ a vs ds, v = .ref a ∧ d = .lst ds ∧ H a = some (.lst vs) ∧ RpL K G vs ds) ∨ ∃ a vs ds, v = .ref a ∧ d = .dct ds ∧ H a = some (.dK vs) ∧ RpK K G vs ds

def Fin (K : PySem.W.Frag) (B : Bs) (G : Hp) (ρ : Env) (σ : Stt) (H : Hp) (v : V) (r : Rs) : Prop := ∃ ω, EnvW K B G ω ρ σ H ∧ RsOk K G H ω σ v r
def EnvOk (K : PySem.W.Frag) (B : Bs) (G : Hp) (ρ : Env) (σ : Stt) (H : Hp) : Prop := ∃ ω, EnvW K B G ω ρ σ H

section
variable {K : PySem.W.Frag} {B : Bs} {G G' : Hp} {ω : Own} {ρ : Env} {σ : Stt} {H H' : Hp} {v : V} {r : Rs} {d : D}
theorem Fin.env (f : Fin K B G ρ σ H v r) : EnvOk K B G ρ σ H := let ⟨ω, e, _⟩ := f; ⟨ω, e⟩
theorem EnvW.dat (e : EnvW K B G ω ρ σ H) (h : Rp K G v d) : Fin K B G ρ σ H v (.dat d) := ⟨ω, e, h⟩
theorem EnvOk.dat (e : EnvOk K B G ρ σ H) (h : Rp K G v d) : Fin K B G ρ σ H v (.dat d) := let ⟨ω, e⟩ := e; ⟨ω, e, h⟩
theorem RdV.tup {xs : List D} (r : RdV K G H v (.tup xs)) : ∃ a vs, v = .ref a ∧ SqT K G a vs ∧ RpL K G vs xs := by
  rcases r with r | ⟨_, _, _, _, e, _⟩ | ⟨_, _, _, _, e, _⟩
  · cases r with | tup h r => exact ⟨_, _, rfl, h, r⟩
  · cases e
  · cases e
theorem RdV.lst {xs : List D} (s : Same G H) (r : RdV K G H v (.lst xs)) : ∃ a vs, v = .ref a ∧ H a = some (.lst vs) ∧ RpL K G vs xs := by
  rcases r with r | ⟨a, vs, ds, e1, e, h, r⟩ | ⟨_, _, _, _, e, _⟩
  · cases r with | lst h r => exact ⟨_, _, rfl, s _ _ h, r⟩
  · cases e; exact ⟨a, vs, e1, h, r⟩
  · cases e
theorem RdV.dct {xs : List (Key × D)} (s : Same G H) (r : RdV K G H v (.dct xs)) : ∃ a vs, v = .ref a ∧ H a = some (.dK vs) ∧ RpK K G vs xs := by
  rcases r with r | ⟨a, vs, ds, e1, e, _⟩ | ⟨a, vs, ds, e1, e, h, r⟩
  · cases r with | dct h r => exact ⟨_, _, rfl, s _ _ h, r⟩
  · cases e
  · cases e; exact ⟨a, vs, e1, h, r⟩
theorem RdV.int {i : Int} (r : RdV K G H v (.int i)) : v = .int i := by
  rcases r with r | ⟨_, _, _, _, e, _⟩ | ⟨_, _, _, _, e, _⟩
  · cases r; rfl
  · cases e
  · cases e
theorem RdV.str {i : Str} (r : RdV K G H v (.str i)) : v = .str i := by
  rcases r with r | ⟨_, _, _, _, e, _⟩ | ⟨_, _, _, _, e, _⟩
  · cases r; rfl
  · cases e
  · cases e
theorem RdV.bl {i : Bool} (r : RdV K G H v (.bl i)) : v = .bl i := by
  rcases r with r | ⟨_, _, _, _, e, _⟩ | ⟨_, _, _, _, e, _⟩
  · cases r; rfl
  · cases e
  · cases e
theorem RdV.non (r : RdV K G H v .non) : v = .non := by
  rcases r with r | ⟨_, _, _, _, e, _⟩ | ⟨_, _, _, _, e, _⟩
  · cases r; rfl
  · cases e
  · cases e
theorem RdV.scr {ns : List Int} (r : RdV K G H v (.scr ns)) : ∃ a, v = .ref a ∧ SqL K G a (ns.map V.int) := by
  rcases r with r | ⟨_, _, _, _, e, _⟩ | ⟨_, _, _, _, e, _⟩
  · cases r with | scr h => exact ⟨_, rfl, h⟩
  · cases e
  · cases e

/-- tracked at the entry and gone now: it was handed over -/
theorem EnvW.gone (e : EnvW K B G ω ρ σ H) {a : Addr} (h : H a = none) : B.A0 a ∨ B.H0 a = none := by
  cases q : B.H0 a with
  | none => exact .inr rfl
  | some o =>
    refine .inl (Classical.byContradiction fun n => ?_)
    rw [e.keep a o q n] at h; cases h
/-- new objects, frozen or not -/
theorem EnvW.grow (e : EnvW K B G ω ρ σ H) (g : Same G G') (h : Same H H') (gl : Same G' H') (hn : ∀ a o, G' a = some o → G a = some o ∨ H a = none) : EnvW K B G' ω ρ σ H' where
  gle := gl
  g0 := fun a o q => by
    rcases hn a o q with q | q
    · exact e.g0 a o q
    · rcases e.gone q with z | z
      · exact .inr (.inr z)
      · exact .inr (.inl z)
  keep := fun a o q n => h _ _ (e.keep a o q n)
  own := fun a i q => by
    obtain ⟨h1, h2, h3⟩ := e.own a i q
    refine ⟨?_, ?_, h3⟩
    · cases z : G' a with
      | none => rfl
      | some o =>
        rcases hn a o z with z | z
        · rw [h1] at z; cases z
        · exact absurd z h2
    · intro z
      cases w : H a with
      | none => exact h2 w
      | some o => rw [h a o w] at z; cases z
  len := e.len
  slot := fun i s q => (e.slot i s q).mono g fun a z => ⟨z, by
    obtain ⟨_, h2, _⟩ := e.own a i z
    cases w : H a with
    | none => exact absurd w h2
    | some o => exact h a o w⟩
  pin := e.pin
theorem same_upd {p : Addr} {o : HO} (h : H p = none) : Same H (upd H p o) := fun b x e => by
  rw [upd_ne (ne_of_none e h)]; exact e
theorem same_upd2 {p : Addr} {o : HO} (s : Same G H) : Same (upd G p o) (upd H p o) := fun b x e => by
  by_cases hb : b = p
  · subst hb; rw [upd_same] at e ⊢; exact e
  · rw [upd_ne hb] at e ⊢; exact s _ _ e
theorem Same.none {a : Addr} (s : Same G H) (h : H a = none) : G a = none := by
  cases q : G a with
  | none => rfl
  | some o => rw [s a o q] at h; cases h
/-- a new object, frozen at once -/
theorem EnvW.newG (e : EnvW K B G ω ρ σ H) {p : Addr} {o : HO} (h : H p = none) : Same G (upd G p o) ∧ EnvW K B (upd G p o) ω ρ σ (upd H p o) := by
  have hg := Same.none e.gle h
  refine ⟨same_upd hg, e.grow (same_upd hg) (same_upd h) (same_upd2 e.gle) fun a u q => ?_⟩
  by_cases hb : a = p
  · subst hb; exact .inr h
  · rw [upd_ne hb] at q; exact .inl q
/-- ω with p owned by i alone -/
def tagd (ω : Own) (p : Addr) (i : Nat) : Own := fun a => if a = p then some i else if ω a = some i then none else ω a
def untag (ω : Own) (i : Nat) : Own := fun a => if ω a = some i then none else ω a
def retag (ω : Own) (i j : Nat) : Own := fun a => if ω a = some i then some j else if ω a = some j then none else ω a
theorem untag_some {i j : Nat} {a : Addr} (h : untag ω i a = some j) : ω a = some j ∧ j ≠ i := by
  unfold untag at h
  split at h
  · cases h
  · rename_i n; exact ⟨h, fun z => n (z ▸ h)⟩
theorem untag_ne {i j : Nat} {a : Addr} (hj : j ≠ i) (h : ω a = some j) : untag ω i a = some j := by
  unfold untag
  rw [if_neg (fun z => by rw [h] at z; exact hj (Option.some.inj z))]; exact h
/-- what a slot beyond the list owns is forgotten -/
theorem EnvW.dropTag (e : EnvW K B G ω ρ σ H) {i : Nat} (hi : σ.length ≤ i) : EnvW K B G (untag ω i) ρ σ H where
  gle := e.gle
  g0 := e.g0
  keep := e.keep
  own := fun a j q => e.own a j (untag_some q).1
  len := e.len
  slot := fun j s q => (e.slot j s q).mono (.refl _) fun a z => by
    refine ⟨untag_ne ?_ z, rfl⟩
    have : j < ρ.length := (List.getElem?_eq_some_iff.mp q).1
    have := e.len
    omega
  pin := e.pin
/-- a new object that is owned by none as yet -/
theorem EnvW.newW (e : EnvW K B G ω ρ σ H) {p : Addr} {o : HO} (h : H p = none) : EnvW K B G (tagd ω p σ.length) ρ σ (upd H p o) where
  gle := fun a u q => same_upd h _ _ (e.gle a u q)
  g0 := e.g0
  keep := fun a u q n => same_upd h _ _ (e.keep a u q n)
  own := fun a i q => by
    unfold tagd at q
    by_cases ha : a = p
    · subst ha
      refine ⟨Same.none e.gle h, by rw [upd_same]; simp, e.gone h⟩
    · rw [if_neg ha] at q
      split at q
      · cases q
      · obtain ⟨h1, h2, h3⟩ := e.own a i q
        exact ⟨h1, by rw [upd_ne ha]; exact h2, h3⟩
  len := e.len
  slot := fun j s q => (e.slot j s q).mono (.refl _) fun a z => by
    obtain ⟨_, h2, _⟩ := e.own a j z
    have ha : a ≠ p := fun w => h2 (w ▸ h)
    refine ⟨?_, upd_ne ha⟩
    unfold tagd
    have : j < ρ.length := (List.getElem?_eq_some_iff.mp q).1
    have := e.len
    rw [if_neg ha, if_neg (fun w => by rw [z] at w; have := Option.some.inj w; omega)]
    exact z
  pin := e.pin
theorem tagd_same {p : Addr} {i : Nat} : tagd ω p i p = some i := by unfold tagd; rw [if_pos rfl]
theorem EnvW.newL (e : EnvW K B G ω ρ σ H) {p : Addr} {vs : List V} {ds : List D} (h : H p = none) (r : RpL K G vs ds) : Fin K B G ρ σ (upd H p (.lst vs)) (.ref p) (.nw (.ls ds)) :=
  ⟨_, e.newW h, rfl, p, vs, rfl, tagd_same, upd_same, r⟩
theorem EnvW.newD (e : EnvW K B G ω ρ σ H) {p : Addr} {vs : List (Key × V)} {ds : List (Key × D)} (h : H p = none) (r : RpK K G vs ds) : Fin K B G ρ σ (upd H p (.dK vs)) (.ref p) (.nw (.dc ds)) :=
  ⟨_, e.newW h, rfl, p, vs, rfl, tagd_same, upd_same, r⟩
theorem EnvW.newT (e : EnvW K B G ω ρ σ H) {p : Addr} {vs : List V} {ds : List D} (h : H p = none) (r : RpL K G vs ds) :
    Same G (upd G p (.tup vs)) ∧ Fin K B (upd G p (.tup vs)) ρ σ (upd H p (.tup vs)) (.ref p) (.dat (.tup ds)) := by
  obtain ⟨s, e'⟩ := e.newG (o := .tup vs) h
  exact ⟨s, ω, e', .tup (.inl (.inl upd_same)) (r.mono s)⟩
/-- an owned object becomes frozen -/
theorem EnvW.freeze (e : EnvW K B G ω ρ σ H) {p : Addr} {i : Nat} {o : HO} (hp : ω p = some i) (ho : H p = some o) (hi : ∀ s, ρ[i]? = some s → s.own = true → False) :
    Same G (upd G p o) ∧ EnvW K B (upd G p o) (untag ω i) ρ σ H := by
  obtain ⟨g1, g2, g3⟩ := e.own p i hp
  have sg : Same G (upd G p o) := same_upd g1
  refine ⟨sg, ⟨fun a u q => ?_, fun a u q => ?_, e.keep, fun a j q => ?_, e.len, fun j s q => ?_, e.pin⟩⟩
  · by_cases ha : a = p
    · subst ha; rw [upd_same] at q; rw [ho]; exact q
    · rw [upd_ne ha] at q; exact e.gle _ _ q
  · by_cases ha : a = p
    · subst ha
      rcases g3 with z | z
      · exact .inr (.inr z)
      · exact .inr (.inl z)
    · rw [upd_ne ha] at q; exact e.g0 _ _ q
  · obtain ⟨q1, q2⟩ := untag_some q
    obtain ⟨h1, h2, h3⟩ := e.own a j q1
    refine ⟨?_, h2, h3⟩
    have ha : a ≠ p := fun z => by subst z; rw [hp] at q1; exact q2 (Option.some.inj q1).symm
    rw [upd_ne ha]; exact h1
  · by_cases hj : j = i
    · subst hj
      have q' := e.slot j s q
      cases s with
      | un => trivial
      | fr d => obtain ⟨v, e1, r⟩ := q'; exact ⟨v, e1, r.mono sg⟩
      | ls _ => exact (hi _ q rfl).elim
      | dc _ => exact (hi _ q rfl).elim
      | rs _ => exact (hi _ q rfl).elim
    · exact (e.slot j s q).mono sg fun a z => ⟨untag_ne hj z, rfl⟩
/-- a slot's owned things forgotten: the slot must be no owner -/
theorem EnvW.setUn (e : EnvW K B G ω ρ σ H) {i : Nat} {s' : Sl} (hs : SlOk K G H (fun _ => False) σ[i]? s') (ho : s'.own = false) : EnvW K B G (untag ω i) (ρ.set i s') σ H where
  gle := e.gle
  g0 := e.g0
  keep := e.keep
  own := fun a j q => e.own a j (untag_some q).1
  len := by rw [List.length_set]; exact e.len
  slot := fun j s q => by
    by_cases hj : j = i
    · subst hj
      have hl : j < ρ.length := by have := (List.getElem?_eq_some_iff.mp q).1; rwa [List.length_set] at this
      rw [List.getElem?_set_self hl] at q
      cases q
      exact hs.mono (.refl _) fun a z => z.elim
    · rw [List.getElem?_set_ne (Ne.symm hj)] at q
      exact (e.slot j s q).mono (.refl _) fun a z => ⟨untag_ne hj z, rfl⟩
  pin := fun j s v q o p => by
    by_cases hj : j = i
    · subst hj
      have hl : j < ρ.length := by have := (List.getElem?_eq_some_iff.mp q).1; rwa [List.length_set] at this
      rw [List.getElem?_set_self hl] at q
      cases q
      rw [ho] at o; cases o
    · rw [List.getElem?_set_ne (Ne.symm hj)] at q
      exact e.pin j s v q o p
/-- settling -/
theorem Fin.stl (f : Fin K B G ρ σ H v r) : ∃ G', Same G G' ∧ Fin K B G' ρ σ H v (stl r) := by
  obtain ⟨ω, e, h⟩ := f
  have hi : ∀ s, ρ[σ.length]? = some s → s.own = true → False := fun s q _ => by
    have := (List.getElem?_eq_some_iff.mp q).1
    have := e.len
    omega
  cases r with
  | dat d => exact ⟨G, .refl _, ω, e, h⟩
  | sl i => exact ⟨G, .refl _, ω, e, h⟩
  | nw s =>
    cases s with
    | ls xs =>
      obtain ⟨_, a, vs, ev, hf, hh, rr⟩ := h
      cases ev
      obtain ⟨sg, e'⟩ := e.freeze hf hh hi
      exact ⟨_, sg, _, e', .lst upd_same (rr.mono sg)⟩
    | dc xs =>
      obtain ⟨_, a, vs, ev, hf, hh, rr⟩ := h
      cases ev
      obtain ⟨sg, e'⟩ := e.freeze hf hh hi
      exact ⟨_, sg, _, e', .dct upd_same (rr.mono sg)⟩
    | un => exact ⟨G, .refl _, ω, e, h⟩
    | fr d => exact ⟨G, .refl _, ω, e, h⟩
    | rs r => exact ⟨G, .refl _, ω, e, h⟩
theorem RsOk.mono {ω' : Own} {H' : Hp} (s : Same G G') (hr : stl r = r) (hnw : ∀ s, r ≠ .nw s) (h : RsOk K G H ω σ v r) : RsOk K G' H' ω' σ v r := by
  cases r with
  | dat d => exact Rp.mono s h
  | sl i => exact h
  | nw s => exact absurd rfl (hnw s)
/-- a settled result, read -/
theorem EnvW.rd (e : EnvW K B G ω ρ σ H) (h : RsOk K G H ω σ v r) (hv : val ρ r = some d) : RdV K G H v d := by
  cases r with
  | dat d' => cases hv; exact .inl h
  | sl i =>
    have hv' : (match ρ[i]? with | some (.ls xs) => some (D.lst xs) | some (.dc xs) => some (.dct xs) | _ => none) = some d := hv
    cases q : ρ[i]? with
    | none => rw [q] at hv'; cases hv'
    | some s =>
      rw [q] at hv'
      have sl := e.slot i s q
      cases s with
      | ls xs =>
        cases hv'
        obtain ⟨a, vs, e1, _, e3, e4⟩ := sl
        have e5 : σ[i]? = some (some v) := h
        rw [e1] at e5; cases e5
        exact .inr (.inl ⟨a, vs, xs, rfl, rfl, e3, e4⟩)
      | dc xs =>
        cases hv'
        obtain ⟨a, vs, e1, _, e3, e4⟩ := sl
        have e5 : σ[i]? = some (some v) := h
        rw [e1] at e5; cases e5
        exact .inr (.inr ⟨a, vs, xs, rfl, rfl, e3, e4⟩)
      | un => cases hv'
      | fr _ => cases hv'
      | rs _ => cases hv'
  | nw s =>
    cases s with
    | ls xs =>
      cases hv
      obtain ⟨_, a, vs, ev, _, h2, h3⟩ := h
      cases ev
      exact .inr (.inl ⟨a, vs, xs, rfl, rfl, h2, h3⟩)
    | dc xs =>
      cases hv
      obtain ⟨_, a, vs, ev, _, h2, h3⟩ := h
      cases ev
      exact .inr (.inr ⟨a, vs, xs, rfl, rfl, h2, h3⟩)
    | un => cases hv
    | fr _ => cases hv
    | rs _ => cases hv
end
end TL

/-! TL1: the lifted readings; expressions. -/
namespace TL
open PySem PySem.Spec PyProof.Rows L2

abbrev DTE := Env → (Rs → Env → Prop) → Prop
abbrev DTT := Env → (Bool → Env → Prop) → Prop
abbrev DTA := Env → (List Rs → Env → Prop) → Prop
structure DEnds where
  nx : Env → Prop
  rt : Rs → Env → Prop
  bk : Env → Prop := fun _ => False
  ct : Env → Prop := fun _ => False
abbrev DTS := DEnds → Env → Prop

def lift (K : PySem.W.Frag) (np : Nat) (t : DTE) : TE := fun σ H Q => ∃ B G ρ Qd, B.P.length = np ∧ EnvOk K B G ρ σ H ∧ t ρ Qd ∧
  ∀ G' v r ρ' H', Same G G' → Fin K B G' ρ' σ H' v r → Qd r ρ' → Q v H'
def liftT (K : PySem.W.Frag) (np : Nat) (t : DTT) : TT := fun σ H Q => ∃ B G ρ Qd, B.P.length = np ∧ EnvOk K B G ρ σ H ∧ t ρ Qd ∧
  ∀ G' b ρ' H', Same G G' → EnvOk K B G' ρ' σ H' → Qd b ρ' → Q b H'
/-- an argument as it is handed over: frozen data, or what a slot owns -/
inductive ArgOk (K : PySem.W.Frag) (G : Hp) (σ : Stt) : V → Rs → Prop
  | dat {v : V} {d : D} : Rp K G v d → ArgOk K G σ v (.dat d)
  | sl {v : V} {i : Nat} : σ[i]? = some (some v) → ArgOk K G σ v (.sl i)
abbrev ArgsOk (K : PySem.W.Frag) (G : Hp) (σ : Stt) : List V → List Rs → Prop := Paired (ArgOk K G σ)
def liftA (K : PySem.W.Frag) (np : Nat) (t : DTA) : TA := fun σ H Q => ∃ B G ρ Qd, B.P.length = np ∧ EnvOk K B G ρ σ H ∧ t ρ Qd ∧
  ∀ G' vs rs ρ' H', Same G G' → EnvOk K B G' ρ' σ H' → ArgsOk K G' σ vs rs → Qd rs ρ' → Q vs H'
def liftS (K : PySem.W.Frag) (np : Nat) (t : DTS) : TS := fun D σ H => ∃ B G ρ Dd, B.P.length = np ∧ EnvOk K B G ρ σ H ∧ t Dd ρ ∧
  (∀ G' ρ' σ' H', Same G G' → EnvOk K B G' ρ' σ' H' → Dd.nx ρ' → D.nx σ' H') ∧
  (∀ G' v r ρ' σ' H', Same G G' → Fin K B G' ρ' σ' H' v r → Dd.rt r ρ' → D.rt v H') ∧
  (∀ G' ρ' σ' H', Same G G' → EnvOk K B G' ρ' σ' H' → Dd.bk ρ' → D.bk σ' H') ∧
  (∀ G' ρ' σ' H', Same G G' → EnvOk K B G' ρ' σ' H' → Dd.ct ρ' → D.ct σ' H')

section
variable {X : Cx} {e : Expr} {es : List Expr} {st : Stmt} {sts : List Stmt}
theorem _root_.L2.PE.mo {t t' : TE} (h : PE X e t) (m : ∀ σ H Q, t' σ H Q → t σ H Q) : PE X e t' := ⟨fun pins s σ H Q I q => h.run pins s σ H Q I (m _ _ _ q)⟩
theorem _root_.L2.PT.mo {t t' : TT} (h : PT X e t) (m : ∀ σ H Q, t' σ H Q → t σ H Q) : PT X e t' := ⟨fun pins s σ H Q I q => h.run pins s σ H Q I (m _ _ _ q)⟩
theorem _root_.L2.PW.mo {t t' : TT} (h : PW X e t) (m : ∀ σ H Q, t' σ H Q → t σ H Q) : PW X e t' := ⟨fun wh pins s σ H Q I q => h.run wh pins s σ H Q I (m _ _ _ q)⟩
theorem _root_.L2.PA.mo {t t' : TA} (h : PA X es t) (m : ∀ σ H Q, t' σ H Q → t σ H Q) : PA X es t' := ⟨fun pos pins s σ H Q I q => h.run pos pins s σ H Q I (m _ _ _ q)⟩
theorem _root_.L2.PS.mo {t t' : TS} (h : PS X st t) (m : ∀ D σ H, t' D σ H → t D σ H) : PS X st t' := ⟨fun pins s σ H D I q => h.run pins s σ H D I (m _ _ _ q)⟩
theorem _root_.L2.PSs.mo {t t' : TS} (h : PSs X sts t) (m : ∀ D σ H, t' D σ H → t D σ H) : PSs X sts t' := ⟨fun pins s σ H D I q => h.run pins s σ H D I (m _ _ _ q)⟩
end

/-! ### readings over trees -/
def W1 (o : Option D) (P : D → Prop) : Prop := match o with | some x => P x | none => False
def W2 (o p : Option D) (P : D → D → Prop) : Prop := match o, p with | some x, some y => P x y | _, _ => False
def WB (o : Option D) (P : Bool → Prop) : Prop := match o with | some (.bl b) => P b | _ => False
def vals (ρ : Env) : List Rs → Option (List D)
  | [] => some []
  | r :: rs => match val ρ r, vals ρ rs with | some d, some ds => some (d :: ds) | _, _ => none
def WL (o : Option (List D)) (P : List D → Prop) : Prop := match o with | some x => P x | none => False
def datL : List Rs → Option (List D)
  | [] => some []
  | .dat d :: rs => match datL rs with | some ds => some (d :: ds) | none => none
  | _ :: _ => none

def dVar (i : Nat) : DTE := fun ρ Q => match ρ[i]? with
  | some (.fr d) => Q (.dat d) ρ
  | some .un => False
  | none => False
  | some _ => Q (.sl i) ρ
def dC (d : D) : DTE := fun ρ Q => Q (.dat d) ρ
/-- frozen -/
def dFrz (t : DTE) : DTE := fun ρ Q => t ρ fun r ρ1 => match stl r with
  | .dat d => Q (.dat d) ρ1
  | .sl i => (match ρ1[i]? with
    | some (.ls xs) => Q (.dat (.lst xs)) (ρ1.set i (.fr (.lst xs)))
    | some (.dc xs) => Q (.dat (.dct xs)) (ρ1.set i (.fr (.dct xs)))
    | _ => False)
  | _ => False
abbrev DOp1 := D → (Rs → Prop) → Prop
abbrev DOp2 := D → D → (Rs → Prop) → Prop
abbrev DOpL := List D → (Rs → Prop) → Prop
def dUn (g : DOp1) (ta : DTE) : DTE := fun ρ Q => ta ρ fun ra ρ1 => W1 (val ρ1 ra) fun x => g x fun r => Q r ρ1
def dBin (g : DOp2) (ta tb : DTE) : DTE := fun ρ Q => ta ρ fun ra ρ1 => tb ρ1 fun rb ρ2 => W2 (val ρ2 (stl ra)) (val ρ2 rb) fun x y => g x y fun r => Q r ρ2
def dNil : DTA := fun ρ Q => Q [] ρ
def dCons (t : DTE) (ts : DTA) : DTA := fun ρ Q => t ρ fun r ρ1 => match stl r with
  | .nw _ => False
  | r' => ts ρ1 fun rs ρ2 => Q (r' :: rs) ρ2
def dTup (t : DTA) : DTE := fun ρ Q => t ρ fun rs ρ1 => WL (datL rs) fun ds => ds.length ≤ sizeLine ∧ Q (.dat (.tup ds)) ρ1
def dLst (t : DTA) : DTE := fun ρ Q => t ρ fun rs ρ1 => WL (datL rs) fun ds => ds.length ≤ sizeLine ∧ Q (.nw (.ls ds)) ρ1
def dCB (g : DOpL) (t : DTA) : DTE := fun ρ Q => t ρ fun rs ρ1 => WL (vals ρ1 rs) fun ds => g ds fun r => Q r ρ1
/-- tests -/
def dTst (t : DTE) : DTT := fun ρ Q => t ρ fun r ρ1 => WB (val ρ1 r) fun b => Q b ρ1
def dAndT (t u : DTT) : DTT := fun ρ Q => t ρ fun c ρ1 => if c = true then u ρ1 Q else Q false ρ1
def dOrT (t u : DTT) : DTT := fun ρ Q => t ρ fun c ρ1 => if c = true then Q true ρ1 else u ρ1 Q
def dNotT (t : DTT) : DTT := fun ρ Q => t ρ fun c ρ1 => Q (!c) ρ1
def dAndV (t u : DTE) : DTE := fun ρ Q => t ρ fun r ρ1 => WB (val ρ1 r) fun c => if c = true then u ρ1 Q else Q (.dat (.bl false)) ρ1
def dOrV (t u : DTE) : DTE := fun ρ Q => t ρ fun r ρ1 => WB (val ρ1 r) fun c => if c = true then Q (.dat (.bl true)) ρ1 else u ρ1 Q
def dNotV (t : DTE) : DTE := fun ρ Q => t ρ fun r ρ1 => WB (val ρ1 r) fun c => Q (.dat (.bl (!c))) ρ1
def dIfE (c : DTT) (t u : DTE) : DTE := fun ρ Q => c ρ fun b ρ1 => if b = true then t ρ1 Q else u ρ1 Q

theorem W1.of {o : Option D} {P : D → Prop} (h : W1 o P) : ∃ x, o = some x ∧ P x := by
  cases o with
  | none => exact h.elim
  | some x => exact ⟨x, rfl, h⟩
theorem W2.of {o p : Option D} {P : D → D → Prop} (h : W2 o p P) : ∃ x y, o = some x ∧ p = some y ∧ P x y := by
  cases o with
  | none => exact (show False from h).elim
  | some x =>
    cases p with
    | none => exact (show False from h).elim
    | some y => exact ⟨x, y, rfl, rfl, h⟩
theorem WB.of {o : Option D} {P : Bool → Prop} (h : WB o P) : ∃ b, o = some (.bl b) ∧ P b := by
  cases o with
  | none => exact (show False from h).elim
  | some x =>
    cases x with
    | bl b => exact ⟨b, rfl, h⟩
    | _ => exact (show False from h).elim
theorem WL.of {o : Option (List D)} {P : List D → Prop} (h : WL o P) : ∃ x, o = some x ∧ P x := by
  cases o with
  | none => exact h.elim
  | some x => exact ⟨x, rfl, h⟩

inductive RdL (K : PySem.W.Frag) (G H : Hp) : List V → List D → Prop
  | nil : RdL K G H [] []
  | cons {v : V} {vs : List V} {d : D} {ds : List D} : RdV K G H v d → RdL K G H vs ds → RdL K G H (v :: vs) (d :: ds)
/-- what a rule over values gives over trees -/
def C1 (K : PySem.W.Frag) (r : V → Hp → VK → Prop) (g : DOp1) : Prop :=
  ∀ {B : Bs} {G : Hp} {ω : Own} {ρ : Env} {σ : Stt} {H : Hp} {v : V} {x : D} {P : Rs → Prop} {Q : VK}, EnvW K B G ω ρ σ H → RdV K G H v x → g x P →
    (∀ G' v' r' H', Same G G' → Fin K B G' ρ σ H' v' r' → P r' → Q v' H') → r v H Q
def C2 (K : PySem.W.Frag) (r : R2) (g : DOp2) : Prop :=
  ∀ {B : Bs} {G : Hp} {ω : Own} {ρ : Env} {σ : Stt} {H : Hp} {v w : V} {x y : D} {P : Rs → Prop} {Q : VK}, EnvW K B G ω ρ σ H → RdV K G H v x → RdV K G H w y → g x y P →
    (∀ G' v' r' H', Same G G' → Fin K B G' ρ σ H' v' r' → P r' → Q v' H') → r v w H Q
def CL (K : PySem.W.Frag) (r : List V → Hp → VK → Prop) (g : DOpL) : Prop :=
  ∀ {B : Bs} {G : Hp} {ω : Own} {ρ : Env} {σ : Stt} {H : Hp} {vs : List V} {xs : List D} {P : Rs → Prop} {Q : VK}, EnvW K B G ω ρ σ H → RdL K G H vs xs → g xs P →
    (∀ G' v' r' H', Same G G' → Fin K B G' ρ σ H' v' r' → P r' → Q v' H') → r vs H Q

section
variable {K : PySem.W.Frag} {B : Bs} {G G' : Hp} {ω : Own} {ρ : Env} {σ : Stt} {H H' : Hp}
theorem ArgOk.mono {v : V} {r : Rs} (s : Same G G') (h : ArgOk K G σ v r) : ArgOk K G' σ v r := by
  cases h with
  | dat h => exact .dat (h.mono s)
  | sl h => exact .sl h
theorem ArgOk.rs {v : V} {r : Rs} (h : ArgOk K G σ v r) : RsOk K G H ω σ v r := by
  cases h with
  | dat h => exact h
  | sl h => exact h
theorem ArgsOk.rd (e : EnvW K B G ω ρ σ H) : ∀ {vs : List V} {rs : List Rs} {ds : List D}, ArgsOk K G σ vs rs → vals ρ rs = some ds → RdL K G H vs ds
  | _, _, _, .nil, h => by cases h; exact .nil
  | v :: vs, r :: rs, ds, .cons a t, h => by
    unfold vals at h
    cases h1 : val ρ r with
    | none => rw [h1] at h; cases h
    | some d =>
      cases h2 : vals ρ rs with
      | none => rw [h1, h2] at h; cases h
      | some ds' =>
        rw [h1, h2] at h
        cases h
        exact .cons (e.rd (a.rs (ω := ω)) h1) (ArgsOk.rd e t h2)
theorem ArgsOk.dat : ∀ {vs : List V} {rs : List Rs} {ds : List D}, ArgsOk K G σ vs rs → datL rs = some ds → RpL K G vs ds
  | _, _, _, .nil, h => by cases h; exact .nil
  | v :: vs, r :: rs, ds, .cons a t, h => by
    cases r with
    | dat d =>
      unfold datL at h
      cases h2 : datL rs with
      | none => rw [h2] at h; cases h
      | some ds' =>
        rw [h2] at h
        cases h
        cases a with
        | dat a => exact .cons a (ArgsOk.dat t h2)
    | sl i => cases h
    | nw s => cases h
theorem RdL.one {vs : List V} {d : D} (h : RdL K G H vs [d]) : ∃ v, vs = [v] ∧ RdV K G H v d := by
  cases h with
  | cons a t => cases t; exact ⟨_, rfl, a⟩
theorem RdL.two {vs : List V} {d e : D} (h : RdL K G H vs [d, e]) : ∃ v w, vs = [v, w] ∧ RdV K G H v d ∧ RdV K G H w e := by
  cases h with
  | cons a t =>
    cases t with
    | cons b t => cases t; exact ⟨_, _, rfl, a, b⟩
end

section
variable {X : Cx} {a b c e : Expr} {es : List Expr} {ta tb : DTE} {tc td : DTT} {ts : DTA} {pos : Pos} {np : Nat}

theorem d_var (i : Nat) {x : Str} (hN : X.N[i]? = some x := by rfl) (hv : Vis X.env.scope x := by first | exact Or.inl rfl | exact Or.inr (Or.inl rfl) | exact Or.inr (Or.inr rfl)) (hd : (x == ("__debug__" : Str)) = false := by decide)
    (hcd : (x == ("__classdict__" : Str)) = false := by decide) : PE X (.Name x pos) (lift X.K np (dVar i)) := by
  refine (pe_var (i := i) hN hv hd hcd).mo fun σ H Q h => ?_
  obtain ⟨B, G, ρ, Qd, _, ⟨ω, ew⟩, h, k⟩ := h
  unfold dVar at h
  cases q : ρ[i]? with
  | none => rw [q] at h; exact h.elim
  | some s =>
    rw [q] at h
    have sl := ew.slot i s q
    cases s with
    | un => exact h.elim
    | fr d =>
      obtain ⟨v, e1, r⟩ := sl
      exact ⟨v, e1, k _ _ _ _ _ (.refl _) (ew.dat r) h⟩
    | ls xs =>
      obtain ⟨p, vs, e1, r⟩ := sl
      exact ⟨.ref p, e1, k _ _ (.sl i) _ _ (.refl _) ⟨ω, ew, e1⟩ h⟩
    | dc xs =>
      obtain ⟨p, vs, e1, r⟩ := sl
      exact ⟨.ref p, e1, k _ _ (.sl i) _ _ (.refl _) ⟨ω, ew, e1⟩ h⟩
    | rs xs =>
      obtain ⟨v, e1, r⟩ := sl
      exact ⟨v, e1, k _ _ (.sl i) _ _ (.refl _) ⟨ω, ew, e1⟩ h⟩
/-- an expression that has one value, the heap as it is -/
theorem d_const {t : TE} {v : V} {d : D} (h : PE X e t) (ht : ∀ σ H Q, Q v H → t σ H Q) (r : ∀ G, Rp X.K G v d) : PE X e (lift X.K np (dC d)) :=
  h.mo fun σ H Q ⟨B, G, ρ, Qd, _, eo, h, k⟩ => ht σ H Q (k _ _ _ _ _ (.refl _) (eo.dat (r G)) h)
theorem d_int {i j pos} : PE X (.Constant (.int i) j pos) (lift X.K np (dC (.int i))) := d_const pe_int (fun _ _ _ q => q) fun _ => .int i
theorem d_bl {i j pos} : PE X (.Constant (.bool i) j pos) (lift X.K np (dC (.bl i))) := d_const pe_bl (fun _ _ _ q => q) fun _ => .bl i
theorem d_non {j pos} : PE X (.Constant .none j pos) (lift X.K np (dC .non)) := d_const pe_non (fun _ _ _ q => q) fun _ => .non
theorem d_str {i j pos} : PE X (.Constant (.str i) j pos) (lift X.K np (dC (.str i))) := d_const pe_str (fun _ _ _ q => q) fun _ => .str i
/-- a constant of the module -/
theorem d_glob {x : Str} {v : V} {u : Value} {d : D} (hg : Gl X x) (hm : X.mg x = some u) (r : RelV v u) (rd : ∀ G, Rp X.K G v d) (hd : (x == ("__debug__" : Str)) = false := by decide) : PE X (.Name x pos) (lift X.K np (dC d)) :=
  d_const (pe_glob hg hm r hd) (fun _ _ _ q => q) rd
theorem d_frz (h : PE X e (lift X.K np ta)) : PE X e (lift X.K np (dFrz ta)) := by
  refine h.mo fun σ H Q h => ?_
  obtain ⟨B, G, ρ, Qd, hn, eo, h, k⟩ := h
  refine ⟨B, G, ρ, _, hn, eo, h, fun G1 v r ρ1 H1 s1 f1 q1 => ?_⟩
  obtain ⟨G2, s2, f2⟩ := f1.stl
  cases hr : stl r with
  | dat d =>
    rw [hr] at q1 f2
    exact k _ _ _ _ _ (s1.trans s2) f2 q1
  | nw s => rw [hr] at q1; exact q1.elim
  | sl i =>
    rw [hr] at q1 f2
    dsimp only at q1
    obtain ⟨ω2, e2, r2⟩ := f2
    have r2' : σ[i]? = some (some v) := r2
    cases q : ρ1[i]? with
    | none => rw [q] at q1; exact q1.elim
    | some s =>
      rw [q] at q1
      have sl := e2.slot i s q
      have hl : i < ρ1.length := (List.getElem?_eq_some_iff.mp q).1
      cases s with
      | un => exact q1.elim
      | fr _ => exact q1.elim
      | rs _ => exact q1.elim
      | ls xs =>
        obtain ⟨p, vs, e1, f, hp, rr⟩ := sl
        rw [r2'] at e1
        cases e1
        have e3 := e2.setUn (i := i) (s' := .un) trivial rfl
        have eb : EnvW X.K B G2 ω2 (ρ1.set i .un) σ H1 := ⟨e2.gle, e2.g0, e2.keep, e2.own, by rw [List.length_set]; exact e2.len, fun j s qj => by
          by_cases hj : j = i
          · subst hj; rw [List.getElem?_set_self hl] at qj; cases qj; trivial
          · rw [List.getElem?_set_ne (Ne.symm hj)] at qj; exact e2.slot j s qj, fun j s w qj o p' => by
          by_cases hj : j = i
          · subst hj; rw [List.getElem?_set_self hl] at qj; cases qj; cases o
          · rw [List.getElem?_set_ne (Ne.symm hj)] at qj; exact e2.pin j s w qj o p'⟩
        obtain ⟨sg, e4⟩ := eb.freeze f hp fun s qs o => by rw [List.getElem?_set_self hl] at qs; cases qs; cases o
        have rp : Rp X.K (upd G2 p (.lst vs)) (.ref p) (.lst xs) := .lst upd_same (rr.mono sg)
        have e5 := e4.setUn (i := i) (s' := .fr (.lst xs)) ⟨.ref p, r2', rp⟩ rfl
        rw [List.set_set] at e5
        exact k _ _ (.dat _) _ _ ((s1.trans s2).trans sg) ⟨_, e5, rp⟩ q1
      | dc xs =>
        obtain ⟨p, vs, e1, f, hp, rr⟩ := sl
        rw [r2'] at e1
        cases e1
        have eb : EnvW X.K B G2 ω2 (ρ1.set i .un) σ H1 := ⟨e2.gle, e2.g0, e2.keep, e2.own, by rw [List.length_set]; exact e2.len, fun j s qj => by
          by_cases hj : j = i
          · subst hj; rw [List.getElem?_set_self hl] at qj; cases qj; trivial
          · rw [List.getElem?_set_ne (Ne.symm hj)] at qj; exact e2.slot j s qj, fun j s w qj o p' => by
          by_cases hj : j = i
          · subst hj; rw [List.getElem?_set_self hl] at qj; cases qj; cases o
          · rw [List.getElem?_set_ne (Ne.symm hj)] at qj; exact e2.pin j s w qj o p'⟩
        obtain ⟨sg, e4⟩ := eb.freeze f hp fun s qs o => by rw [List.getElem?_set_self hl] at qs; cases qs; cases o
        have rp : Rp X.K (upd G2 p (.dK vs)) (.ref p) (.dct xs) := .dct upd_same (rr.mono sg)
        have e5 := e4.setUn (i := i) (s' := .fr (.dct xs)) ⟨.ref p, r2', rp⟩ rfl
        rw [List.set_set] at e5
        exact k _ _ (.dat _) _ _ ((s1.trans s2).trans sg) ⟨_, e5, rp⟩ q1

/-- two operands evaluated, then read -/
theorem two_ok {r : R2} {g : DOp2} (hc : C2 X.K r g) (σ : Stt) (H : Hp) (Q : VK) (h : lift X.K np (dBin g ta tb) σ H Q) : tOp r (lift X.K np ta) (lift X.K np tb) σ H Q := by
  obtain ⟨B, G, ρ, Qd, hn, eo, h, k⟩ := h
  refine ⟨B, G, ρ, _, hn, eo, h, fun G1 v ra ρ1 H1 s1 f1 q1 => ?_⟩
  obtain ⟨G2, s2, f2⟩ := f1.stl
  refine ⟨B, G2, ρ1, _, hn, f2.env, q1, fun G3 w rb ρ2 H2 s3 f3 q2 => ?_⟩
  obtain ⟨x, y, ex, ey, q2⟩ := W2.of q2
  obtain ⟨ω2, e2, r2⟩ := f2
  obtain ⟨ω3, e3, r3⟩ := f3
  have ra' : RsOk X.K G3 H2 ω3 σ v (stl ra) := by
    cases hr : stl ra with
    | dat d => rw [hr] at r2; exact Rp.mono s3 r2
    | sl i => rw [hr] at r2; exact r2
    | nw s =>
      cases ra with
      | dat d => cases hr
      | sl i => cases hr
      | nw s' =>
        cases s' with
        | ls _ => cases hr
        | dc _ => cases hr
        | un => cases ex
        | fr _ => cases ex
        | rs _ => cases ex
  exact hc e3 (e3.rd ra' ex) (e3.rd r3 ey) q2 fun G' v' r' H' s f p => k _ _ _ _ _ (((s1.trans s2).trans s3).trans s) f p
theorem d_bin {op : Operator} {r : R2} {g : DOp2} (ho : OpR X (binaryOp op) r) (hc : C2 X.K r g) (ha : PE X a (lift X.K np ta)) (hb : PE X b (lift X.K np tb)) : PE X (.BinOp a op b pos) (lift X.K np (dBin g ta tb)) :=
  (pe_op ho ha hb).mo fun σ H Q h => two_ok hc σ H Q h
theorem d_cmp {op : CmpOp} {r : R2} {g : DOp2} (ho : OpR X (compareOp op) r) (hc : C2 X.K r g) (ha : PE X a (lift X.K np ta)) (hb : PE X b (lift X.K np tb)) (hm : behindInMarks op b = false) : PE X (.Compare a [op] [b] pos) (lift X.K np (dBin g ta tb)) :=
  (pe_cmpR ho ha hb hm).mo fun σ H Q h => two_ok hc σ H Q h
theorem tst_ok {t : TE} {td : DTE} (m : ∀ σ H Q, lift X.K np td σ H Q → t σ H Q) (σ : Stt) (H : Hp) (Q : Bool → Hp → Prop) (h : liftT X.K np (dTst td) σ H Q) : tTest t σ H Q := by
  obtain ⟨B, G, ρ, Qd, hn, eo, h, k⟩ := h
  refine m σ H _ ⟨B, G, ρ, _, hn, eo, h, fun G1 v r ρ1 H1 s1 f1 q1 => ?_⟩
  obtain ⟨b, eb, q1⟩ := WB.of q1
  obtain ⟨ω, e, rr⟩ := f1
  exact ⟨b, (e.rd rr eb).bl, k _ _ _ _ s1 ⟨ω, e⟩ q1⟩
theorem d_cmpT {op : CmpOp} {r : R2} {g : DOp2} (ho : OpR X (compareOp op) r) (hc : C2 X.K r g) (ha : PE X a (lift X.K np ta)) (hb : PE X b (lift X.K np tb)) (hm : behindInMarks op b = false) : PT X (.Compare a [op] [b] pos) (liftT X.K np (dTst (dBin g ta tb))) :=
  (pt_cmpR ho ha hb hm).mo fun σ H Q h => tst_ok (fun σ H Q h => two_ok hc σ H Q h) σ H Q h
/-- an expression whose value is a bool, as a test -/
theorem d_tst (h : PE X e (lift X.K np ta)) (he : ∀ whole, isTrue e X.env whole = (do let v ← whole; standAt e.pos; holding [v] (truthy v)) := by intro _; rfl) : PT X e (liftT X.K np (dTst ta)) :=
  (pt_val h he).mo fun σ H Q h => tst_ok (fun _ _ _ h => h) σ H Q h
theorem d_un {op : UnaryOp} {r : V → Hp → VK → Prop} {g : DOp1} (ho : UnR X (unaryOp op) r) (hc : C1 X.K r g) (ha : PE X a (lift X.K np ta)) : PE X (.UnaryOp op a pos) (lift X.K np (dUn g ta)) := by
  refine (pe_un ho ha).mo fun σ H Q h => ?_
  obtain ⟨B, G, ρ, Qd, hn, eo, h, k⟩ := h
  refine ⟨B, G, ρ, _, hn, eo, h, fun G1 v ra ρ1 H1 s1 f1 q1 => ?_⟩
  obtain ⟨x, ex, q1⟩ := W1.of q1
  obtain ⟨ω, e, rr⟩ := f1
  exact hc e (e.rd rr ex) q1 fun G' v' r' H' s f p => k _ _ _ _ _ (s1.trans s) f p

/-! ### and, or, not, if -/
theorem d_and1T (h : PT X a (liftT X.K np tc)) : PW X (.BoolOp .And [a] pos) (liftT X.K np tc) := pw_and1 h
theorem d_or1T (h : PT X a (liftT X.K np tc)) : PW X (.BoolOp .Or [a] pos) (liftT X.K np tc) := pw_or1 h
theorem d_andT (h : PT X a (liftT X.K np tc)) (h2 : PW X (.BoolOp .And (b :: es) pos) (liftT X.K np td)) : PW X (.BoolOp .And (a :: b :: es) pos) (liftT X.K np (dAndT tc td)) := by
  refine (pw_and h h2).mo fun σ H Q h => ?_
  obtain ⟨B, G, ρ, Qd, hn, eo, h, k⟩ := h
  refine ⟨B, G, ρ, _, hn, eo, h, fun G1 c ρ1 H1 s1 e1 q1 => ?_⟩
  cases c with
  | true => exact iteT ⟨B, G1, ρ1, Qd, hn, e1, q1, fun G' b ρ' H' s e q => k _ _ _ _ (s1.trans s) e q⟩
  | false => exact iteF (k _ _ _ _ s1 e1 q1)
theorem d_orT (h : PT X a (liftT X.K np tc)) (h2 : PW X (.BoolOp .Or (b :: es) pos) (liftT X.K np td)) : PW X (.BoolOp .Or (a :: b :: es) pos) (liftT X.K np (dOrT tc td)) := by
  refine (pw_or h h2).mo fun σ H Q h => ?_
  obtain ⟨B, G, ρ, Qd, hn, eo, h, k⟩ := h
  refine ⟨B, G, ρ, _, hn, eo, h, fun G1 c ρ1 H1 s1 e1 q1 => ?_⟩
  cases c with
  | false => exact iteF ⟨B, G1, ρ1, Qd, hn, e1, q1, fun G' b ρ' H' s e q => k _ _ _ _ (s1.trans s) e q⟩
  | true => exact iteT (k _ _ _ _ s1 e1 q1)
theorem d_notT (h : PT X a (liftT X.K np tc)) : PT X (.UnaryOp .Not a pos) (liftT X.K np (dNotT tc)) := by
  refine (pt_not h).mo fun σ H Q h => ?_
  obtain ⟨B, G, ρ, Qd, hn, eo, h, k⟩ := h
  exact ⟨B, G, ρ, _, hn, eo, h, fun G1 c ρ1 H1 s1 e1 q1 => k _ _ _ _ s1 e1 q1⟩
theorem d_one {op} (h : PE X a (lift X.K np ta)) : PE X (.BoolOp op [a] pos) (lift X.K np ta) := pe_one h
theorem d_and (ha : PE X a (lift X.K np ta)) (hb : PE X (.BoolOp .And (b :: es) pos) (lift X.K np tb)) : PE X (.BoolOp .And (a :: b :: es) pos) (lift X.K np (dAndV ta tb)) := by
  refine (pe_and ha hb).mo fun σ H Q h => ?_
  obtain ⟨B, G, ρ, Qd, hn, eo, h, k⟩ := h
  refine ⟨B, G, ρ, _, hn, eo, h, fun G1 v r ρ1 H1 s1 f1 q1 => ?_⟩
  obtain ⟨c, eb, q1⟩ := WB.of q1
  obtain ⟨ω, e, rr⟩ := f1
  refine ⟨c, (e.rd rr eb).bl, ?_⟩
  cases c with
  | true => exact iteT ⟨B, G1, ρ1, Qd, hn, ⟨ω, e⟩, q1, fun G' v r ρ' H' s f q => k _ _ _ _ _ (s1.trans s) f q⟩
  | false => exact iteF (k _ _ _ _ _ s1 (e.dat (.bl false)) q1)
theorem d_or (ha : PE X a (lift X.K np ta)) (hb : PE X (.BoolOp .Or (b :: es) pos) (lift X.K np tb)) : PE X (.BoolOp .Or (a :: b :: es) pos) (lift X.K np (dOrV ta tb)) := by
  refine (pe_or ha hb).mo fun σ H Q h => ?_
  obtain ⟨B, G, ρ, Qd, hn, eo, h, k⟩ := h
  refine ⟨B, G, ρ, _, hn, eo, h, fun G1 v r ρ1 H1 s1 f1 q1 => ?_⟩
  obtain ⟨c, eb, q1⟩ := WB.of q1
  obtain ⟨ω, e, rr⟩ := f1
  refine ⟨c, (e.rd rr eb).bl, ?_⟩
  cases c with
  | false => exact iteF ⟨B, G1, ρ1, Qd, hn, ⟨ω, e⟩, q1, fun G' v r ρ' H' s f q => k _ _ _ _ _ (s1.trans s) f q⟩
  | true => exact iteT (k _ _ _ _ _ s1 (e.dat (.bl true)) q1)
theorem d_not (ha : PE X a (lift X.K np ta)) : PE X (.UnaryOp .Not a pos) (lift X.K np (dNotV ta)) := by
  refine (pe_not ha).mo fun σ H Q h => ?_
  obtain ⟨B, G, ρ, Qd, hn, eo, h, k⟩ := h
  refine ⟨B, G, ρ, _, hn, eo, h, fun G1 v r ρ1 H1 s1 f1 q1 => ?_⟩
  obtain ⟨c, eb, q1⟩ := WB.of q1
  obtain ⟨ω, e, rr⟩ := f1
  exact ⟨c, (e.rd rr eb).bl, k _ _ _ _ _ s1 (e.dat (.bl _)) q1⟩
theorem d_ife (hc : PT X c (liftT X.K np tc)) (ha : PE X a (lift X.K np ta)) (hb : PE X b (lift X.K np tb)) : PE X (.IfExp c a b pos) (lift X.K np (dIfE tc ta tb)) := by
  refine (pe_ifExp hc ha hb).mo fun σ H Q h => ?_
  obtain ⟨B, G, ρ, Qd, hn, eo, h, k⟩ := h
  refine ⟨B, G, ρ, _, hn, eo, h, fun G1 c ρ1 H1 s1 e1 q1 => ?_⟩
  cases c with
  | true => exact iteT ⟨B, G1, ρ1, Qd, hn, e1, q1, fun G' v r ρ' H' s f q => k _ _ _ _ _ (s1.trans s) f q⟩
  | false => exact iteF ⟨B, G1, ρ1, Qd, hn, e1, q1, fun G' v r ρ' H' s f q => k _ _ _ _ _ (s1.trans s) f q⟩

/-! ### argument lists, displays -/
theorem d_nil : PA X [] (liftA X.K np dNil) := pa_nil.mo fun σ H Q ⟨B, G, ρ, Qd, hn, eo, h, k⟩ => k _ _ _ _ _ (.refl _) eo .nil h
theorem d_cons (ha : PE X e (lift X.K np ta)) (hr : PA X es (liftA X.K np ts)) (hs : starEach (e :: es) X.env = (false, eval e X.env) :: starEach es X.env := by rfl) : PA X (e :: es) (liftA X.K np (dCons ta ts)) := by
  refine (pa_cons ha hr hs).mo fun σ H Q h => ?_
  obtain ⟨B, G, ρ, Qd, hn, eo, h, k⟩ := h
  refine ⟨B, G, ρ, _, hn, eo, h, fun G1 v r ρ1 H1 s1 f1 q1 => ?_⟩
  obtain ⟨G2, s2, f2⟩ := f1.stl
  have key : ∀ r', r' = stl r → ArgOk X.K G2 σ v r' → ts ρ1 (fun rs ρ2 => Qd (r' :: rs) ρ2) → liftA X.K np ts σ H1 fun xs H2 => Q (v :: xs) H2 := fun r' er ao q =>
    ⟨B, G2, ρ1, _, hn, f2.env, q, fun G' vs rs ρ' H' s e ar qq => k _ _ _ _ _ ((s1.trans s2).trans s) e (.cons (ao.mono s) ar) qq⟩
  obtain ⟨ω, e2, r2⟩ := f2
  cases hr : stl r with
  | dat d => rw [hr] at q1 r2; exact key _ hr.symm (.dat r2) q1
  | sl i => rw [hr] at q1 r2; exact key _ hr.symm (.sl r2) q1
  | nw s => rw [hr] at q1; exact q1.elim
theorem d_tup {x1} (h : PA X es (liftA X.K np ts)) : PE X (.Tuple es x1 pos) (lift X.K np (dTup ts)) := by
  refine (pe_tup h).mo fun σ H Q h => ?_
  obtain ⟨B, G, ρ, Qd, hn, eo, h, k⟩ := h
  refine ⟨B, G, ρ, _, hn, eo, h, fun G1 vs rs ρ1 H1 s1 e1 ar q1 => ?_⟩
  obtain ⟨ds, ed, hz, q1⟩ := WL.of q1
  have rr := ar.dat ed
  refine ⟨by rw [rr.length]; exact hz, fun p hp => ?_⟩
  obtain ⟨ω, e1⟩ := e1
  obtain ⟨sg, f⟩ := e1.newT hp rr
  exact k _ _ _ _ _ (s1.trans sg) f q1
theorem d_lst (h : PA X es (liftA X.K np ts)) : PE X (.List es pos) (lift X.K np (dLst ts)) := by
  refine (pe_lst h).mo fun σ H Q h => ?_
  obtain ⟨B, G, ρ, Qd, hn, eo, h, k⟩ := h
  refine ⟨B, G, ρ, _, hn, eo, h, fun G1 vs rs ρ1 H1 s1 e1 ar q1 => ?_⟩
  obtain ⟨ds, ed, hz, q1⟩ := WL.of q1
  have rr := ar.dat ed
  refine ⟨by rw [rr.length]; exact hz, fun p hp => ?_⟩
  obtain ⟨ω, e1⟩ := e1
  exact k _ _ _ _ _ s1 (e1.newL hp rr) q1
theorem cb_ok {r : List V → Hp → VK → Prop} {g : DOpL} (hc : CL X.K r g) (σ : Stt) (H : Hp) (Q : VK) (h : lift X.K np (dCB g ts) σ H Q) : tCB r (liftA X.K np ts) σ H Q := by
  obtain ⟨B, G, ρ, Qd, hn, eo, h, k⟩ := h
  refine ⟨B, G, ρ, _, hn, eo, h, fun G1 vs rs ρ1 H1 s1 e1 ar q1 => ?_⟩
  obtain ⟨ds, ed, q1⟩ := WL.of q1
  obtain ⟨ω, e1⟩ := e1
  exact hc e1 (ar.rd e1 ed) q1 fun G' v' r' H' s f p => k _ _ _ _ _ (s1.trans s) f p
theorem d_callB {x : Str} {p : Pos} {id : String} {r : List V → Hp → VK → Prop} {g : DOpL} (hcr : CallR X (.builtin id) r) (hc : CL X.K r g) (hg : Gl X x) (hm : X.mg x = none) (hv : bootBuiltins x = some (.builtin id)) (ha : PA X (e :: es) (liftA X.K np ts))
    (hn : x ≠ "__name__" := by decide) (hdb : (x == ("__debug__" : Str)) = false := by decide) (he : starEach (e :: es) X.env = (false, eval e X.env) :: starEach es X.env := by rfl) (hpl : (backTo pos (starEach es X.env)).any (·.1) = false := by rfl) :
    PE X (.Call (.Name x p) (e :: es) [] pos) (lift X.K np (dCB g ts)) := (pe_callB hcr hg hm hv ha hn hdb he hpl).mo fun σ H Q h => cb_ok hc σ H Q h
theorem d_callT {x : Str} {p : Pos} {T : String} {r : List V → Hp → VK → Prop} {g : DOpL} (hcr : CallR X (.type T) r) (hc : CL X.K r g) (hg : Gl X x) (hm : X.mg x = none) (hv : bootBuiltins x = some (.type T)) (ha : PA X (e :: es) (liftA X.K np ts))
    (hn : x ≠ "__name__" := by decide) (hdb : (x == ("__debug__" : Str)) = false := by decide) (he : starEach (e :: es) X.env = (false, eval e X.env) :: starEach es X.env := by rfl) (hpl : (backTo pos (starEach es X.env)).any (·.1) = false := by rfl) :
    PE X (.Call (.Name x p) (e :: es) [] pos) (lift X.K np (dCB g ts)) := (pe_callTy hcr hg hm hv ha hn hdb he hpl).mo fun σ H Q h => cb_ok hc σ H Q h
end
end TL

/-! TL2: trees as the library's data: reading them, repr. -/
namespace TL
open PySem PySem.Spec PyProof.Rows L2

def kD : Key → PyData
  | .inl i => .int i
  | .inr x => .str x
mutual
def py : D → PyData
  | .non => .none
  | .bl b => .bool b
  | .int i => .int i
  | .str x => .str x
  | .tup xs => .tuple (pyL xs)
  | .lst xs => .list (pyL xs)
  | .dct kvs => .dict (pyK kvs)
  | .obj _ _ => .none
  | .ref _ => .none
  | .ty _ => .none
  | .scr ns => .list (ns.map .int)
def pyL : List D → List PyData
  | [] => []
  | x :: xs => py x :: pyL xs
def pyK : List (Key × D) → List (PyData × PyData)
  | [] => []
  | (k, v) :: r => (kD k, py v) :: pyK r
end
mutual
/-- no object, class, def within -/
def plain : D → Bool
  | .non => true
  | .bl _ => true
  | .int _ => true
  | .str _ => true
  | .tup xs => plainL xs
  | .lst xs => plainL xs
  | .dct kvs => plainK kvs
  | .obj _ _ => false
  | .ref _ => false
  | .ty _ => false
  | .scr _ => false
def plainL : List D → Bool
  | [] => true
  | x :: xs => plain x && plainL xs
def plainK : List (Key × D) → Bool
  | [] => true
  | (_, v) :: r => plain v && plainK r
end

/-- dicts apart from sys.modules -/
def DictsOff (h : Heap) (as : List Addr) : Prop := ∀ b ∈ as, (∃ o, h.get? b = some o ∧ o.cls = .type "dict") → (b == sysModules) = false
theorem DictsOff.nil {h : Heap} : DictsOff h [] := fun _ z => nomatch z
theorem DictsOff.app {h : Heap} {as bs : List Addr} (a : DictsOff h as) (b : DictsOff h bs) : DictsOff h (as ++ bs) := fun c hc => (List.mem_append.mp hc).elim (a c) (b c)
theorem pairs_keys {P : Program} {w : World} {h : Heap} : ∀ {es : List DictEntry} {vs : List (Key × Value)}, Pairs (mixKind P w) es vs → ∃ as, ReadsAll h (es.map (·.key)) (vs.map fun p => kD p.1) as ∧ DictsOff h as ∧ es.map (·.val) = vs.map (·.2)
  | _, _, .nil => ⟨[], .nil, .nil, rfl⟩
  | _, _, .cons hk hv hr => by
    obtain ⟨as, r, o, e⟩ := pairs_keys (h := h) hr
    rcases keyIs_shape hk with ⟨i, t, e1, e2⟩ | ⟨x, t, e1, e2⟩
    · refine ⟨[] ++ as, ?_, o, by simp [e, hv]⟩
      simp only [List.map_cons]
      rw [e1, e2]
      exact .cons (.int i t) r
    · refine ⟨[] ++ as, ?_, o, by simp [e, hv]⟩
      simp only [List.map_cons]
      rw [e1, e2]
      exact .cons (.str x t) r
theorem kv_split : ∀ {kvs : List (Key × V)} {vs : List (Key × Value)}, KV kvs vs → Vals (kvs.map (·.2)) (vs.map (·.2)) ∧ kvs.map (·.1) = vs.map (·.1)
  | _, _, .nil => ⟨.nil, rfl⟩
  | _, _, .cons h r => ⟨.cons h.2 (kv_split r).1, by simp [h.1, (kv_split r).2]⟩
theorem pyK_keys : ∀ kvs : List (Key × D), (pyK kvs).map (·.1) = kvs.map fun p => kD p.1
  | [] => rfl
  | (k, v) :: r => by simp [pyK, pyK_keys r]
theorem pyK_vals : ∀ kvs : List (Key × D), (pyK kvs).map (·.2) = pyL (kvs.map (·.2))
  | [] => rfl
  | (k, v) :: r => by simp [pyK, pyL, pyK_vals r]
theorem plainK_vals : ∀ kvs : List (Key × D), plainK kvs = plainL (kvs.map (·.2))
  | [] => rfl
  | (k, v) :: r => by simp [plainK, plainL, plainK_vals r]
section
variable {K : PySem.W.Frag} {G : Hp}
theorem RpK.split : ∀ {kvs : List (Key × V)} {ds : List (Key × D)}, RpK K G kvs ds → RpL K G (kvs.map (·.2)) (ds.map (·.2)) ∧ kvs.map (·.1) = ds.map (·.1)
  | _, _, .nil => ⟨.nil, rfl⟩
  | _, _, .cons h r => ⟨.cons h r.split.1, by simp [r.split.2]⟩
end
section
variable {X : Cx} {pins : List (Addr × Obj)} {σ : Stt} {H G : Hp} {s : Shared}
mutual
theorem Rp.reads (I : Inv X pins σ H s) (g : Same G H) : ∀ (d : D) (v : V) (u : Value), Rp X.K G v d → RelV v u → plain d = true → ∃ as, Reads s.heap u (py d) as ∧ DictsOff s.heap as
  | .non, _, _, .non, r, _ => by cases r; exact ⟨_, .none, .nil⟩
  | .bl b, _, _, .bl _, r, _ => by cases r; exact ⟨_, .bool b, .nil⟩
  | .int i, _, _, .int _, r, _ => by obtain ⟨t, rfl⟩ := r; exact ⟨_, .int i t, .nil⟩
  | .str x, _, _, .str _, r, _ => by obtain ⟨t, rfl⟩ := r; exact ⟨_, .str x t, .nil⟩
  | .tup ds, _, _, .tup h ha, r, hp => by
    cases r
    obtain ⟨its, rv, ⟨o, ho, hc, n, hd⟩, _⟩ := I.tuple (seqT g h)
    obtain ⟨as, hr, hf⟩ := RpL.reads I g ds _ its ha rv hp
    exact ⟨_, .tuple ho hc hd hr, hf⟩
  | .lst ds, _, _, .lst h ha, r, hp => by
    cases r
    obtain ⟨its, rv, ⟨o, n, ho, hc, _, hd⟩, _⟩ := I.list (.of (g _ _ h))
    obtain ⟨as, hr, hf⟩ := RpL.reads I g ds _ its ha rv hp
    refine ⟨_, .list ho hc hd hr, fun b hb => ?_⟩
    rcases List.mem_cons.mp hb with e | hb
    · subst e
      rintro ⟨o', ho', hc'⟩
      rw [ho] at ho'
      cases ho'
      rw [hc] at hc'
      injection hc' with q
      exact absurd q (by decide)
    · exact hf b hb
  | .dct ds, _, _, .dct h ha, r, hp => by
    cases r
    obtain ⟨_, hm, vs, rel, o, es, ep, ho, hx, hd, _, hpr, _⟩ := (show ObjOk X.prog X.w H s.heap _ (.dK _) from I.hok _ _ (g _ _ h))
    obtain ⟨as, hk, hf, hv⟩ := pairs_keys (h := s.heap) hpr
    obtain ⟨rv, ek⟩ := kv_split rel
    have ek2 := ha.split.2
    obtain ⟨bs, hr, hg⟩ := RpK.reads I g ds _ _ ha rv hp
    have h1 : ReadsAll s.heap (es.toList.map (·.key)) ((pyK ds).map (·.1)) as := by
      rw [pyK_keys]
      have e : vs.map (fun p => kD p.1) = ds.map fun p => kD p.1 := by
        have := congrArg (List.map kD) (ek.symm.trans ek2)
        rw [List.map_map, List.map_map] at this
        exact this
      rw [← e]
      exact hk
    have h2 : ReadsAll s.heap (es.toList.map (·.val)) ((pyK ds).map (·.2)) bs := by rw [pyK_vals, hv]; exact hr
    refine ⟨_, .dict ho hx.1 hd h1 h2, fun b hb => ?_⟩
    rcases List.mem_append.mp hb with hb | hb
    · rcases List.mem_cons.mp hb with e | hb
      · subst e; exact fun _ => hm
      · exact hf b hb
    · exact hg b hb
  | .obj _ _, _, _, _, _, hp => by cases hp
  | .ref _, _, _, _, _, hp => by cases hp
  | .ty _, _, _, _, _, hp => by cases hp
  | .scr _, _, _, _, _, hp => by cases hp
theorem RpL.reads (I : Inv X pins σ H s) (g : Same G H) : ∀ (ds : List D) (vs : List V) (us : List Value), RpL X.K G vs ds → Vals vs us → plainL ds = true → ∃ as, ReadsAll s.heap us (pyL ds) as ∧ DictsOff s.heap as
  | [], _, _, .nil, .nil, _ => ⟨_, .nil, .nil⟩
  | d :: ds, _, _, .cons h1 h2, .cons r1 r2, hp => by
    have hp' : plain d = true ∧ plainL ds = true := by simpa [plainL] using hp
    obtain ⟨as, q1, f1⟩ := Rp.reads I g d _ _ h1 r1 hp'.1
    obtain ⟨bs, q2, f2⟩ := RpL.reads I g ds _ _ h2 r2 hp'.2
    exact ⟨_, .cons q1 q2, f1.app f2⟩
theorem RpK.reads (I : Inv X pins σ H s) (g : Same G H) : ∀ (ds : List (Key × D)) (vs : List (Key × V)) (us : List Value), RpK X.K G vs ds → Vals (vs.map (·.2)) us → plainK ds = true → ∃ as, ReadsAll s.heap us (pyL (ds.map (·.2))) as ∧ DictsOff s.heap as
  | [], _, _, .nil, .nil, _ => ⟨_, .nil, .nil⟩
  | (k, d) :: ds, _, _, .cons h1 h2, .cons r1 r2, hp => by
    have hp' : plain d = true ∧ plainK ds = true := by simpa [plainK] using hp
    obtain ⟨as, q1, f1⟩ := Rp.reads I g d _ _ h1 r1 hp'.1
    obtain ⟨bs, q2, f2⟩ := RpK.reads I g ds _ _ h2 r2 hp'.2
    exact ⟨_, .cons q1 q2, f1.app f2⟩
end
/-- the same of what is read now -/
theorem RdV.rp {K : PySem.W.Frag} {v : V} {d : D} (g : Same G H) (r : RdV K G H v d) : Rp K H v d := by
  rcases r with r | ⟨a, vs, ds, rfl, rfl, h, r⟩ | ⟨a, vs, ds, rfl, rfl, h, r⟩
  · exact r.mono g
  · exact .lst h (r.mono g)
  · exact .dct h (r.mono g)
end

/-! ### repr, where a dict's address alone matters -/
section
variable {prog : Program} {w : World} {h₀ : Heap}
mutual
theorem reprK : ∀ {v : Value} {d : PyData} {as : List Addr}, Reads h₀ v d as → d.showable = true → DictsOff h₀ as → d.shown.length ≤ sizeLine → ∃ bs, ReadAtMost h₀ d.depth bs ∧ ReprK prog w bs h₀ d.depth v d.shown
  | _, _, _, .none, _, _, _ => ⟨[], (fun _ h => nomatch h), by simp only [PyData.shown]; exact .of_is .none _ _ _⟩
  | _, _, _, .bool b, _, _, _ => ⟨[], (fun _ h => nomatch h), by simp only [PyData.shown]; exact .of_is (.bool b) _ _ _⟩
  | _, _, _, .int i t, hs, _, _ => ⟨[], (fun _ h => nomatch h), by simp only [PyData.shown]; exact .of_is (.int t (by simpa [PyData.showable] using hs)) _ _ _⟩
  | _, _, _, .str x t, _, _, hz => ⟨[], (fun _ h => nomatch h), by simp only [PyData.shown] at hz ⊢; exact .of_is (.str x t hz) _ _ _⟩
  | _, _, _, .list (a := a) (vs := vs) (xs := xs) h1 h2 h3 h4, hs, ho, hz => by
    have r : Reads h₀ (.ref a) (.list xs) _ := .list h1 h2 h3 h4
    simp only [PyData.shown] at hz
    obtain ⟨bs, hb, hk⟩ := reprAllK h4 (by simpa [PyData.showable] using hs) (fun b hb => ho b (List.mem_cons_of_mem _ hb)) fun t ht => Nat.le_trans (listText_mem_le ht) hz
    have hd : PyData.depthAll xs < (PyData.list xs).depth := by simp only [PyData.depth]; omega
    refine ⟨a :: bs, .cons r (Nat.le_of_lt hd) hb, ?_⟩
    simp only [PyData.depth, PyData.shown]
    obtain ⟨l⟩ := vs
    cases l with
    | nil =>
      have hx : ReadsAll h₀ [] xs _ := h4
      cases hx
      simp only [PyData.shownAll, listText_nil]
      exact .listEmpty h1 h2 h3
    | cons x l => exact .list h1 h2 h3 (not_mem_of_deeper r hd hb) (by simpa using hk.length_eq) fun i y e => hk.item i y (by simpa using e)
  | _, _, _, .tuple (a := a) (xs := xs) h1 h2 h3 h4, hs, ho, hz => by
    have r : Reads h₀ (.ref a) (.tuple xs) _ := .tuple h1 h2 h3 h4
    simp only [PyData.shown] at hz
    obtain ⟨bs, hb, hk⟩ := reprAllK h4 (by simpa [PyData.showable] using hs) ho fun t ht => Nat.le_trans (tupleText_mem_le ht) hz
    have hd : PyData.depthAll xs < (PyData.tuple xs).depth := by simp only [PyData.depth]; omega
    refine ⟨a :: bs, .cons r (Nat.le_of_lt hd) hb, ?_⟩
    simp only [PyData.depth, PyData.shown]
    exact .tuple h1 h2 h3 (not_mem_of_deeper r hd hb) hk
  | _, _, _, .dict (a := a) (es := es) (kvs := kvs) (as := a1) (bs := a2) h1 h2 h3 h4 h5, hs, ho, hz => by
    have r : Reads h₀ (.ref a) (.dict kvs) _ := .dict h1 h2 h3 h4 h5
    simp only [PyData.shown] at hz
    obtain ⟨s1, s2⟩ := PyData.showableKv_split kvs (by simpa [PyData.showable] using hs)
    obtain ⟨b1, m1, k1⟩ := reprAllK h4 s1 (fun b hb => ho b (List.mem_append_left _ (List.mem_cons_of_mem _ hb))) fun t ht => by
      obtain ⟨p, hp, hl⟩ := PyData.shownKv_key_le kvs t ht
      exact Nat.le_trans hl (Nat.le_trans (dictText_mem_le hp) hz)
    obtain ⟨b2, m2, k2⟩ := reprAllK h5 s2 (fun b hb => ho b (List.mem_append_right _ hb)) fun t ht => by
      obtain ⟨p, hp, hl⟩ := PyData.shownKv_val_le kvs t ht
      exact Nat.le_trans hl (Nat.le_trans (dictText_mem_le hp) hz)
    have hb : ReadAtMost h₀ (PyData.depthKv kvs) (b1 ++ b2) := .append (m1.mono (PyData.depthAll_keys_le kvs)) (m2.mono (PyData.depthAll_vals_le kvs))
    have hd : PyData.depthKv kvs < (PyData.dict kvs).depth := by simp only [PyData.depth]; omega
    refine ⟨a :: (b1 ++ b2), .cons r (Nat.le_of_lt hd) hb, ?_⟩
    simp only [PyData.depth, PyData.shown, PyData.shownKv_eq]
    refine .dict h1 h2 h3 (ho a (List.mem_append_left _ List.mem_cons_self) ⟨_, h1, h2⟩) (not_mem_of_deeper r hd hb) (.of_two es.toList _ _ ?_ ?_)
    · exact k1.more_le (fun b q => List.mem_append_left _ q) (PyData.depthAll_keys_le kvs)
    · exact k2.more_le (fun b q => List.mem_append_right _ q) (PyData.depthAll_vals_le kvs)
theorem reprAllK : ∀ {vs : List Value} {ds : List PyData} {as : List Addr}, ReadsAll h₀ vs ds as → PyData.showableAll ds = true → DictsOff h₀ as → (∀ t ∈ PyData.shownAll ds, t.length ≤ sizeLine) →
    ∃ bs, ReadAtMost h₀ (PyData.depthAll ds) bs ∧ ReprAllK prog w bs h₀ (PyData.depthAll ds) vs (PyData.shownAll ds)
  | _, _, _, .nil, _, _, _ => ⟨[], (fun _ h => nomatch h), by simp only [PyData.shownAll]; exact .nil⟩
  | _, _, _, .cons (d := d) (ds := ds) r rs, hs, ho, hz => by
    have hs' : d.showable = true ∧ PyData.showableAll ds = true := by simpa [PyData.showableAll] using hs
    simp only [PyData.shownAll] at hz ⊢
    obtain ⟨b1, m1, k1⟩ := reprK r hs'.1 (fun b hb => ho b (List.mem_append_left _ hb)) (hz _ List.mem_cons_self)
    obtain ⟨b2, m2, k2⟩ := reprAllK rs hs'.2 (fun b hb => ho b (List.mem_append_right _ hb)) fun t ht => hz t (List.mem_cons_of_mem _ ht)
    simp only [PyData.depthAll]
    refine ⟨b1 ++ b2, .append (m1.mono (Nat.le_max_left _ _)) (m2.mono (Nat.le_max_right _ _)), ?_⟩
    exact .cons ((k1.more fun b q => List.mem_append_left _ q).level_le (Nat.le_max_left _ _)) (k2.more_le (fun b q => List.mem_append_right _ q) (Nat.le_max_right _ _))
end
variable {A : Around} {E : Value → Shared → Prop} {s : Shared} {Q : Value → Shared → Prop}
/-- repr(v) of data -/
theorem repr_of {v : Value} {d : PyData} {as : List Addr} (r : Reads s.heap v d as) (hs : d.showable = true) (ho : DictsOff s.heap as) (hz : d.shown.length ≤ sizeLine) (hg : A.guards = some []) (hu : A.units + (d.depth + 2) < cLine)
    (hQ : ∀ h' u tk, (∀ b o, s.heap.get? b = some o → h'.get? b = some o) → Q (.str d.shown u) { s with heap := h', toks := tk }) : wpAny (model prog w) A (call (.builtin "repr") [v]) Q E s := by
  cases r with
  | none => simp only [PyData.shown] at hQ; exact PySem.P.repr_of_none (hQ s.heap _ _ fun _ _ e => e)
  | bool b => simp only [PyData.shown] at hQ; exact PySem.P.repr_of_bool (hQ s.heap _ _ fun _ _ e => e)
  | int i t => simp only [PyData.shown] at hQ; exact PySem.P.repr_of_int (by simpa [PyData.showable] using hs) (hQ s.heap _ _ fun _ _ e => e)
  | str x t => simp only [PyData.shown] at hQ hz; exact PySem.P.repr_of_str (hQ s.heap _ _ fun _ _ e => e) hz
  | list h1 h2 h3 h4 =>
    rename_i a o vs n xs bs₀
    have r : Reads s.heap (.ref a) (.list xs) _ := .list h1 h2 h3 h4
    simp only [PyData.shown] at hz hQ
    simp only [PyData.depth] at hu
    obtain ⟨bs, hb, hk⟩ := reprAllK (prog := prog) (w := w) h4 (by simpa [PyData.showable] using hs) (fun b hb => ho b (List.mem_cons_of_mem _ hb)) fun t ht => Nat.le_trans (listText_mem_le ht) hz
    have hd : PyData.depthAll xs < (PyData.list xs).depth := by simp only [PyData.depth]; omega
    refine call_repr_slot (by omega) ⟨o, h1, h2⟩ F.slot_list_repr.toG ?_
    obtain ⟨l⟩ := vs
    cases l with
    | nil =>
      have hx : ReadsAll s.heap [] xs _ := h4
      cases hx
      simp only [PyData.shownAll, listText_nil] at hQ
      exact call_list_repr_empty ⟨o, h1, h2⟩ h1 h3 ⟨_, _, rfl, hQ s.heap _ _ fun _ _ e => e⟩
    | cons x l =>
      exact call_list_reprK h1 h2 h3 (not_mem_of_deeper r hd hb) (by simpa using hk.length_eq) (fun i y e => hk.item i y (by simpa using e)) hg (fun b _ => Clear.nil b)
        (by show A.units + 1 + (PyData.depthAll xs + 1) < cLine; omega) (fun _ _ e => e) (fun h' u tk k => ⟨_, _, rfl, hQ h' u tk k⟩) hz
  | tuple h1 h2 h3 h4 =>
    rename_i a o vs n xs
    have r : Reads s.heap (.ref a) (.tuple xs) _ := .tuple h1 h2 h3 h4
    simp only [PyData.shown] at hz hQ
    simp only [PyData.depth] at hu
    obtain ⟨bs, hb, hk⟩ := reprAllK (prog := prog) (w := w) h4 (by simpa [PyData.showable] using hs) ho fun t ht => Nat.le_trans (tupleText_mem_le ht) hz
    have hd : PyData.depthAll xs < (PyData.tuple xs).depth := by simp only [PyData.depth]; omega
    refine call_repr_slot (by omega) ⟨o, h1, h2⟩ F.slot_tuple_repr ?_
    exact call_tuple_reprK h1 h2 h3 (not_mem_of_deeper r hd hb) hk hg (fun b _ => Clear.nil b) (by show A.units + 1 + (PyData.depthAll xs + 1) < cLine; omega) (fun _ _ e => e) (fun h' u tk k => ⟨_, _, rfl, hQ h' u tk k⟩) hz
  | dict h1 h2 h3 h4 h5 =>
    rename_i a o es n kvs a1 a2
    have r : Reads s.heap (.ref a) (.dict kvs) _ := .dict h1 h2 h3 h4 h5
    simp only [PyData.shown, PyData.shownKv_eq] at hQ
    simp only [PyData.shown] at hz
    simp only [PyData.depth] at hu
    obtain ⟨s1, s2⟩ := PyData.showableKv_split kvs (by simpa [PyData.showable] using hs)
    obtain ⟨b1, m1, k1⟩ := reprAllK (prog := prog) (w := w) h4 s1 (fun b hb => ho b (List.mem_append_left _ (List.mem_cons_of_mem _ hb))) fun t ht => by
      obtain ⟨p, hp, hl⟩ := PyData.shownKv_key_le kvs t ht
      exact Nat.le_trans hl (Nat.le_trans (dictText_mem_le hp) hz)
    obtain ⟨b2, m2, k2⟩ := reprAllK (prog := prog) (w := w) h5 s2 (fun b hb => ho b (List.mem_append_right _ hb)) fun t ht => by
      obtain ⟨p, hp, hl⟩ := PyData.shownKv_val_le kvs t ht
      exact Nat.le_trans hl (Nat.le_trans (dictText_mem_le hp) hz)
    have hb : ReadAtMost s.heap (PyData.depthKv kvs) (b1 ++ b2) := .append (m1.mono (PyData.depthAll_keys_le kvs)) (m2.mono (PyData.depthAll_vals_le kvs))
    have hd : PyData.depthKv kvs < (PyData.dict kvs).depth := by simp only [PyData.depth]; omega
    refine call_repr_slot (by omega) ⟨o, h1, h2⟩ F.slot_dict_repr ?_
    refine call_dict_reprK h1 h2 h3 (ho a (List.mem_append_left _ List.mem_cons_self) ⟨_, h1, h2⟩) (not_mem_of_deeper r hd hb) (.of_two es.toList _ _
      (k1.more_le (fun b q => List.mem_append_left _ q) (PyData.depthAll_keys_le kvs)) (k2.more_le (fun b q => List.mem_append_right _ q) (PyData.depthAll_vals_le kvs))) hg (fun b _ => Clear.nil b)
      (by show A.units + 1 + (PyData.depthKv kvs + 1) < cLine; omega) (fun _ _ e => e) (fun h' u tk k => ⟨_, _, rfl, hQ h' u tk k⟩) (by rw [← PyData.shownKv_eq]; exact hz)
end
/-- what may be told by repr -/
def ShowOk (d : D) : Prop := plain d = true ∧ (py d).showable = true ∧ (py d).shown.length ≤ sizeLine ∧ (py d).depth ≤ 50
def shown (d : D) : Str := (py d).shown
section
variable {X : Cx}
def rRepr (K : PySem.W.Frag) : List V → Hp → VK → Prop := fun vs H Q => ∃ v d, vs = [v] ∧ Rp K H v d ∧ ShowOk d ∧ Q (.str (shown d)) H
theorem call_repr (hg : X.A.guards = some []) (hu : X.A.units + 64 < cLine) : CallR X (.builtin "repr") (rRepr X.K) := by
  intro pins s σ H vs us Q I r h
  obtain ⟨v, d, rfl, rp, ⟨h1, h2, h3, h4⟩, q⟩ := h
  obtain ⟨u, rfl, ru⟩ := vals1 r
  obtain ⟨as, rd, ho⟩ := rp.reads I (.refl _) d v u ru h1
  exact repr_of rd h2 ho h3 hg (by omega) fun h' t tk k => ⟨.str (shown d), H, I.kept k, ⟨t, rfl⟩, q⟩
def gRepr : DOpL := fun xs P => ∃ d, xs = [d] ∧ ShowOk d ∧ P (.dat (.str (shown d)))
theorem c_repr (K : PySem.W.Frag) : CL K (rRepr K) gRepr := by
  intro B G ω ρ σ H vs xs P Q e r g k
  obtain ⟨d, rfl, hs, p⟩ := g
  obtain ⟨v, rfl, rv⟩ := r.one
  exact ⟨v, d, rfl, rv.rp e.gle, hs, k _ _ _ _ (.refl _) (e.dat (.str _)) p⟩
end
end TL

/-! TL3: operators, comparisons, built-in functions, subscripts, slices over trees. -/
namespace TL
open PySem PySem.Spec PyProof.Rows L2

theorem OpR_or {X : Cx} {f : Value → Value → Sem Value} {r r' : R2} (h : OpR X f r) (h' : OpR X f r') : OpR X f (fun x y H Q => r x y H Q ∨ r' x y H Q) := by
  intro pins s σ H x y v u Q I rx ry q
  rcases q with q | q
  · exact h pins s σ H x y v u Q I rx ry q
  · exact h' pins s σ H x y v u Q I rx ry q

/-! ### flat values -/
def fv : D → Option V
  | .non => some .non
  | .bl b => some (.bl b)
  | .int i => some (.int i)
  | .str x => some (.str x)
  | _ => none
def fvs : List D → Option (List V)
  | [] => some []
  | d :: ds => match fv d, fvs ds with | some v, some vs => some (v :: vs) | _, _ => none
section
variable {K : PySem.W.Frag} {G H : Hp} {v : V} {d : D}
theorem RdV.flat {w : V} (r : RdV K G H v d) (h : fv d = some w) : v = w ∧ flatV v = true := by
  cases d with
  | non => cases h; exact ⟨r.non, by rw [r.non]; rfl⟩
  | bl b => cases h; exact ⟨r.bl, by rw [r.bl]; rfl⟩
  | int b => cases h; exact ⟨r.int, by rw [r.int]; rfl⟩
  | str b => cases h; exact ⟨r.str, by rw [r.str]; rfl⟩
  | _ => cases h
theorem Rp.rd (r : Rp K G v d) : RdV K G H v d := .inl r
theorem RpL.flat : ∀ {vs : List V} {ds : List D} {ws : List V}, RpL K G vs ds → fvs ds = some ws → vs = ws ∧ vs.all flatV = true
  | _, _, _, .nil, h => by cases h; exact ⟨rfl, rfl⟩
  | v :: vs, d :: ds, ws, .cons r t, h => by
    unfold fvs at h
    cases h1 : fv d with
    | none => rw [h1] at h; cases h
    | some w =>
      cases h2 : fvs ds with
      | none => rw [h1, h2] at h; cases h
      | some ws' =>
        rw [h1, h2] at h
        cases h
        obtain ⟨e1, f1⟩ := (Rp.rd (H := G) r).flat h1
        obtain ⟨e2, f2⟩ := t.flat h2
        exact ⟨by rw [e1, e2], by rw [List.all_cons, f1, f2]; rfl⟩
theorem fvs_ints : ∀ ns : List Int, fvs (ns.map D.int) = some (ns.map V.int)
  | [] => rfl
  | n :: ns => by simp [fvs, fv, fvs_ints ns]
theorem fvs_strs : ∀ ns : List Str, fvs (ns.map D.str) = some (ns.map V.str)
  | [] => rfl
  | n :: ns => by simp [fvs, fv, fvs_strs ns]
theorem fvs_bls : ∀ ns : List Bool, fvs (ns.map D.bl) = some (ns.map V.bl)
  | [] => rfl
  | n :: ns => by simp [fvs, fv, fvs_bls ns]
theorem fvs_len : ∀ {ds : List D} {vs : List V}, fvs ds = some vs → vs.length = ds.length
  | [], _, h => by cases h; rfl
  | d :: ds, vs, h => by
    unfold fvs at h
    cases h1 : fv d with
    | none => rw [h1] at h; cases h
    | some w =>
      cases h2 : fvs ds with
      | none => rw [h1, h2] at h; cases h
      | some ws' => rw [h1, h2] at h; cases h; simp [fvs_len h2]
theorem RpL.ints_eq {vs : List V} {ns : List Int} (r : RpL K G vs (ns.map D.int)) : vs = ns.map V.int := (r.flat (fvs_ints ns)).1
theorem RpL.strs_eq {vs : List V} {ns : List Str} (r : RpL K G vs (ns.map D.str)) : vs = ns.map V.str := (r.flat (fvs_strs ns)).1
theorem RpL.bls_eq {vs : List V} {ns : List Bool} (r : RpL K G vs (ns.map D.bl)) : vs = ns.map V.bl := (r.flat (fvs_bls ns)).1
end

/-! ### + - * // % ** and the sign -/
def gAdd : DOp2 := fun x y P => match x, y with
  | .int i, .int j => P (.dat (.int (i + j)))
  | .str a, .str b => a.length + b.length ≤ sizeLine ∧ P (.dat (.str (a ++ b)))
  | .lst xs, .lst ys => xs.length + ys.length ≤ sizeLine ∧ P (.nw (.ls (xs ++ ys)))
  | .tup xs, .tup ys => xs.length + ys.length ≤ sizeLine ∧ P (.dat (.tup (xs ++ ys)))
  | _, _ => False
def rAdd4 (K : PySem.W.Frag) : R2 := fun x y H Q => (rI0 fun i j => .int (i + j)) x y H Q ∨ (∃ i j, x = .str i ∧ y = .str j ∧ i.length + j.length ≤ sizeLine ∧ Q (.str (i ++ j)) H) ∨ rCat x y H Q ∨ rCatA K x y H Q
theorem op_add4 {X : Cx} : OpR X (binaryOp .Add) (rAdd4 X.K) := OpR_or op_add (OpR_or op_add_str (OpR_or op_cat op_catA))
theorem c_add (K : PySem.W.Frag) : C2 K (rAdd4 K) gAdd := by
  intro B G ω ρ σ H v w x y P Q e rx ry g k
  cases x with
  | int i =>
    cases y with
    | int j => rw [rx.int, ry.int]; exact .inl ⟨i, j, rfl, rfl, k _ _ _ _ (.refl _) (e.dat (.int _)) g⟩
    | _ => exact g.elim
  | str a =>
    cases y with
    | str b => rw [rx.str, ry.str]; exact .inr (.inl ⟨a, b, rfl, rfl, g.1, k _ _ _ _ (.refl _) (e.dat (.str _)) g.2⟩)
    | _ => exact g.elim
  | lst xs =>
    cases y with
    | lst ys =>
      obtain ⟨a, vs, rfl, h1, r1⟩ := rx.lst e.gle
      obtain ⟨b, ws, rfl, h2, r2⟩ := ry.lst e.gle
      exact .inr (.inr (.inl ⟨a, b, vs, ws, rfl, rfl, h1, h2, by rw [r1.length, r2.length]; exact g.1, fun p hp => k _ _ _ _ (.refl _) (e.newL hp (r1.append r2)) g.2⟩))
    | _ => exact g.elim
  | tup xs =>
    cases y with
    | tup ys =>
      obtain ⟨a, vs, rfl, h1, r1⟩ := rx.tup
      obtain ⟨b, ws, rfl, h2, r2⟩ := ry.tup
      refine .inr (.inr (.inr ⟨a, b, vs, ws, rfl, rfl, seqT e.gle h1, seqT e.gle h2, by rw [r1.length, r2.length]; exact g.1, fun hx => ?_, fun _ hy => ?_, fun _ _ p hp => ?_⟩))
      · subst hx
        cases r1
        exact k _ _ _ _ (.refl _) (e.dat (.tup h2 r2)) g.2
      · subst hy
        cases r2
        exact k _ _ (.dat (.tup (xs ++ []))) _ (.refl _) (e.dat (by rw [List.append_nil]; exact .tup h1 r1)) g.2
      · obtain ⟨sg, f⟩ := e.newT hp (r1.append r2)
        exact k _ _ _ _ sg f g.2
    | _ => exact g.elim
  | _ => cases y <;> exact g.elim
/-- two ints, under C -/
def gI2 (C : Int → Int → Prop) (f : Int → Int → D) : DOp2 := fun x y P => match x, y with
  | .int i, .int j => C i j ∧ P (.dat (f i j))
  | _, _ => False
theorem c_I (K : PySem.W.Frag) {C : Int → Int → Prop} {f : Int → Int → Int} : C2 K (rI C fun i j => .int (f i j)) (gI2 C fun i j => .int (f i j)) := by
  intro B G ω ρ σ H v w x y P Q e rx ry g k
  cases x with
  | int i =>
    cases y with
    | int j => rw [rx.int, ry.int]; exact ⟨i, j, rfl, rfl, g.1, k _ _ _ _ (.refl _) (e.dat (.int _)) g.2⟩
    | _ => exact g.elim
  | _ => cases y <;> exact g.elim
theorem c_I0 (K : PySem.W.Frag) {f : Int → Int → Int} : C2 K (rI0 fun i j => .int (f i j)) (gI2 (fun _ _ => True) fun i j => .int (f i j)) := by
  intro B G ω ρ σ H v w x y P Q e rx ry g k
  cases x with
  | int i =>
    cases y with
    | int j => rw [rx.int, ry.int]; exact ⟨i, j, rfl, rfl, k _ _ _ _ (.refl _) (e.dat (.int _)) g.2⟩
    | _ => exact g.elim
  | _ => cases y <;> exact g.elim
def gSub : DOp2 := gI2 (fun _ _ => True) fun i j => .int (i - j)
theorem c_sub (K : PySem.W.Frag) : C2 K (rI0 fun i j => .int (i - j)) gSub := c_I0 K
def gDiv : DOp2 := gI2 CDiv fun i j => .int (i / j)
theorem c_div (K : PySem.W.Frag) : C2 K (rI CDiv fun i j => .int (i / j)) gDiv := c_I K
def gMod : DOp2 := gI2 (fun _ j => 0 < j) fun i j => .int (i % j)
theorem c_mod (K : PySem.W.Frag) : C2 K (rI (fun _ j => 0 < j) fun i j => .int (i % j)) gMod := c_I K
def gPow : DOp2 := gI2 CPow fun i j => .int (i ^ j.toNat)
theorem c_pow (K : PySem.W.Frag) : C2 K (rI CPow fun i j => .int (i ^ j.toNat)) gPow := c_I K
def gMul : DOp2 := fun x y P => match x, y with
  | .int i, .int j => CMul i j ∧ P (.dat (.int (i * j)))
  | .lst xs, .int k => -(2 ^ 63) ≤ k ∧ k < 2 ^ 63 ∧ xs.length * k.toNat ≤ sizeLine ∧ P (.nw (.ls (List.replicate k.toNat xs).flatten))
  | _, _ => False
def rMul2 : R2 := fun x y H Q => (rI CMul fun i j => .int (i * j)) x y H Q ∨ rRep x y H Q
theorem op_mul2 {X : Cx} : OpR X (binaryOp .Mult) rMul2 := OpR_or op_mul op_rep
theorem c_mul (K : PySem.W.Frag) : C2 K rMul2 gMul := by
  intro B G ω ρ σ H v w x y P Q e rx ry g k
  cases x with
  | int i =>
    cases y with
    | int j => rw [rx.int, ry.int]; exact .inl ⟨i, j, rfl, rfl, g.1, k _ _ _ _ (.refl _) (e.dat (.int _)) g.2⟩
    | _ => exact g.elim
  | lst xs =>
    cases y with
    | int j =>
      obtain ⟨a, vs, rfl, h1, r1⟩ := rx.lst e.gle
      rw [ry.int]
      exact .inr ⟨a, j, vs, rfl, rfl, h1, g.1, g.2.1, by rw [r1.length]; exact g.2.2.1, fun p hp => k _ _ _ _ (.refl _) (e.newL hp (r1.rep _)) g.2.2.2⟩
    | _ => exact g.elim
  | _ => cases y <;> exact g.elim
def gNeg : DOp1 := fun x P => match x with
  | .int i => P (.dat (.int (-i)))
  | _ => False
theorem c_neg (K : PySem.W.Frag) : C1 K (rU fun i => .int (-i)) gNeg := by
  intro B G ω ρ σ H v x P Q e rx g k
  cases x with
  | int i => rw [rx.int]; exact ⟨i, rfl, k _ _ _ _ (.refl _) (e.dat (.int _)) g⟩
  | _ => exact g.elim

/-! ### comparisons -/
def shD (d : D) : Bool := plain d && SeqAt.shaped (py d)
def eqD (x y : D) : Bool := PyData.eqv (py x) (py y)
theorem Rp.dp {K : PySem.W.Frag} {H : Hp} : ∀ {v : V} {d : D}, Rp K H v d → shD d = true → Dp K H v (py d) := by
  have main : ∀ (n : Nat), (∀ (d : D) (v : V), sizeOf d ≤ n → Rp K H v d → plain d = true → PyData.canLay0 (py d) = true → Dp K H v (py d)) ∧
      ∀ (ds : List D) (vs : List V), sizeOf ds ≤ n → RpL K H vs ds → plainL ds = true → PyData.canLayAll0 (pyL ds) = true → DpAll K H vs (pyL ds) := by
    intro n
    induction n with
    | zero =>
      refine ⟨fun d v hz => ?_, fun ds vs hz => ?_⟩
      · cases d <;> simp at hz
      · cases ds <;> simp at hz
    | succ n ih =>
      refine ⟨fun d v hz r hp hc => ?_, fun ds vs hz r hp hc => ?_⟩
      · cases r with
        | non => exact .non
        | bl b => exact .bl b
        | int i => exact .int i
        | str x => exact .str x
        | tup h t => exact .tup h (ih.2 _ _ (by simp at hz; omega) t hp (by simpa [py, PyData.canLay0] using hc))
        | lst h t => exact .lst (.of h) (ih.2 _ _ (by simp at hz; omega) t hp (by simpa [py, PyData.canLay0] using hc))
        | dct h t => simp [py, PyData.canLay0] at hc
        | obj h h' t => cases hp
        | ref a => cases hp
        | ty n => cases hp
        | scr h => cases hp
      · cases r with
        | nil => exact .nil
        | @cons v1 vs1 d1 ds1 h t =>
          have hp' : plain d1 = true ∧ plainL ds1 = true := by simpa [plainL] using hp
          have hc' : PyData.canLay0 (py d1) = true ∧ PyData.canLayAll0 (pyL ds1) = true := by simpa [pyL, PyData.canLayAll0] using hc
          exact .cons (ih.1 _ _ (by simp at hz; omega) h hp'.1 hc'.1) (ih.2 _ _ (by simp at hz; omega) t hp'.2 hc'.2)
  intro v d r h
  unfold shD SeqAt.shaped at h
  simp only [Bool.and_eq_true] at h
  exact (main (sizeOf d)).1 d v (Nat.le_refl _) r h.1 h.2.1
/-- == against () and [] -/
def rEqE (K : PySem.W.Frag) (neg : Bool) : R2 := fun x y H Q => ∃ a b, x = .ref a ∧ y = .ref b ∧ ((∃ xs, SqT K H a xs ∧ SqT K H b [] ∧ Q (.bl (neg ^^ xs.isEmpty)) H) ∨ ∃ xs, SqL K H a xs ∧ SqL K H b [] ∧ Q (.bl (neg ^^ xs.isEmpty)) H)
theorem empty_size {xs : List V} {its : List Value} (r : Vals xs its) : (its.toArray.size == 0) = xs.isEmpty := by
  cases r with
  | nil => rfl
  | cons _ _ => simp
theorem op_eqE {X : Cx} (hu : X.A.units < cLine) : OpR X (compareOp .Eq) (rEqE X.K false) := by
  intro pins s σ H x y v u Q I rx ry h
  obtain ⟨a, b, rfl, rfl, h⟩ := h
  cases rx
  cases ry
  rcases h with ⟨xs, h1, h2, q⟩ | ⟨xs, h1, h2, q⟩
  · obtain ⟨its, r1, p1, _⟩ := I.tuple h1
    obtain ⟨its2, r2, p2, _⟩ := I.tuple h2
    cases r2
    refine SeqAt.eq_tupleAt (e := fun _ => true) p1 p2 hu (fun j _ h2 => absurd h2 (by simp)) ⟨.bl _, H, I, ?_, q⟩
    have e := empty_size r1
    show Value.bool _ = Value.bool _
    rw [Bool.false_xor, ← e]
    simp
  · obtain ⟨its, r1, p1, _⟩ := I.list h1
    obtain ⟨its2, r2, p2, _⟩ := I.list h2
    cases r2
    have e := empty_size r1
    by_cases hz : its.toArray.size = 0
    · refine SeqAt.eq_listAt (e := fun _ => true) p1.isList p2.isList (by simpa using hz) hu (fun j _ h2 => absurd h2 (by simp)) ⟨.bl _, H, I, ?_, q⟩
      show Value.bool _ = Value.bool _
      rw [Bool.false_xor, ← e, hz]
      rfl
    · refine SeqAt.eq_list_lengthsAt p1.isList p2.isList (by simpa using hz) hu ⟨.bl _, H, I, ?_, q⟩
      show Value.bool _ = Value.bool _
      rw [Bool.false_xor, ← e]
      congr 1
      exact (beq_eq_false_iff_ne.mpr hz).symm
theorem op_neE {X : Cx} (hu : X.A.units < cLine) : OpR X (compareOp .NotEq) (rEqE X.K true) := by
  intro pins s σ H x y v u Q I rx ry h
  obtain ⟨a, b, rfl, rfl, h⟩ := h
  cases rx
  cases ry
  rcases h with ⟨xs, h1, h2, q⟩ | ⟨xs, h1, h2, q⟩
  · obtain ⟨its, r1, p1, _⟩ := I.tuple h1
    obtain ⟨its2, r2, p2, _⟩ := I.tuple h2
    cases r2
    refine SeqAt.RcNeAt.tuples (e := fun _ => true) p1 p2 hu (fun j _ h2 => absurd h2 (by simp)) _ _ _ _ ⟨.bl _, H, I, ?_, q⟩
    have e := empty_size r1
    show Value.bool _ = Value.bool _
    rw [Bool.true_xor, ← e]
    simp
  · obtain ⟨its, r1, p1, _⟩ := I.list h1
    obtain ⟨its2, r2, p2, _⟩ := I.list h2
    cases r2
    have e := empty_size r1
    by_cases hz : its.toArray.size = 0
    · refine SeqAt.RcNeAt.lists (e := fun _ => true) p1.isList p2.isList (by simpa using hz) hu (fun j _ h2 => absurd h2 (by simp)) _ _ _ _ ⟨.bl _, H, I, ?_, q⟩
      show Value.bool _ = Value.bool _
      rw [Bool.true_xor, ← e, hz]
      rfl
    · refine SeqAt.RcNeAt.lists_lengths p1.isList p2.isList (by simpa using hz) hu _ _ _ _ ⟨.bl _, H, I, ?_, q⟩
      show Value.bool _ = Value.bool _
      rw [Bool.true_xor, ← e]
      congr 1
      rw [beq_eq_false_iff_ne.mpr hz]
      rfl
/-- a dict, a list against a tuple -/
def rEqDT (K : PySem.W.Frag) : R2 := fun x y H Q => ∃ a b xs, x = .ref a ∧ y = .ref b ∧ ((∃ kvs, H a = some (.dK kvs)) ∨ ∃ zs, SqL K H a zs) ∧ SqT K H b xs ∧ Q (.bl false) H
theorem tuple_eq_no_dict (l b : Addr) (items : Array Value) (n : Nat) (d1 d2 : Option Addr) (s1 s2 : Array (Option Value)) (es : Array DictEntry) (ep : Nat) :
    Meets (Builtin.«tuple.__eq__» ⟨[.ref l, .ref b], []⟩) (fun _ R s => s.heap.get? l = some { cls := .type "tuple", dict := d1, data := .seq items n, slots := s1 } ∧ s.heap.get? b = some { cls := .type "dict", dict := d2, data := .dict es ep, slots := s2 } ∧ R (.ok (.ret .notImplemented)) s) :=
  .of_wp fun P0 w0 A0 R0 st0 hh => by
    obtain ⟨h1, h2, h3, h4, h5⟩ := st0
    obtain ⟨hl, hb, h⟩ := hh
    have f1 := F.sub_dict_tuple
    wp_walk using wpAny_loadPart' hl, wpAny_loadPart' hb
    exact ⟨_, rfl, h⟩
theorem op_eqDT {X : Cx} (hu : X.A.units < cLine) : OpR X (compareOp .Eq) (rEqDT X.K) := by
  intro pins s σ H x y v u Q I rx ry h
  obtain ⟨a, b, xs, rfl, rfl, h1, h2, q⟩ := h
  cases rx
  cases ry
  obtain ⟨its, r, pl, _⟩ := I.tuple h2
  rcases h1 with ⟨kvs, h1⟩ | ⟨zs, h1⟩
  case inr =>
    obtain ⟨its1, r1, p1, _⟩ := I.list h1
    exact SeqAt.RcAt.list_tuple p1.isList pl hu _ _ _ _ ⟨.bl false, H, I, rfl, q⟩
  obtain ⟨⟨cls, dd, data, sl⟩, ho, hc, n, hd⟩ := id pl
  simp only at hc hd
  subst hc hd
  obtain ⟨z, hsm, vs, rel, D⟩ := dk_rd I.hok (.inl h1)
  obtain ⟨ob, es, ep, g1, g2, g3, _⟩ := id D
  obtain ⟨ocls, odict, odata, osl⟩ := ob
  simp only [Obj.ExactDict] at g2
  obtain ⟨e1, e2, e3⟩ := g2
  simp only at e1 e2 e3 g3
  subst e1
  subst g3
  have hne : a ≠ b := fun z => by
    subst z
    rw [ho] at g1
    simp at g1
  refine SeqAt.rc_eq_decline_or (k := false) D.typeIs ⟨_, ho, rfl⟩ (by decide) F.sub_tuple_dict F.slot_dict_eq F.slot_tuple_eq_refl (fun Q0 hq => ?_)
    (fun _ hq => call_meets F.slot_tuple_eq_refl ⟨_, ho, rfl⟩ F.entry_tuple_eq (F.args_tuple_eq_2 _ _) (tuple_eq_no_dict b a _ n dd _ sl _ _ _) ⟨ho, g1, hq⟩)
    (fun _ hq => wpAny_isSame_ref_other hne g1 ho (by simp) hq) (.inr hu) ⟨.bl false, H, I, rfl, q⟩
  refine wpAny_call_entry PySem.F.slot_dict_eq D.typeIs PySem.F.entry_dict_eq ?_ (PySem.F.args_dict_eq_2 _ _)
  show wpAny _ _ (Builtin.Dict.dictSlotArgs "__eq__" ⟨[.ref a, .ref b], []⟩ >>= _) _ _ s
  refine wpAny_bind ?_
  unfold Builtin.Dict.dictSlotArgs
  refine wpAny_bind (wpAny_notOrdered_dict D.typeIs ?_)
  refine wpAny_pure ?_
  refine wpAny_bind (wpAny_isInstance (v := .ref b) (T := "tuple") (U := "dict") ⟨_, ho, rfl⟩ F.sub_tuple_dict ?_)
  simp only [Bool.not_false, if_true]
  refine wpAny_bind (wpAny_rule ?_)
  exact wpAny_pure ⟨_, rfl, hq⟩
/-- ==, != : scalars, against () and [], data without dicts -/
def gEq (neg : Bool) : DOp2 := fun x y P => match fv x, fv y with
  | some a, some b => (match scal a b with
    | true => P (.dat (.bl (neg ^^ decide (a = b))))
    | false => shD x = true ∧ shD y = true ∧ P (.dat (.bl (neg ^^ eqD x y))))
  | _, _ => match x, y with
    | .tup xs, .tup [] => P (.dat (.bl (neg ^^ xs.isEmpty)))
    | .lst xs, .lst [] => P (.dat (.bl (neg ^^ xs.isEmpty)))
    | .dct _, .tup _ => neg = false ∧ P (.dat (.bl false))
    | .lst _, .tup _ => neg = false ∧ P (.dat (.bl false))
    | _, _ => shD x = true ∧ shD y = true ∧ P (.dat (.bl (neg ^^ eqD x y)))
def rEq3 (K : PySem.W.Frag) : R2 := fun x y H Q => rEq x y H Q ∨ rEqE K false x y H Q ∨ rEqDT K x y H Q ∨ rEqD K x y H Q
def rNe3 (K : PySem.W.Frag) : R2 := fun x y H Q => rNe x y H Q ∨ rEqE K true x y H Q ∨ rNeD K x y H Q
theorem op_eq3 {X : Cx} (hu : X.A.units + 64 < cLine) : OpR X (compareOp .Eq) (rEq3 X.K) := OpR_or op_eq (OpR_or (op_eqE (by omega)) (OpR_or (op_eqDT (by omega)) (op_eqD hu)))
theorem op_ne3 {X : Cx} (hu : X.A.units + 64 < cLine) : OpR X (compareOp .NotEq) (rNe3 X.K) := OpR_or op_ne (OpR_or (op_neE (by omega)) (op_neD hu))
theorem eq_cases {neg : Bool} {x y : D} {P : Rs → Prop} (g : gEq neg x y P) : (∃ a b, fv x = some a ∧ fv y = some b ∧ scal a b = true ∧ P (.dat (.bl (neg ^^ decide (a = b))))) ∨
    (∃ xs, x = .tup xs ∧ y = .tup [] ∧ P (.dat (.bl (neg ^^ xs.isEmpty)))) ∨ (∃ xs, x = .lst xs ∧ y = .lst [] ∧ P (.dat (.bl (neg ^^ xs.isEmpty)))) ∨ (∃ xs, ((∃ kvs, x = .dct kvs) ∨ ∃ zs, x = .lst zs) ∧ y = .tup xs ∧ neg = false ∧ P (.dat (.bl false))) ∨ (shD x = true ∧ shD y = true ∧ P (.dat (.bl (neg ^^ eqD x y)))) := by
  unfold gEq at g
  split at g
  · rename_i a b ea eb
    split at g
    · rename_i hs
      exact .inl ⟨a, b, ea, eb, hs, g⟩
    · exact .inr (.inr (.inr (.inr g)))
  · split at g
    · exact .inr (.inl ⟨_, rfl, rfl, g⟩)
    · exact .inr (.inr (.inl ⟨_, rfl, rfl, g⟩))
    · exact .inr (.inr (.inr (.inl ⟨_, .inl ⟨_, rfl⟩, rfl, g⟩)))
    · exact .inr (.inr (.inr (.inl ⟨_, .inr ⟨_, rfl⟩, rfl, g⟩)))
    · exact .inr (.inr (.inr (.inr g)))
theorem RpL.isE {K : PySem.W.Frag} {G : Hp} {vs : List V} {ds : List D} (r : RpL K G vs ds) : vs.isEmpty = ds.isEmpty := by cases r <;> rfl
theorem c_eq (K : PySem.W.Frag) : C2 K (rEq3 K) (gEq false) := by
  intro B G ω ρ σ H v w x y P Q e rx ry g k
  rcases eq_cases g with ⟨a, b, ea, eb, hs, p⟩ | ⟨xs, rfl, rfl, p⟩ | ⟨xs, rfl, rfl, p⟩ | ⟨xs, hx, rfl, hn, p⟩ | ⟨h1, h2, p⟩
  · obtain ⟨rfl, _⟩ := rx.flat ea
    obtain ⟨rfl, _⟩ := ry.flat eb
    exact .inl ⟨hs, k _ _ _ _ (.refl _) (e.dat (.bl _)) (by rw [Bool.false_xor] at p; exact p)⟩
  · obtain ⟨a, vs, rfl, t1, r1⟩ := rx.tup
    obtain ⟨b, ws, rfl, t2, r2⟩ := ry.tup
    cases r2
    exact .inr (.inl ⟨a, b, rfl, rfl, .inl ⟨vs, seqT e.gle t1, seqT e.gle t2, k _ _ _ _ (.refl _) (e.dat (.bl _)) (by rw [r1.isE]; exact p)⟩⟩)
  · obtain ⟨a, vs, rfl, t1, r1⟩ := rx.lst e.gle
    obtain ⟨b, ws, rfl, t2, r2⟩ := ry.lst e.gle
    cases r2
    exact .inr (.inl ⟨a, b, rfl, rfl, .inr ⟨vs, .of t1, .of t2, k _ _ _ _ (.refl _) (e.dat (.bl _)) (by rw [r1.isE]; exact p)⟩⟩)
  · obtain ⟨b, ws, rfl, t2, r2⟩ := ry.tup
    rcases hx with ⟨kvs, rfl⟩ | ⟨zs, rfl⟩
    · obtain ⟨a, vs, rfl, t1, r1⟩ := rx.dct e.gle
      exact .inr (.inr (.inl ⟨a, b, ws, rfl, rfl, .inl ⟨_, t1⟩, seqT e.gle t2, k _ _ _ _ (.refl _) (e.dat (.bl _)) p⟩))
    · obtain ⟨a, vs, rfl, t1, r1⟩ := rx.lst e.gle
      exact .inr (.inr (.inl ⟨a, b, ws, rfl, rfl, .inr ⟨_, .of t1⟩, seqT e.gle t2, k _ _ _ _ (.refl _) (e.dat (.bl _)) p⟩))
  · refine .inr (.inr (.inr ⟨py x, py y, (rx.rp e.gle).dp h1, (ry.rp e.gle).dp h2, ?_, ?_, k _ _ _ _ (.refl _) (e.dat (.bl _)) (by rw [Bool.false_xor] at p; exact p)⟩))
    · unfold shD at h1; simp only [Bool.and_eq_true] at h1; exact h1.2
    · unfold shD at h2; simp only [Bool.and_eq_true] at h2; exact h2.2
theorem c_ne (K : PySem.W.Frag) : C2 K (rNe3 K) (gEq true) := by
  intro B G ω ρ σ H v w x y P Q e rx ry g k
  rcases eq_cases g with ⟨a, b, ea, eb, hs, p⟩ | ⟨xs, rfl, rfl, p⟩ | ⟨xs, rfl, rfl, p⟩ | ⟨xs, hx, rfl, hn, p⟩ | ⟨h1, h2, p⟩
  · obtain ⟨rfl, _⟩ := rx.flat ea
    obtain ⟨rfl, _⟩ := ry.flat eb
    exact .inl ⟨hs, k _ _ _ _ (.refl _) (e.dat (.bl _)) (by rw [Bool.true_xor] at p; exact p)⟩
  · obtain ⟨a, vs, rfl, t1, r1⟩ := rx.tup
    obtain ⟨b, ws, rfl, t2, r2⟩ := ry.tup
    cases r2
    exact .inr (.inl ⟨a, b, rfl, rfl, .inl ⟨vs, seqT e.gle t1, seqT e.gle t2, k _ _ _ _ (.refl _) (e.dat (.bl _)) (by rw [r1.isE]; exact p)⟩⟩)
  · obtain ⟨a, vs, rfl, t1, r1⟩ := rx.lst e.gle
    obtain ⟨b, ws, rfl, t2, r2⟩ := ry.lst e.gle
    cases r2
    exact .inr (.inl ⟨a, b, rfl, rfl, .inr ⟨vs, .of t1, .of t2, k _ _ _ _ (.refl _) (e.dat (.bl _)) (by rw [r1.isE]; exact p)⟩⟩)
  · cases hn
  · refine .inr (.inr ⟨py x, py y, (rx.rp e.gle).dp h1, (ry.rp e.gle).dp h2, ?_, ?_, k _ _ _ _ (.refl _) (e.dat (.bl _)) (by rw [Bool.true_xor] at p; exact p)⟩)
    · unfold shD at h1; simp only [Bool.and_eq_true] at h1; exact h1.2
    · unfold shD at h2; simp only [Bool.and_eq_true] at h2; exact h2.2
/-- < <= > >= of ints, of texts -/
def gOrd (f : Int → Int → Bool) (fs : Str → Str → Bool) : DOp2 := fun x y P => match x, y with
  | .int i, .int j => P (.dat (.bl (f i j)))
  | .str a, .str b => P (.dat (.bl (fs a b)))
  | _, _ => False
def rOrd (f : Int → Int → Bool) (fs : Str → Str → Bool) : R2 := fun x y H Q => (rI0 fun i j => .bl (f i j)) x y H Q ∨ ∃ i j, x = .str i ∧ y = .str j ∧ Q (.bl (fs i j)) H
theorem c_ord (K : PySem.W.Frag) {f : Int → Int → Bool} {fs : Str → Str → Bool} : C2 K (rOrd f fs) (gOrd f fs) := by
  intro B G ω ρ σ H v w x y P Q e rx ry g k
  cases x with
  | int i =>
    cases y with
    | int j => rw [rx.int, ry.int]; exact .inl ⟨i, j, rfl, rfl, k _ _ _ _ (.refl _) (e.dat (.bl _)) g⟩
    | _ => exact g.elim
  | str i =>
    cases y with
    | str j => rw [rx.str, ry.str]; exact .inr ⟨i, j, rfl, rfl, k _ _ _ _ (.refl _) (e.dat (.bl _)) g⟩
    | _ => exact g.elim
  | _ => cases y <;> exact g.elim
def gLt : DOp2 := gOrd (fun i j => decide (i < j)) fun i j => decide (i.cps.toList < j.cps.toList)
def gLe : DOp2 := gOrd (fun i j => decide (i ≤ j)) fun i j => !decide (j.cps.toList < i.cps.toList)
def gGt : DOp2 := gOrd (fun i j => decide (j < i)) fun i j => decide (j.cps.toList < i.cps.toList)
def gGe : DOp2 := gOrd (fun i j => decide (j ≤ i)) fun i j => !decide (i.cps.toList < j.cps.toList)
theorem op_lt2 {X : Cx} : OpR X (compareOp .Lt) (rOrd (fun i j => decide (i < j)) fun i j => decide (i.cps.toList < j.cps.toList)) := OpR_or op_lt op_lt_str
theorem op_le2 {X : Cx} : OpR X (compareOp .LtE) (rOrd (fun i j => decide (i ≤ j)) fun i j => !decide (j.cps.toList < i.cps.toList)) := OpR_or op_le op_le_str
theorem op_gt2 {X : Cx} : OpR X (compareOp .Gt) (rOrd (fun i j => decide (j < i)) fun i j => decide (j.cps.toList < i.cps.toList)) := OpR_or op_gt op_gt_str
theorem op_ge2 {X : Cx} : OpR X (compareOp .GtE) (rOrd (fun i j => decide (j ≤ i)) fun i j => !decide (i.cps.toList < j.cps.toList)) := OpR_or op_ge op_ge_str
/-- in, not in: one text in another; a flat value in a list or tuple of such -/
def strIn (a z : Str) : Bool := !(Builtin.Str.occurrences z a 0 z.length 1).isEmpty
theorem strIn_one (c : Nat) (z : Str) : strIn ⟨#[c]⟩ z = decide (c ∈ z.cps.toList) := PySem.StrLaws.found_one z c
def gIn (neg : Bool) : DOp2 := fun x y P => match fv x, y with
  | some (.str a), .str z => P (.dat (.bl (neg ^^ strIn a z)))
  | some a, .lst ys => (match fvs ys with | some bs => P (.dat (.bl (neg ^^ inV a bs))) | none => False)
  | some a, .tup ys => (match fvs ys with | some bs => P (.dat (.bl (neg ^^ inV a bs))) | none => False)
  | _, _ => False
def rIn2 (K : PySem.W.Frag) (neg : Bool) : R2 := fun x y H Q => (∃ i j, x = .str i ∧ y = .str j ∧ Q (.bl (neg ^^ strIn i j)) H) ∨ rIn K neg x y H Q
theorem op_in2 {X : Cx} : OpR X (compareOp .In) (rIn2 X.K false) := by
  refine OpR_or ?_ op_in_seq
  intro pins s σ H x y v u Q I rx ry h
  obtain ⟨i, j, e1, e2, q⟩ := h
  exact op_in_str pins s σ H x y v u Q I rx ry ⟨i, j, e1, e2, by rw [Bool.false_xor] at q; exact q⟩
theorem op_notin2 {X : Cx} : OpR X (compareOp .NotIn) (rIn2 X.K true) := by
  refine OpR_or ?_ op_notIn_seq
  intro pins s σ H x y v u Q I rx ry h
  obtain ⟨i, j, e1, e2, q⟩ := h
  exact L2.op_notIn_str pins s σ H x y v u Q I rx ry ⟨i, j, e1, e2, by rw [Bool.true_xor] at q; exact q⟩
theorem neg_in {neg b : Bool} : (if neg = true then !b else b) = (neg ^^ b) := by cases neg <;> cases b <;> rfl
theorem c_in (K : PySem.W.Frag) {neg : Bool} : C2 K (rIn2 K neg) (gIn neg) := by
  intro B G ω ρ σ H v w x y P Q e rx ry g k
  unfold gIn at g
  split at g
  · rename_i a z ex
    obtain ⟨rfl, _⟩ := rx.flat ex
    rw [ry.str]
    exact .inl ⟨a, z, rfl, rfl, k _ _ _ _ (.refl _) (e.dat (.bl _)) g⟩
  · rename_i a ys _ ex
    split at g
    · rename_i bs eb
      obtain ⟨rfl, f⟩ := rx.flat ex
      obtain ⟨p, vs, rfl, h, r⟩ := ry.lst e.gle
      obtain ⟨rfl, f2⟩ := r.flat eb
      exact .inr ⟨p, vs, rfl, .inl (.of h), f, f2, by rw [neg_in]; exact k _ _ _ _ (.refl _) (e.dat (.bl _)) g⟩
    · exact g.elim
  · rename_i a ys _ ex
    split at g
    · rename_i bs eb
      obtain ⟨rfl, f⟩ := rx.flat ex
      obtain ⟨p, vs, rfl, h, r⟩ := ry.tup
      obtain ⟨rfl, f2⟩ := r.flat eb
      exact .inr ⟨p, vs, rfl, .inr (seqT e.gle h), f, f2, by rw [neg_in]; exact k _ _ _ _ (.refl _) (e.dat (.bl _)) g⟩
    · exact g.elim
  · exact g.elim
/-- is None, is not None -/
def isNon : D → Bool
  | .non => true
  | _ => false
def gIsN (neg : Bool) : DOp2 := fun x y P => match y with
  | .non => P (.dat (.bl (neg ^^ isNon x)))
  | _ => False
theorem Rp.isN {K : PySem.W.Frag} {G : Hp} {v : V} {d : D} (r : Rp K G v d) : decide (v = .non) = isNon d := by cases r <;> rfl
theorem RdV.isN {K : PySem.W.Frag} {G H : Hp} {v : V} {d : D} (r : RdV K G H v d) : decide (v = .non) = isNon d := by
  rcases r with r | ⟨_, _, _, rfl, rfl, _⟩ | ⟨_, _, _, rfl, rfl, _⟩
  · exact r.isN
  · rfl
  · rfl
theorem c_isN (K : PySem.W.Frag) : C2 K (fun x y H Q => y = .non ∧ Q (.bl (decide (x = .non))) H) (gIsN false) := by
  intro B G ω ρ σ H v w x y P Q e rx ry g k
  cases y with
  | non => rw [ry.non]; exact ⟨rfl, by rw [rx.isN]; exact k _ _ _ _ (.refl _) (e.dat (.bl _)) (by have := g; simpa [gIsN] using this)⟩
  | _ => exact g.elim
theorem c_notN (K : PySem.W.Frag) : C2 K (fun x y H Q => y = .non ∧ Q (.bl (!decide (x = .non))) H) (gIsN true) := by
  intro B G ω ρ σ H v w x y P Q e rx ry g k
  cases y with
  | non => rw [ry.non]; exact ⟨rfl, by rw [rx.isN]; exact k _ _ _ _ (.refl _) (e.dat (.bl _)) (by have := g; simpa [gIsN] using this)⟩
  | _ => exact g.elim
end TL

/-! TL4: built-in functions, subscripts, slices, methods of texts and lists over trees. -/
namespace TL
open PySem PySem.Spec PyProof.Rows L2

/-! ### chains -/
def dChain (g g' : DOp2) (ta tb tc : DTE) : DTE := fun ρ Q => ta ρ fun ra ρ1 => tb ρ1 fun rb ρ2 => W2 (val ρ2 (stl ra)) (val ρ2 (stl rb)) fun x y => g x y fun r => match r with
  | .dat (.bl true) => tc ρ2 fun rc ρ3 => W2 (val ρ3 (stl rb)) (val ρ3 rc) fun y z => g' y z fun r' => Q r' ρ3
  | .dat (.bl false) => Q (.dat (.bl false)) ρ2
  | _ => False

/-! ### functions of one or two arguments -/
def gLen : DOpL := fun xs P => match xs with
  | [.str z] => z.length ≤ sizeLine ∧ P (.dat (.int z.length))
  | [.lst ys] => P (.dat (.int ys.length))
  | [.tup ys] => P (.dat (.int ys.length))
  | [.scr ns] => P (.dat (.int ns.length))
  | [.dct kvs] => P (.dat (.int kvs.length))
  | _ => False
def rLen2 (K : PySem.W.Frag) : List V → Hp → VK → Prop := fun xs H Q => (∃ x n, xs = [x] ∧ LenV K x H n ∧ Q (.int n) H) ∨ ∃ d kvs, xs = [.ref d] ∧ H d = some (.dK kvs) ∧ Q (.int kvs.length) H
theorem call_len2 {X : Cx} : CallR X (.builtin "len") (rLen2 X.K) := by
  refine CallR.or call_len ?_
  intro pins s σ H xs us Q I r h
  obtain ⟨d, kvs, e, hd, q⟩ := h
  exact call_lenD pins s σ H xs us Q I r ⟨d, kvs, e, hd, q⟩
theorem RpK.length {K : PySem.W.Frag} {G : Hp} : ∀ {vs : List (Key × V)} {ds : List (Key × D)}, RpK K G vs ds → vs.length = ds.length
  | _, _, .nil => rfl
  | _, _, .cons _ r => congrArg (· + 1) r.length
theorem c_len (K : PySem.W.Frag) : CL K (rLen2 K) gLen := by
  intro B G ω ρ σ H vs xs P Q e r g k
  unfold gLen at g
  split at g
  · obtain ⟨v, rfl, rv⟩ := r.one
    rw [rv.str]
    exact .inl ⟨_, _, rfl, ⟨g.1, rfl⟩, k _ _ _ _ (.refl _) (e.dat (.int _)) g.2⟩
  · obtain ⟨v, rfl, rv⟩ := r.one
    obtain ⟨a, ws, rfl, h, rr⟩ := rv.lst e.gle
    exact .inl ⟨_, _, rfl, .inl ⟨ws, .of h, rfl⟩, k _ _ _ _ (.refl _) (e.dat (.int _)) (by rw [rr.length]; exact g)⟩
  · obtain ⟨v, rfl, rv⟩ := r.one
    obtain ⟨a, ws, rfl, h, rr⟩ := rv.tup
    exact .inl ⟨_, _, rfl, .inr ⟨ws, seqT e.gle h, rfl⟩, k _ _ _ _ (.refl _) (e.dat (.int _)) (by rw [rr.length]; exact g)⟩
  · obtain ⟨v, rfl, rv⟩ := r.one
    obtain ⟨a, rfl, h⟩ := rv.scr
    exact .inl ⟨_, _, rfl, .inl ⟨_, e.gle.seq h, rfl⟩, k _ _ _ _ (.refl _) (e.dat (.int _)) (by rw [List.length_map]; exact g)⟩
  · obtain ⟨v, rfl, rv⟩ := r.one
    obtain ⟨a, ws, rfl, h, rr⟩ := rv.dct e.gle
    exact .inr ⟨_, _, rfl, h, k _ _ _ _ (.refl _) (e.dat (.int _)) (by rw [rr.length]; exact g)⟩
  · exact g.elim
/-- isinstance(x, T), isinstance(x, (T, U)): built-in classes -/
def tyN : D → Option String
  | .non => some "NoneType"
  | .bl _ => some "bool"
  | .int _ => some "int"
  | .str _ => some "str"
  | .tup _ => some "tuple"
  | .lst _ => some "list"
  | .dct _ => some "dict"
  | .scr _ => some "list"
  | _ => none
def subT (t n : String) : Bool := t == n || (t == "bool" && n == "int")
def isT (n : String) (d : D) : Bool := match tyN d with
  | some t => subT t n
  | none => false
def tyOk (n : String) : Bool := n == "bool" || n == "int" || n == "str" || n == "tuple" || n == "list" || n == "dict"
theorem tyN_ok {d : D} {t : String} (h : tyN d = some t) : t = "NoneType" ∨ tyOk t = true := by
  cases d <;> cases h <;> first | exact .inl rfl | exact .inr (by decide)
theorem kit_sub {t n : String} (ht : t = "NoneType" ∨ tyOk t = true) (hn : tyOk n = true) : kitB t n = some (subT t n) := by
  unfold tyOk at ht hn
  simp only [Bool.or_eq_true, beq_iff_eq] at ht hn
  rcases hn with ((((rfl | rfl) | rfl) | rfl) | rfl) | rfl <;> rcases ht with rfl | ((((rfl | rfl) | rfl) | rfl) | rfl) | rfl <;> decide +kernel
theorem kit_isT (K : PySem.W.Frag) {d : D} {t n : String} (h : tyN d = some t) (hn : tyOk n = true) : PySem.W.kitOne K (.type t) (.type n) = some (isT n d) := by
  unfold isT
  rw [h]
  exact kit_ty (kit_sub (tyN_ok h) hn)
theorem RdV.tyx {K : PySem.W.Frag} {G H : Hp} {v : V} {d : D} {t : String} (s : Same G H) (r : RdV K G H v d) (h : tyN d = some t) : TyX K H v (.type t) := by
  cases d with
  | non => cases h; rw [r.non]; exact .base .non
  | bl b => cases h; rw [r.bl]; exact .base (.bl b)
  | int b => cases h; rw [r.int]; exact .base (.int b)
  | str b => cases h; rw [r.str]; exact .base (.str b)
  | tup xs =>
    cases h
    obtain ⟨a, ws, rfl, h, _⟩ := r.tup
    rcases seqT s h with (h | ⟨o, h⟩) | ⟨o, its, n, h1, h2, _⟩
    · exact .base (.tup h)
    · exact .fTuple h
    · exact .kTuple h1 h2
  | lst xs =>
    cases h
    obtain ⟨a, ws, rfl, h, _⟩ := r.lst s
    exact .base (.lst h)
  | dct xs =>
    cases h
    obtain ⟨a, ws, rfl, h, _⟩ := r.dct s
    exact .base (.dK h)
  | scr xs =>
    cases h
    obtain ⟨a, rfl, h⟩ := r.scr
    rcases s.seq h with (h | ⟨o, h⟩) | ⟨o, its, n, h1, h2, _⟩
    · exact .base (.lst h)
    · exact .base (.frz h)
    · exact .kList h1 h2
  | _ => cases h
def gIsi : DOpL := fun xs P => match xs with
  | [x, .ty n] => (tyN x).isSome = true ∧ tyOk n = true ∧ P (.dat (.bl (isT n x)))
  | [x, .tup [.ty n, .ty m]] => (tyN x).isSome = true ∧ tyOk n = true ∧ tyOk m = true ∧ P (.dat (.bl (isT n x || isT m x)))
  | _ => False
def rIsiS (K : PySem.W.Frag) : List V → Hp → VK → Prop := fun xs H Q => ∃ (x : V) (tp : Addr) (cs : List V) (t : Value) (us : List Value) (b : Bool), xs = [x, .ref tp] ∧ SqT K H tp cs ∧ Paired ClsV cs us ∧ TyX K H x t ∧ PySem.W.kitAny K t us = some b ∧ Q (.bl b) H
theorem call_isiS {X : Cx} : CallR X (.builtin "isinstance") (rIsiS X.K) := by
  intro pins s σ H xs us Q I r h
  obtain ⟨x, tp, cs, t, ws, b, rfl, hT, k, ty, e, q⟩ := h
  obtain ⟨u1, u2, rfl, r1, r2⟩ := vals2 r
  cases (show u2 = Value.ref tp from r2)
  obtain ⟨P, Z, p, hx⟩ := kit_of I r1 ty
  obtain ⟨its, rv, ⟨o, h1, h2, n, h3⟩, _⟩ := I.tuple hT
  cases ClsV.all k rv
  obtain ⟨oc, od, dt, sl⟩ := o
  simp only at h2 h3
  subst h2 h3
  exact PySem.W.kia_tup Z I.kIn p h1 e hx fun tk => ⟨.bl b, H, I.tok tk, rfl, q⟩
def rIsi2 (K : PySem.W.Frag) : List V → Hp → VK → Prop := fun xs H Q => rIsi K xs H Q ∨ rIsiS K xs H Q
theorem call_isi2 {X : Cx} : CallR X (.builtin "isinstance") (rIsi2 X.K) := CallR.or call_isi call_isiS
theorem Rp.tyv {K : PySem.W.Frag} {G : Hp} {v : V} {n : String} (r : Rp K G v (.ty n)) : v = .ty n := by cases r; rfl
theorem RdV.tyv {K : PySem.W.Frag} {G H : Hp} {v : V} {n : String} (r : RdV K G H v (.ty n)) : v = .ty n := by
  rcases r with r | ⟨_, _, _, _, e, _⟩ | ⟨_, _, _, _, e, _⟩
  · exact r.tyv
  · cases e
  · cases e
theorem c_isi (K : PySem.W.Frag) : CL K (rIsi2 K) gIsi := by
  intro B G ω ρ σ H vs xs P Q e r g k
  unfold gIsi at g
  split at g
  · rename_i x n
    obtain ⟨v, w, rfl, rv, rw'⟩ := r.two
    rw [rw'.tyv]
    obtain ⟨h1, h2, p⟩ := g
    obtain ⟨t, ht⟩ := Option.isSome_iff_exists.mp h1
    exact .inl ⟨v, .ty n, .type t, .type n, _, rfl, .ty n, rv.tyx e.gle ht, kit_isT K ht h2, k _ _ _ _ (.refl _) (e.dat (.bl _)) p⟩
  · rename_i x n m
    obtain ⟨v, w, rfl, rv, rw'⟩ := r.two
    obtain ⟨a, ws, rfl, ht, rr⟩ := rw'.tup
    cases rr with
    | cons r1 rr =>
      cases rr with
      | cons r2 rr =>
        cases rr
        rw [r1.tyv, r2.tyv] at ht
        obtain ⟨h1, h2, h3, p⟩ := g
        obtain ⟨t, hy⟩ := Option.isSome_iff_exists.mp h1
        have fin : PySem.W.kitAny K (.type t) [.type n, .type m] = some (isT n x || isT m x) := by
          refine kitAny_cons (kit_isT K hy h2) (fun hb => ?_) (fun hb => by rw [hb]; rfl)
          rw [hb]
          exact kitAny_cons (kit_isT K hy h3) (fun hb2 => by rw [hb2]; rfl) (fun hb2 => by rw [hb2]; rfl)
        exact .inr ⟨v, a, _, .type t, _, _, rfl, seqT e.gle ht, .cons (.ty n) (.cons (.ty m) .nil), rv.tyx e.gle hy, fin, k _ _ _ _ (.refl _) (e.dat (.bl _)) p⟩
  · exact g.elim
/-- all(list of bools), any(..) -/
def bls : List D → Option (List Bool)
  | [] => some []
  | .bl b :: ds => (match bls ds with | some bs => some (b :: bs) | none => none)
  | _ :: _ => none
theorem bls_map : ∀ bs : List Bool, bls (bs.map D.bl) = some bs
  | [] => rfl
  | b :: bs => by simp [bls, bls_map bs]
theorem bls_eq : ∀ {ds : List D} {bs : List Bool}, bls ds = some bs → ds = bs.map D.bl
  | [], _, h => by cases h; rfl
  | d :: ds, bs, h => by
    cases d with
    | bl b =>
      unfold bls at h
      cases h2 : bls ds with
      | none => rw [h2] at h; cases h
      | some bs' => rw [h2] at h; cases h; rw [bls_eq h2]; rfl
    | _ => cases h
def gAll : DOpL := fun xs P => match xs with
  | [.lst ys] => (match bls ys with | some bs => P (.dat (.bl (bs.all id))) | none => False)
  | _ => False
def gAny : DOpL := fun xs P => match xs with
  | [.lst ys] => (match bls ys with | some bs => P (.dat (.bl (bs.any id))) | none => False)
  | _ => False
theorem c_all (K : PySem.W.Frag) : CL K (rAll K) gAll := by
  intro B G ω ρ σ H vs xs P Q e r g k
  unfold gAll at g
  split at g
  · rename_i ys
    split at g
    · rename_i bs eb
      obtain ⟨v, rfl, rv⟩ := r.one
      obtain ⟨a, ws, rfl, h, rr⟩ := rv.lst e.gle
      cases bls_eq eb
      cases rr.bls_eq
      exact ⟨a, bs, rfl, .of h, k _ _ _ _ (.refl _) (e.dat (.bl _)) g⟩
    · exact g.elim
  · exact g.elim
theorem c_any (K : PySem.W.Frag) : CL K (rAny K) gAny := by
  intro B G ω ρ σ H vs xs P Q e r g k
  unfold gAny at g
  split at g
  · rename_i ys
    split at g
    · rename_i bs eb
      obtain ⟨v, rfl, rv⟩ := r.one
      obtain ⟨a, ws, rfl, h, rr⟩ := rv.lst e.gle
      cases bls_eq eb
      cases rr.bls_eq
      exact ⟨a, bs, rfl, .of h, k _ _ _ _ (.refl _) (e.dat (.bl _)) g⟩
    · exact g.elim
  · exact g.elim
/-- list(x), tuple(x) -/
def gList : DOpL := fun xs P => match xs with
  | [.lst ys] => P (.nw (.ls ys))
  | [.tup ys] => P (.nw (.ls ys))
  | [.scr ns] => P (.nw (.ls (ns.map .int)))
  | _ => False
theorem c_list (K : PySem.W.Frag) : CL K (fun xs H Q => ∃ p ys, xs = [.ref p] ∧ (SqL K H p ys ∨ SqT K H p ys) ∧ ∀ l, H l = none → Q (.ref l) (upd H l (.lst ys))) gList := by
  intro B G ω ρ σ H vs xs P Q e r g k
  unfold gList at g
  split at g
  · obtain ⟨v, rfl, rv⟩ := r.one
    obtain ⟨a, ws, rfl, h, rr⟩ := rv.lst e.gle
    exact ⟨a, ws, rfl, .inl (.of h), fun p hp => k _ _ _ _ (.refl _) (e.newL hp rr) g⟩
  · obtain ⟨v, rfl, rv⟩ := r.one
    obtain ⟨a, ws, rfl, h, rr⟩ := rv.tup
    exact ⟨a, ws, rfl, .inr (seqT e.gle h), fun p hp => k _ _ _ _ (.refl _) (e.newL hp rr) g⟩
  · obtain ⟨v, rfl, rv⟩ := r.one
    obtain ⟨a, rfl, h⟩ := rv.scr
    exact ⟨a, _, rfl, .inl (e.gle.seq h), fun p hp => k _ _ _ _ (.refl _) (e.newL hp (RpL.ints _)) g⟩
  · exact g.elim
def gTuple : DOpL := fun xs P => match xs with
  | [.lst ys] => P (.dat (.tup ys))
  | [.tup ys] => P (.dat (.tup ys))
  | _ => False
theorem c_tuple (K : PySem.W.Frag) : CL K (fun xs H Q => ∃ p ys, xs = [.ref p] ∧ ((SqL K H p ys ∧ ∀ l, H l = none → Q (.ref l) (upd H l (.tup ys))) ∨ (SqT K H p ys ∧ Q (.ref p) H))) gTuple := by
  intro B G ω ρ σ H vs xs P Q e r g k
  unfold gTuple at g
  split at g
  · obtain ⟨v, rfl, rv⟩ := r.one
    obtain ⟨a, ws, rfl, h, rr⟩ := rv.lst e.gle
    refine ⟨a, ws, rfl, .inl ⟨.of h, fun p hp => ?_⟩⟩
    obtain ⟨sg, f⟩ := e.newT hp rr
    exact k _ _ _ _ sg f g
  · obtain ⟨v, rfl, rv⟩ := r.one
    obtain ⟨a, ws, rfl, h, rr⟩ := rv.tup
    exact ⟨a, ws, rfl, .inr ⟨seqT e.gle h, k _ _ _ _ (.refl _) (e.dat (.tup h rr)) g⟩⟩
  · exact g.elim
/-- int(x), min(a, b), str(n) -/
def gInt : DOpL := fun xs P => match xs with
  | [.int i] => P (.dat (.int i))
  | [.bl b] => P (.dat (.int (if b then 1 else 0)))
  | _ => False
theorem c_int (K : PySem.W.Frag) : CL K (fun xs H Q => (∃ i, xs = [.int i] ∧ Q (.int i) H) ∨ ∃ k, xs = [.bl k] ∧ Q (.int (if k then 1 else 0)) H) gInt := by
  intro B G ω ρ σ H vs xs P Q e r g k
  unfold gInt at g
  split at g
  · obtain ⟨v, rfl, rv⟩ := r.one
    rw [rv.int]
    exact .inl ⟨_, rfl, k _ _ _ _ (.refl _) (e.dat (.int _)) g⟩
  · obtain ⟨v, rfl, rv⟩ := r.one
    rw [rv.bl]
    exact .inr ⟨_, rfl, k _ _ _ _ (.refl _) (e.dat (.int _)) g⟩
  · exact g.elim
def gMin2 : DOpL := fun xs P => match xs with
  | [.int i, .int j] => P (.dat (.int (if j < i then j else i)))
  | _ => False
theorem c_min2 (K : PySem.W.Frag) : CL K (fun xs H Q => ∃ i j, xs = [.int i, .int j] ∧ Q (.int (if j < i then j else i)) H) gMin2 := by
  intro B G ω ρ σ H vs xs P Q e r g k
  unfold gMin2 at g
  split at g
  · obtain ⟨v, w, rfl, rv, rw'⟩ := r.two
    rw [rv.int, rw'.int]
    exact ⟨_, _, rfl, k _ _ _ _ (.refl _) (e.dat (.int _)) g⟩
  · exact g.elim
def gMax2 : DOpL := fun xs P => match xs with
  | [.int i, .int j] => P (.dat (.int (if j > i then j else i)))
  | _ => False
theorem c_max2 (K : PySem.W.Frag) : CL K (fun xs H Q => ∃ i j, xs = [.int i, .int j] ∧ Q (.int (if j > i then j else i)) H) gMax2 := by
  intro B G ω ρ σ H vs xs P Q e r g k
  unfold gMax2 at g
  split at g
  · obtain ⟨v, w, rfl, rv, rw'⟩ := r.two
    rw [rv.int, rw'.int]
    exact ⟨_, _, rfl, k _ _ _ _ (.refl _) (e.dat (.int _)) g⟩
  · exact g.elim
/-- sorted of texts, fewer than 64 -/
def txs : List D → Option (List Str)
  | [] => some []
  | .str b :: ds => (match txs ds with | some bs => some (b :: bs) | none => none)
  | _ :: _ => none
theorem txs_map : ∀ bs : List Str, txs (bs.map D.str) = some bs
  | [] => rfl
  | b :: bs => by simp [txs, txs_map bs]
theorem txs_eq : ∀ {ds : List D} {bs : List Str}, txs ds = some bs → ds = bs.map D.str
  | [], _, h => by cases h; rfl
  | d :: ds, bs, h => by
    cases d with
    | str b =>
      unfold txs at h
      cases h2 : txs ds with
      | none => rw [h2] at h; cases h
      | some bs' => rw [h2] at h; cases h; rw [txs_eq h2]; rfl
    | _ => cases h
def gSorted : DOpL := fun xs P => match xs with
  | [.lst ys] => (match txs ys with | some bs => bs.length < 64 ∧ ∀ cs : List Str, cs.Perm bs → sortedS cs = true → P (.nw (.ls (cs.map .str))) | none => False)
  | _ => False
theorem c_sorted (K : PySem.W.Frag) : CL K (rSortedS K) gSorted := by
  intro B G ω ρ σ H vs xs P Q e r g k
  unfold gSorted at g
  split at g
  · rename_i ys
    split at g
    · rename_i bs eb
      obtain ⟨v, rfl, rv⟩ := r.one
      obtain ⟨a, ws, rfl, h, rr⟩ := rv.lst e.gle
      cases txs_eq eb
      cases rr.strs_eq
      exact ⟨a, bs, rfl, .of h, g.1, fun cs p h1 h2 hp => k _ _ _ _ (.refl _) (e.newL hp (RpL.strs cs)) (g.2 cs h1 h2)⟩
    · exact g.elim
  · exact g.elim

/-! ### subscripts, slices -/
def gIx : DOp2 := fun x y P => match x, y with
  | .lst xs, .int i => (match atI xs i with | some d => P (.dat d) | none => False)
  | .tup xs, .int i => (match atI xs i with | some d => P (.dat d) | none => False)
  | .str z, .int i => (match atI z.cps.toList i with | some c => z.length ≤ sizeLine ∧ P (.dat (.str ⟨#[c]⟩)) | none => False)
  | _, _ => False
theorem RpL.atI {K : PySem.W.Frag} {G : Hp} {vs : List V} {ds : List D} {i : Int} {d : D} (r : RpL K G vs ds) (h : L2.atI ds i = some d) : ∃ v, L2.atI vs i = some v ∧ Rp K G v d := by
  unfold L2.atI at h ⊢
  rw [r.length]
  cases q : ixN ds.length i with
  | none => rw [q] at h; cases h
  | some j =>
    rw [q] at h
    exact r.get h
theorem c_ix (K : PySem.W.Frag) : C2 K (rIx K) gIx := by
  intro B G ω ρ σ H v w x y P Q e rx ry g k
  unfold gIx at g
  split at g
  · split at g
    · rename_i d ed
      obtain ⟨a, ws, rfl, h, rr⟩ := rx.lst e.gle
      rw [ry.int]
      obtain ⟨u, h1, h2⟩ := rr.atI ed
      exact .inl ⟨a, ws, _, u, rfl, rfl, .of h, h1, k _ _ _ _ (.refl _) (e.dat h2) g⟩
    · exact g.elim
  · split at g
    · rename_i d ed
      obtain ⟨a, ws, rfl, h, rr⟩ := rx.tup
      rw [ry.int]
      obtain ⟨u, h1, h2⟩ := rr.atI ed
      exact .inr (.inl ⟨a, ws, _, u, rfl, rfl, seqT e.gle h, h1, k _ _ _ _ (.refl _) (e.dat h2) g⟩)
    · exact g.elim
  · split at g
    · rename_i c ec
      rw [rx.str, ry.int]
      exact .inr (.inr ⟨_, _, c, rfl, rfl, g.1, ec, k _ _ _ _ (.refl _) (e.dat (.str _)) g.2⟩)
    · exact g.elim
  · exact g.elim
def cutD (xs : List D) (lo hi : Option Int) : List D := (xs.drop (HT.sIx xs.length 0 lo)).take (HT.sIx xs.length xs.length hi - HT.sIx xs.length 0 lo)
theorem RpL.cut {K : PySem.W.Frag} {G : Hp} {vs : List V} {ds : List D} (r : RpL K G vs ds) (lo hi : Option Int) : RpL K G (cutV vs lo hi) (cutD ds lo hi) := by
  unfold cutV cutD
  rw [r.length]
  exact (r.drop _).take _
abbrev DPO := Env → (Option Int → Env → Prop) → Prop
def dNoP : DPO := fun ρ Q => Q none ρ
def dPart (t : DTE) : DPO := fun ρ Q => t ρ fun r ρ1 => match val ρ1 r with | some (.int i) => Q (some i) ρ1 | _ => False
def gSlice (x : D) (lo hi : Option Int) (P : Rs → Prop) : Prop := match x with
  | .lst xs => P (.nw (.ls (cutD xs lo hi)))
  | .tup xs => P (.dat (.tup (cutD xs lo hi)))
  | .str z => z.length ≤ sizeLine ∧ P (.dat (.str (cutS z lo hi)))
  | _ => False
def dSlice (t : DTE) (lo hi : DPO) : DTE := fun ρ Q => t ρ fun r ρ1 => lo ρ1 fun l ρ2 => hi ρ2 fun h ρ3 => W1 (val ρ3 (stl r)) fun x => gSlice x l h fun r' => Q r' ρ3
def liftO (K : PySem.W.Frag) (np : Nat) (t : DPO) : TO := fun σ H Q => ∃ B G ρ Qd, B.P.length = np ∧ EnvOk K B G ρ σ H ∧ t ρ Qd ∧
  ∀ G' o ρ' H', Same G G' → EnvOk K B G' ρ' σ H' → Qd o ρ' → Q o H'
section
variable {X : Cx} {e : Expr} {lo hi : Option Expr} {t : DTE} {tl th : DPO} {np : Nat} {pos p2 : Pos}
theorem _root_.L2.PO.mo {o : Option Expr} {t t' : TO} (h : PO X o t) (m : ∀ σ H Q, t' σ H Q → t σ H Q) : PO X o t' := ⟨fun pins s σ H Q I q => h.run pins s σ H Q I (m _ _ _ q)⟩
theorem d_nop : PO X none (liftO X.K np dNoP) := po_none.mo fun σ H Q ⟨B, G, ρ, Qd, hn, eo, h, k⟩ => k _ _ _ _ (.refl _) eo h
theorem d_part (h : PE X e (lift X.K np t)) : PO X (some e) (liftO X.K np (dPart t)) := by
  refine (po_some h).mo fun σ H Q h => ?_
  obtain ⟨B, G, ρ, Qd, hn, eo, h, k⟩ := h
  refine ⟨B, G, ρ, _, hn, eo, h, fun G1 v r ρ1 H1 s1 f1 q1 => ?_⟩
  obtain ⟨ω, e1, r1⟩ := f1
  split at q1
  · rename_i i ei
    exact ⟨i, (e1.rd r1 ei).int, k _ _ _ _ s1 ⟨ω, e1⟩ q1⟩
  · exact q1.elim
theorem d_slice (he : PE X e (lift X.K np t)) (hl : PO X lo (liftO X.K np tl)) (hh : PO X hi (liftO X.K np th)) : PE X (.Subscript e (.Slice lo hi none p2) pos) (lift X.K np (dSlice t tl th)) := by
  refine (pe_slice (sl_list.or (sl_tupA.or sl_str)) he hl hh).mo fun σ H Q h => ?_
  obtain ⟨B, G, ρ, Qd, hn, eo, h, k⟩ := h
  refine ⟨B, G, ρ, _, hn, eo, h, fun G1 v ra ρ1 H1 s1 f1 q1 => ?_⟩
  obtain ⟨G2, s2, f2⟩ := f1.stl
  refine ⟨B, G2, ρ1, _, hn, f2.env, q1, fun G3 l ρ2 H2 s3 e3 q2 => ⟨B, G3, ρ2, _, hn, e3, q2, fun G4 u ρ3 H3 s4 e4 q3 => ?_⟩⟩
  obtain ⟨x, ex, g⟩ := W1.of q3
  obtain ⟨ω2, e2, r2⟩ := f2
  obtain ⟨ω4, e4⟩ := e4
  have ra' : RsOk X.K G4 H3 ω4 σ v (stl ra) := by
    cases hr : stl ra with
    | dat d => rw [hr] at r2; exact Rp.mono (s3.trans s4) r2
    | sl i => rw [hr] at r2; exact r2
    | nw s =>
      cases ra with
      | dat d => cases hr
      | sl i => cases hr
      | nw s' =>
        cases s' with
        | ls _ => cases hr
        | dc _ => cases hr
        | un => cases ex
        | fr _ => cases ex
        | rs _ => cases ex
  have rx := e4.rd ra' ex
  have ss := ((s1.trans s2).trans s3).trans s4
  cases x with
  | lst xs =>
    obtain ⟨a, ws, rfl, h, rr⟩ := rx.lst e4.gle
    exact .inl ⟨a, ws, rfl, .of h, fun p hp => k _ _ _ _ _ ss (e4.newL hp (rr.cut l u)) g⟩
  | tup xs =>
    obtain ⟨a, ws, rfl, h, rr⟩ := rx.tup
    refine .inr (.inl ⟨a, ws, rfl, seqT e4.gle h, fun hw => ?_, fun _ p hp => ?_⟩)
    · have ec : cutD xs l u = xs := by
        unfold cutD
        rw [← rr.length, hw.1, hw.2, List.drop_zero, Nat.sub_zero, rr.length, List.take_length]
      have g' : Qd (.dat (.tup (cutD xs l u))) ρ3 := g
      rw [ec] at g'
      exact k _ _ _ _ _ ss (e4.dat (.tup h rr)) g'
    · obtain ⟨sg, f⟩ := e4.newT hp (rr.cut l u)
      exact k _ _ _ _ _ (ss.trans sg) f g
  | str z =>
    rw [rx.str]
    exact .inr (.inr ⟨z, rfl, g.1, k _ _ _ _ _ ss (e4.dat (.str _)) g.2⟩)
  | _ => exact g.elim
def gRev : DOp1 := fun x P => match x with
  | .lst xs => P (.nw (.ls xs.reverse))
  | _ => False
theorem d_rev {k : Nat} {p1 p2 p3 : Pos} (he : PE X e (lift X.K np t)) : PE X (.Subscript e (.Slice none none (some (.UnaryOp .USub (.Constant (.int 1) k p1) p2)) p3) pos) (lift X.K np (dUn gRev t)) := by
  refine (pe_revL he).mo fun σ H Q h => ?_
  obtain ⟨B, G, ρ, Qd, hn, eo, h, k⟩ := h
  refine ⟨B, G, ρ, _, hn, eo, h, fun G1 v ra ρ1 H1 s1 f1 q1 => ?_⟩
  obtain ⟨x, ex, q1⟩ := W1.of q1
  obtain ⟨ω, e1, r1⟩ := f1
  have rx := e1.rd r1 ex
  cases x with
  | lst xs =>
    obtain ⟨a, ws, rfl, h, rr⟩ := rx.lst e1.gle
    exact ⟨a, ws, rfl, .of h, fun p hp => k _ _ _ _ _ s1 (e1.newL hp rr.reverse) q1⟩
  | _ => exact q1.elim
theorem d_ix {a b : Expr} {ta tb : DTE} (ha : PE X a (lift X.K np ta)) (hb : PE X b (lift X.K np tb)) (hs : PlainIx b := by exact fun _ _ => rfl) : PE X (.Subscript a b pos) (lift X.K np (dBin gIx ta tb)) :=
  (pe_ix ix_seq ha hb hs).mo fun σ H Q h => two_ok (c_ix X.K) σ H Q h
end

/-! ### methods of texts -/
def dM1 (g : DOp2) (t u : DTE) : DTE := fun ρ Q => t ρ fun r ρ1 => W1 (val ρ1 (stl r)) fun x => (∃ a, x = .str a) ∧ u ρ1 fun ru ρ2 => W1 (val ρ2 ru) fun y => g x y fun r' => Q r' ρ2
def dM0 (g : DOp1) (t : DTE) : DTE := fun ρ Q => t ρ fun r ρ1 => W1 (val ρ1 r) fun x => (∃ a, x = .str a) ∧ g x fun r' => Q r' ρ1
section
variable {X : Cx} {o e : Expr} {to te : DTE} {np : Nat} {apos pos : Pos} {id : String} {name : Str}
theorem d_m0 {r : V → List V → Hp → VK → Prop} {g : DOp1} (slot : Slot "str" name id) (ty : typeOf (.builtin id) = pure (.type "method_descriptor")) (rule : MtR X id r) (hc : C1 X.K (fun v H Q => r v [] H Q) g) (ho : PE X o (lift X.K np to))
    (hbase : attributeBase o name X.env (eval o X.env) = eval o X.env := by rfl) (hline : (apos.endLine == pos.line) = true := by rfl) : PE X (.Call (.Attribute o name apos) [] [] pos) (lift X.K np (dM0 g to)) := by
  refine (pe_m0 slot ty rule ho hbase hline).mo fun σ H Q h => ?_
  obtain ⟨B, G, ρ, Qd, hn, eo, h, k⟩ := h
  refine ⟨B, G, ρ, _, hn, eo, h, fun G1 v r ρ1 H1 s1 f1 q1 => ?_⟩
  obtain ⟨x, ex, ⟨a, rfl⟩, q1⟩ := W1.of q1
  obtain ⟨ω, e, rr⟩ := f1
  have rx := e.rd rr ex
  exact ⟨⟨a, rx.str⟩, hc e rx q1 fun G' v' r' H' s f p => k _ _ _ _ _ (s1.trans s) f p⟩
theorem d_m1 {r : V → List V → Hp → VK → Prop} {g : DOp2} (slot : Slot "str" name id) (ty : typeOf (.builtin id) = pure (.type "method_descriptor")) (rule : MtR X id r) (hc : C2 X.K (fun v w H Q => r v [w] H Q) g) (ho : PE X o (lift X.K np to)) (he : PE X e (lift X.K np te))
    (hs : starEach [e] X.env = [(false, eval e X.env)] := by rfl) (hbase : attributeBase o name X.env (eval o X.env) = eval o X.env := by rfl) (hline : (apos.endLine == pos.line) = true := by rfl) :
    PE X (.Call (.Attribute o name apos) [e] [] pos) (lift X.K np (dM1 g to te)) := by
  refine (pe_m1 slot ty rule ho he hs hbase hline).mo fun σ H Q h => ?_
  obtain ⟨B, G, ρ, Qd, hn, eo, h, k⟩ := h
  refine ⟨B, G, ρ, _, hn, eo, h, fun G1 v ra ρ1 H1 s1 f1 q1 => ?_⟩
  obtain ⟨G2, s2, f2⟩ := f1.stl
  obtain ⟨x, ex, ⟨a, rfl⟩, q1⟩ := W1.of q1
  obtain ⟨ω2, e2, r2⟩ := f2
  have rx := e2.rd r2 ex
  have ev := rx.str
  subst ev
  refine ⟨⟨a, rfl⟩, B, G2, ρ1, _, hn, ⟨ω2, e2⟩, q1, fun G3 w rb ρ2 H2 s3 f3 q2 => ?_⟩
  obtain ⟨y, ey, q2⟩ := W1.of q2
  obtain ⟨ω3, e3, r3⟩ := f3
  exact hc e3 (Rp.str a).rd (e3.rd r3 ey) q2 fun G' v' r' H' s f p => k _ _ _ _ _ (((s1.trans s2).trans s3).trans s) f p
end
def gSplit : DOp2 := fun x y P => match x, y with
  | .str a, .str b => (b.length == 0) = false ∧ a.length + 2 ≤ sizeLine ∧ P (.nw (.ls ((Txt.split a b).map .str)))
  | _, _ => False
theorem c_split (K : PySem.W.Frag) : C2 K (fun v w H Q => ∃ a b, v = .str a ∧ [w] = [.str b] ∧ (b.length == 0) = false ∧ a.length + 2 ≤ sizeLine ∧ rNewStrs (Txt.split a b) H Q) gSplit := by
  intro B G ω ρ σ H v w x y P Q e rx ry g k
  unfold gSplit at g
  split at g
  · rw [rx.str, ry.str]
    exact ⟨_, _, rfl, rfl, g.1, g.2.1, fun p hp => k _ _ _ _ (.refl _) (e.newL hp (RpL.strs _)) g.2.2⟩
  · exact g.elim
def gJoin : DOp2 := fun x y P => match x, y with
  | .str a, .lst ys => (match txs ys with | some bs => (bs.map (·.length)).sum + bs.length * a.length ≤ 16777216 ∧ P (.dat (.str (Txt.join a bs))) | none => False)
  | .str a, .tup ys => (match txs ys with | some bs => (bs.map (·.length)).sum + bs.length * a.length ≤ 16777216 ∧ P (.dat (.str (Txt.join a bs))) | none => False)
  | _, _ => False
theorem c_join (K : PySem.W.Frag) : C2 K (fun v w H Q => ∃ a p, ∃ ys : List Str, v = .str a ∧ [w] = [.ref p] ∧ (SqL K H p (ys.map V.str) ∨ SqT K H p (ys.map V.str)) ∧ (ys.map (·.length)).sum + ys.length * a.length ≤ 16777216 ∧ Q (.str (Txt.join a ys)) H) gJoin := by
  intro B G ω ρ σ H v w x y P Q e rx ry g k
  unfold gJoin at g
  split at g
  · split at g
    · rename_i bs eb
      rw [rx.str]
      obtain ⟨p, ws, rfl, h, rr⟩ := ry.lst e.gle
      cases txs_eq eb
      cases rr.strs_eq
      exact ⟨_, p, bs, rfl, rfl, .inl (.of h), g.1, k _ _ _ _ (.refl _) (e.dat (.str _)) g.2⟩
    · exact g.elim
  · split at g
    · rename_i bs eb
      rw [rx.str]
      obtain ⟨p, ws, rfl, h, rr⟩ := ry.tup
      cases txs_eq eb
      cases rr.strs_eq
      exact ⟨_, p, bs, rfl, rfl, .inr (seqT e.gle h), g.1, k _ _ _ _ (.refl _) (e.dat (.str _)) g.2⟩
    · exact g.elim
  · exact g.elim
def gUpper : DOp1 := fun x P => match x with
  | .str a => a.length ≤ 5592405 ∧ P (.dat (.str (Txt.upper a)))
  | _ => False
theorem c_upper (K : PySem.W.Frag) : C1 K (fun v H Q => ∃ a, v = .str a ∧ ([] : List V) = [] ∧ a.length ≤ 5592405 ∧ Q (.str (Txt.upper a)) H) gUpper := by
  intro B G ω ρ σ H v x P Q e rx g k
  cases x with
  | str a => rw [rx.str]; exact ⟨a, rfl, rfl, g.1, k _ _ _ _ (.refl _) (e.dat (.str _)) g.2⟩
  | _ => exact g.elim
end TL

/-! TL5: statements, targets, loops, comprehensions, list methods over trees. -/
namespace TL
open PySem PySem.Spec PyProof.Rows L2

section
variable {X : Cx} {a b c : Expr} {ta tb tc : DTE} {np : Nat} {pos : Pos}
theorem chain_ok {r r' : R2} {g g' : DOp2} (hg : C2 X.K r g) (hg' : C2 X.K r' g') (σ : Stt) (H : Hp) (Q : VK) (h : lift X.K np (dChain g g' ta tb tc) σ H Q) : tChain r r' (lift X.K np ta) (lift X.K np tb) (lift X.K np tc) σ H Q := by
  obtain ⟨B, G, ρ, Qd, hn, eo, h, k⟩ := h
  refine ⟨B, G, ρ, _, hn, eo, h, fun G1 v ra ρ1 H1 s1 f1 q1 => ?_⟩
  obtain ⟨G2, s2, f2⟩ := f1.stl
  refine ⟨B, G2, ρ1, _, hn, f2.env, q1, fun G3 w rb ρ2 H2 s3 f3 q2 => ?_⟩
  obtain ⟨G4, s4, f4⟩ := f3.stl
  obtain ⟨x, y, ex, ey, q2⟩ := W2.of q2
  obtain ⟨ω2, e2, r2⟩ := f2
  obtain ⟨ω4, e4, r4⟩ := f4
  have keep : ∀ {G G' : Hp} {H' : Hp} {ω ω' : Own} {H0 : Hp} {v : V} {r : Rs} {ρ : Env} {x : D}, Same G G' → RsOk X.K G H0 ω σ v (stl r) → val ρ (stl r) = some x → RsOk X.K G' H' ω' σ v (stl r) := by
    intro G G' H' ω ω' H0 v r ρ x s h hv
    cases hr : stl r with
    | dat d => rw [hr] at h; exact Rp.mono s h
    | sl i => rw [hr] at h; exact h
    | nw s =>
      cases r with
      | dat d => cases hr
      | sl i => cases hr
      | nw s' =>
        cases s' with
        | ls _ => cases hr
        | dc _ => cases hr
        | un => cases hv
        | fr _ => cases hv
        | rs _ => cases hv
  refine hg e4 (e4.rd (keep (s3.trans s4) r2 ex) ex) (e4.rd r4 ey) q2 fun G5 v5 r5 H5 s5 f5 p5 => ?_
  obtain ⟨ω5, e5, q5⟩ := f5
  cases r5 with
  | dat d =>
    cases d with
    | bl bb =>
      have ev : v5 = .bl bb := RdV.bl (.inl q5) (H := H5)
      refine ⟨bb, ev, ?_⟩
      cases bb with
      | true =>
        refine iteT ⟨B, G5, ρ2, _, hn, ⟨ω5, e5⟩, p5, fun G6 u rc ρ3 H3 s6 f6 q6 => ?_⟩
        obtain ⟨y', z, ey', ez, q6⟩ := W2.of q6
        obtain ⟨ω6, e6, r6⟩ := f6
        exact hg' e6 (e6.rd (keep (s5.trans s6) r4 ey) ey') (e6.rd r6 ez) q6 fun G' v' r' H' s f p => k _ _ _ _ _ ((((((s1.trans s2).trans s3).trans s4).trans s5).trans s6).trans s) f p
      | false => exact iteF (k _ _ _ _ _ ((((s1.trans s2).trans s3).trans s4).trans s5) (e5.dat (.bl false)) p5)
    | _ => exact p5.elim
  | _ => exact p5.elim
theorem d_chain {op op' : CmpOp} {r r' : R2} {g g' : DOp2} (ho : OpR X (compareOp op) r) (ho' : OpR X (compareOp op') r') (hg : C2 X.K r g) (hg' : C2 X.K r' g') (ha : PE X a (lift X.K np ta)) (hb : PE X b (lift X.K np tb)) (hc : PE X c (lift X.K np tc))
    (hm : lastMarks [op, op'] [b, c] = false := by with_unfolding_all rfl) : PE X (.Compare a [op, op'] [b, c] pos) (lift X.K np (dChain g g' ta tb tc)) :=
  (pe_chain ho ho' ha hb hc hm).mo fun σ H Q h => chain_ok hg hg' σ H Q h
theorem d_chainT {op op' : CmpOp} {r r' : R2} {g g' : DOp2} (ho : OpR X (compareOp op) r) (ho' : OpR X (compareOp op') r') (hg : C2 X.K r g) (hg' : C2 X.K r' g') (ha : PE X a (lift X.K np ta)) (hb : PE X b (lift X.K np tb)) (hc : PE X c (lift X.K np tc))
    (hm : lastMarks [op, op'] [b, c] = false := by with_unfolding_all rfl) : PT X (.Compare a [op, op'] [b, c] pos) (liftT X.K np (dTst (dChain g g' ta tb tc))) :=
  (pt_chain ho ho' ha hb hc hm).mo fun σ H Q h => tst_ok (fun σ H Q h => chain_ok hg hg' σ H Q h) σ H Q h
end

/-! ### the environment written -/
section
variable {K : PySem.W.Frag} {B : Bs} {G : Hp} {ω : Own} {ρ : Env} {σ : Stt} {H : Hp} {v : V}
theorem retag_i {i j : Nat} {a : Addr} (h : ω a = some i) : retag ω i j a = some j := by unfold retag; rw [if_pos h]
theorem retag_some {i j l : Nat} {a : Addr} (h : retag ω i j a = some l) : (l = j ∧ ω a = some i) ∨ (ω a = some l ∧ l ≠ j ∧ l ≠ i) := by
  unfold retag at h
  split at h
  · rename_i q; exact .inl ⟨(Option.some.inj h).symm, q⟩
  · rename_i n1
    split at h
    · cases h
    · rename_i n2
      exact .inr ⟨h, fun z => n2 (z ▸ h), fun z => n1 (z ▸ h)⟩
theorem retag_ne {i j l : Nat} {a : Addr} (h : ω a = some l) (hi : l ≠ i) (hj : l ≠ j) : retag ω i j a = some l := by
  unfold retag
  rw [if_neg (fun z => by rw [h] at z; exact hi (Option.some.inj z)), if_neg (fun z => by rw [h] at z; exact hj (Option.some.inj z))]
  exact h
/-- a slot gets frozen data -/
theorem EnvW.setD (e : EnvW K B G ω ρ σ H) {i : Nat} {d : D} (r : Rp K G v d) : EnvOk K B G (ρ.set i (.fr d)) (σ.set i (some v)) H := by
  refine ⟨untag ω i, e.gle, e.g0, e.keep, fun a j q => e.own a j (untag_some q).1, by rw [List.length_set, List.length_set]; exact e.len, fun j s q => ?_, fun j s w q o p => ?_⟩
  · by_cases hj : j = i
    · subst hj
      have hl : j < ρ.length := by have := (List.getElem?_eq_some_iff.mp q).1; rwa [List.length_set] at this
      rw [List.getElem?_set_self hl] at q
      cases q
      exact ⟨v, List.getElem?_set_self (by rw [← e.len]; exact hl), r⟩
    · rw [List.getElem?_set_ne (Ne.symm hj)] at q
      rw [List.getElem?_set_ne (Ne.symm hj)]
      exact (e.slot j s q).mono (.refl _) fun a z => ⟨untag_ne hj z, rfl⟩
  · by_cases hj : j = i
    · subst hj
      have hl : j < ρ.length := by have := (List.getElem?_eq_some_iff.mp q).1; rwa [List.length_set] at this
      rw [List.getElem?_set_self hl] at q
      cases q
      cases o
    · rw [List.getElem?_set_ne (Ne.symm hj)] at q
      rw [List.getElem?_set_ne (Ne.symm hj)]
      exact e.pin j s w q o p
theorem SlOk.ov {F : Addr → Prop} {ov ov' : Option (Option V)} {s : Sl} (h : SlOk K G H F ov s) (e : ov' = ov) : SlOk K G H F ov' s := by subst e; exact h
/-- a slot gets something new -/
theorem EnvW.setN (e : EnvW K B G ω ρ σ H) {i : Nat} {s : Sl} (o : s.own = true) (h : SlOk K G H (fun a => ω a = some σ.length) (some (some v)) s) (hp : B.P.length ≤ i) : EnvOk K B G (ρ.set i s) (σ.set i (some v)) H := by
  refine ⟨retag ω σ.length i, e.gle, e.g0, e.keep, fun a j q => ?_, by rw [List.length_set, List.length_set]; exact e.len, fun j s' q => ?_, fun j s' w q o' p => ?_⟩
  · rcases retag_some q with ⟨_, q⟩ | ⟨q, _⟩
    · exact e.own a _ q
    · exact e.own a _ q
  · by_cases hj : j = i
    · subst hj
      have hl : j < ρ.length := by have := (List.getElem?_eq_some_iff.mp q).1; rwa [List.length_set] at this
      rw [List.getElem?_set_self hl] at q
      cases q
      exact (h.mono (.refl _) fun a z => ⟨retag_i z, rfl⟩).ov (List.getElem?_set_self (by rw [← e.len]; exact hl))
    · have hl : j < ρ.length := by have := (List.getElem?_eq_some_iff.mp q).1; rwa [List.length_set] at this
      have := e.len
      rw [List.getElem?_set_ne (Ne.symm hj)] at q
      rw [List.getElem?_set_ne (Ne.symm hj)]
      exact (e.slot j s' q).mono (.refl _) fun a z => ⟨retag_ne z (by omega) hj, rfl⟩
  · by_cases hj : j = i
    · subst hj
      have : j < B.P.length := (List.getElem?_eq_some_iff.mp p).1
      omega
    · rw [List.getElem?_set_ne (Ne.symm hj)] at q
      rw [List.getElem?_set_ne (Ne.symm hj)]
      exact e.pin j s' w q o' p
/-- an owned list is changed -/
theorem EnvW.mutL (e : EnvW K B G ω ρ σ H) {i : Nat} {xs ys : List D} {p : Addr} {ws : List V} (hs : ρ[i]? = some (.ls xs)) (hv : σ[i]? = some (some (.ref p))) (r : RpL K G ws ys) :
    G p = none ∧ (∃ vs, H p = some (.lst vs) ∧ RpL K G vs xs) ∧ EnvW K B G ω (ρ.set i (.ls ys)) σ (upd H p (.lst ws)) := by
  obtain ⟨p', vs, e1, hp, h1, r1⟩ := e.slot i _ hs
  rw [hv] at e1
  cases e1
  obtain ⟨g1, g2, g3⟩ := e.own p i hp
  refine ⟨g1, ⟨vs, h1, r1⟩, ⟨fun a o q => ?_, e.g0, fun a o q n => ?_, fun a j q => ?_, by rw [List.length_set]; exact e.len, fun j s q => ?_, fun j s w q o' pp => ?_⟩⟩
  · rw [upd_ne (fun z => by subst z; rw [g1] at q; cases q)]; exact e.gle _ _ q
  · rw [upd_ne (fun z => by
      subst z
      rcases g3 with z | z
      · exact n z
      · rw [z] at q; cases q)]
    exact e.keep _ _ q n
  · obtain ⟨h1', h2, h3⟩ := e.own a j q
    refine ⟨h1', ?_, h3⟩
    by_cases ha : a = p
    · subst ha; rw [upd_same]; simp
    · rw [upd_ne ha]; exact h2
  · by_cases hj : j = i
    · subst hj
      have hl : j < ρ.length := by have := (List.getElem?_eq_some_iff.mp q).1; rwa [List.length_set] at this
      rw [List.getElem?_set_self hl] at q
      cases q
      exact ⟨p, ws, hv, hp, upd_same, r⟩
    · rw [List.getElem?_set_ne (Ne.symm hj)] at q
      exact (e.slot j s q).mono (.refl _) fun a z => ⟨z, upd_ne fun w => by subst w; rw [hp] at z; exact hj (Option.some.inj z).symm⟩
  · by_cases hj : j = i
    · subst hj
      have hl : j < ρ.length := by have := (List.getElem?_eq_some_iff.mp q).1; rwa [List.length_set] at this
      exact e.pin j _ w hs rfl pp
    · rw [List.getElem?_set_ne (Ne.symm hj)] at q
      exact e.pin j s w q o' pp
end

/-! ### statements -/
def dNext : DTS := fun D ρ => D.nx ρ
def dSeq (t u : DTS) : DTS := fun D ρ => t { D with nx := u D } ρ
def dRet (t : DTE) : DTS := fun D ρ => t ρ D.rt
def dRetN : DTS := fun D ρ => D.rt (.dat .non) ρ
def dDrop (t : DTE) : DTS := fun D ρ => t ρ fun _ ρ1 => D.nx ρ1
def dIf (c : DTT) (t u : DTS) : DTS := fun D ρ => c ρ fun b ρ1 => if b = true then t D ρ1 else u D ρ1
def dNever : DTS := fun _ _ => False
/-- what a slot gets -/
def dPut (np i : Nat) (r : Rs) (ρ : Env) (k : Env → Prop) : Prop := match r with
  | .dat d => k (ρ.set i (.fr d))
  | .nw s => np ≤ i ∧ k (ρ.set i s)
  | .sl _ => False
def dSet (np i : Nat) (t : DTE) : DTS := fun D ρ => t ρ fun r ρ1 => dPut np i r ρ1 D.nx
def dAug (i : Nat) (t : DTE) (g : DOp2) : DTS := fun D ρ => W1 (val ρ (.sl i)) (fun _ => False) ∨ match ρ[i]? with
  | some (.fr x) => t ρ fun r ρ1 => W1 (val ρ1 r) fun y => g x y fun r' => match r' with
    | .dat d => D.nx (ρ1.set i (.fr d))
    | _ => False
  | _ => False
abbrev DTG := D → Env → (Env → Prop) → Prop
abbrev DTGs := List D → Env → (Env → Prop) → Prop
/-- the names is bound by a target -/
def hName (i : Nat) : DTG := fun d ρ k => k (ρ.set i (.fr d))
def hNil : DTGs := fun ds ρ k => ds = [] ∧ k ρ
def hCons (t : DTG) (u : DTGs) : DTGs := fun ds ρ k => match ds with
  | d :: r => t d ρ fun ρ1 => u r ρ1 k
  | [] => False
def hTup (n : Nat) (t : DTGs) : DTG := fun d ρ k => match d with
  | .tup xs => xs.length = n ∧ t xs ρ k
  | _ => False
def dAsg (t : DTE) (g : DTG) : DTS := fun D ρ => t ρ fun r ρ1 => match stl r with
  | .dat d => g d ρ1 D.nx
  | _ => False
/-- the slots off vs are as they were -/
def Off (vs : List Nat) (σ σ' : Stt) : Prop := σ'.length = σ.length ∧ ∀ j, j ∉ vs → σ'[j]? = σ[j]?
theorem Off.refl (vs : List Nat) (σ : Stt) : Off vs σ σ := ⟨rfl, fun _ _ => rfl⟩
theorem Off.trans {vs : List Nat} {σ σ1 σ2 : Stt} (a : Off vs σ σ1) (b : Off vs σ1 σ2) : Off vs σ σ2 := ⟨b.1.trans a.1, fun j h => (b.2 j h).trans (a.2 j h)⟩
theorem Off.mono {vs ws : List Nat} {σ σ' : Stt} (a : Off vs σ σ') (h : ∀ j ∈ vs, j ∈ ws) : Off ws σ σ' := ⟨a.1, fun j q => a.2 j fun z => q (h j z)⟩
theorem wipe_get {σ : Stt} : ∀ {vs : List Nat} {j : Nat}, (wipe σ vs)[j]? = if j ∈ vs ∧ j < σ.length then some none else σ[j]?
  | [], j => by simp [wipe]
  | v :: vs, j => by
    unfold wipe
    by_cases hj : j = v
    · subst hj
      by_cases hl : j < σ.length
      · rw [List.getElem?_set_self (by rw [wipe_length]; exact hl), if_pos ⟨List.mem_cons_self, hl⟩]
      · rw [if_neg (fun z => hl z.2), List.getElem?_eq_none (by rw [List.length_set, wipe_length]; omega), List.getElem?_eq_none (by omega)]
    · rw [List.getElem?_set_ne (Ne.symm hj), wipe_get]
      simp [hj]
theorem Off.wipe {vs : List Nat} {σ σ' : Stt} (h : Off vs σ σ') : L2.wipe σ' vs = L2.wipe σ vs := by
  apply List.ext_getElem?
  intro j
  rw [wipe_get, wipe_get, h.1]
  by_cases hj : j ∈ vs
  · by_cases hl : j < σ.length
    · rw [if_pos ⟨hj, hl⟩, if_pos ⟨hj, hl⟩]
    · rw [if_neg (fun z => hl z.2), if_neg (fun z => hl z.2), List.getElem?_eq_none (by rw [h.1]; omega), List.getElem?_eq_none (by omega)]
  · rw [if_neg (fun z => hj z.1), if_neg (fun z => hj z.1), h.2 j hj]
def liftG (K : PySem.W.Frag) (np : Nat) (vs : List Nat) (g : DTG) : TG := fun v σ H Q => ∃ B G ρ d kd, B.P.length = np ∧ EnvOk K B G ρ σ H ∧ Rp K G v d ∧ g d ρ kd ∧
  ∀ ρ' σ' , EnvOk K B G ρ' σ' H → Off vs σ σ' → kd ρ' → Q σ' H
def liftGs (K : PySem.W.Frag) (np : Nat) (vs : List Nat) (g : DTGs) : TGs := fun xs σ H Q => ∃ B G ρ ds kd, B.P.length = np ∧ EnvOk K B G ρ σ H ∧ RpL K G xs ds ∧ g ds ρ kd ∧
  ∀ ρ' σ' , EnvOk K B G ρ' σ' H → Off vs σ σ' → kd ρ' → Q σ' H

section
variable {X : Cx} {e c o : Expr} {es : List Expr} {st : Stmt} {sts : List Stmt} {te : DTE} {tc : DTT} {t u : DTS} {np : Nat} {pos pos' : Pos}
theorem _root_.L2.PG.mo {g : Expr} {t t' : TG} (h : PG X g t) (m : ∀ v σ H Q, t' v σ H Q → t v σ H Q) : PG X g t' := ⟨fun pins s σ H v u Q I r q => h.run pins s σ H v u Q I r (m _ _ _ _ q)⟩
theorem _root_.L2.PGs.mo {g : List Expr} {t t' : TGs} (h : PGs X g t) (m : ∀ v σ H Q, t' v σ H Q → t v σ H Q) : PGs X g t' := ⟨fun pins s σ H v u Q I r q => h.run pins s σ H v u Q I r (m _ _ _ _ q)⟩
theorem ds_nil : PSs X [] (liftS X.K np dNext) := pss_nil.mo fun D σ H ⟨B, G, ρ, Dd, hn, eo, h, k, _⟩ => k _ _ _ _ (.refl _) eo h
theorem ds_cons (h1 : PS X st (liftS X.K np t)) (h2 : PSs X sts (liftS X.K np u)) : PSs X (st :: sts) (liftS X.K np (dSeq t u)) := by
  refine (pss_cons h1 h2).mo fun D σ H h => ?_
  obtain ⟨B, G, ρ, Dd, hn, eo, h, k1, k2, k3, k4⟩ := h
  refine ⟨B, G, ρ, _, hn, eo, h, fun G1 ρ1 σ1 H1 s1 e1 q1 => ?_, k2, k3, k4⟩
  exact ⟨B, G1, ρ1, Dd, hn, e1, q1, fun G' ρ' σ' H' s e q => k1 _ _ _ _ (s1.trans s) e q, fun G' v r ρ' σ' H' s e q => k2 _ _ _ _ _ _ (s1.trans s) e q, fun G' ρ' σ' H' s e q => k3 _ _ _ _ (s1.trans s) e q, fun G' ρ' σ' H' s e q => k4 _ _ _ _ (s1.trans s) e q⟩
theorem ds_one (h1 : PS X st (liftS X.K np t)) : PSs X [st] (liftS X.K np t) := pss_one h1
theorem ds_ret (h : PE X e (lift X.K np te)) : PS X (.Return (some e) pos) (liftS X.K np (dRet te)) :=
  (ps_ret h).mo fun D σ H ⟨B, G, ρ, Dd, hn, eo, h, k1, k2, k3, k4⟩ => ⟨B, G, ρ, _, hn, eo, h, fun G' v r ρ' H' s f q => k2 _ _ _ _ _ _ s f q⟩
theorem ds_retN : PS X (.Return none pos) (liftS X.K np dRetN) :=
  ps_retN.mo fun D σ H ⟨B, G, ρ, Dd, hn, eo, h, k1, k2, k3, k4⟩ => k2 _ _ _ _ _ _ (.refl _) (eo.dat .non) h
theorem ds_expr (h : PE X e (lift X.K np te)) (hs : swapsWith e none pos.line X.env = pure false := by rfl) : PS X (.Expr e pos) (liftS X.K np (dDrop te)) :=
  (ps_expr h hs).mo fun D σ H ⟨B, G, ρ, Dd, hn, eo, h, k1, k2, k3, k4⟩ => ⟨B, G, ρ, _, hn, eo, h, fun G' v r ρ' H' s f q => k1 _ _ _ _ s f.env q⟩
theorem ds_if (hc : PT X c (liftT X.K np tc)) {sa sb : List Stmt} (ha : PSs X sa (liftS X.K np t)) (hb : PSs X sb (liftS X.K np u)) : PS X (.If c sa sb pos) (liftS X.K np (dIf tc t u)) := by
  refine (ps_if hc ha hb).mo fun D σ H h => ?_
  obtain ⟨B, G, ρ, Dd, hn, eo, h, k1, k2, k3, k4⟩ := h
  refine ⟨B, G, ρ, _, hn, eo, h, fun G1 c ρ1 H1 s1 e1 q1 => ?_⟩
  cases c with
  | true => exact iteT ⟨B, G1, ρ1, Dd, hn, e1, q1, fun G' ρ' σ' H' s e q => k1 _ _ _ _ (s1.trans s) e q, fun G' v r ρ' σ' H' s e q => k2 _ _ _ _ _ _ (s1.trans s) e q, fun G' ρ' σ' H' s e q => k3 _ _ _ _ (s1.trans s) e q, fun G' ρ' σ' H' s e q => k4 _ _ _ _ (s1.trans s) e q⟩
  | false => exact iteF ⟨B, G1, ρ1, Dd, hn, e1, q1, fun G' ρ' σ' H' s e q => k1 _ _ _ _ (s1.trans s) e q, fun G' v r ρ' σ' H' s e q => k2 _ _ _ _ _ _ (s1.trans s) e q, fun G' ρ' σ' H' s e q => k3 _ _ _ _ (s1.trans s) e q, fun G' ρ' σ' H' s e q => k4 _ _ _ _ (s1.trans s) e q⟩
theorem ds_never : PS X st (liftS X.K np dNever) := ps_never.mo fun _ _ _ ⟨_, _, _, _, _, _, h, _⟩ => h
theorem dss_never : PSs X sts (liftS X.K np dNever) := pss_never.mo fun _ _ _ ⟨_, _, _, _, _, _, h, _⟩ => h
theorem ds_pass : PS X (.Pass pos) (liftS X.K np dNext) := ps_pass.mo fun D σ H ⟨B, G, ρ, Dd, hn, eo, h, k, _⟩ => k _ _ _ _ (.refl _) eo h
def dBreak : DTS := fun D ρ => D.bk ρ
def dCont : DTS := fun D ρ => D.ct ρ
theorem ds_break : PS X (.Break pos) (liftS X.K np dBreak) := ps_break.mo fun D σ H ⟨B, G, ρ, Dd, hn, eo, h, _, _, k, _⟩ => k _ _ _ _ (.refl _) eo h
theorem ds_cont : PS X (.Continue pos) (liftS X.K np dCont) := ps_continue.mo fun D σ H ⟨B, G, ρ, Dd, hn, eo, h, _, _, _, k⟩ => k _ _ _ _ (.refl _) eo h
theorem put_ok {B : Bs} {G : Hp} {ρ : Env} {σ : Stt} {H : Hp} {v : V} {r : Rs} {i : Nat} {k : Env → Prop} (hn : B.P.length = np) (f : Fin X.K B G ρ σ H v r) (h : dPut np i r ρ k) : ∃ ρ', EnvOk X.K B G ρ' (σ.set i (some v)) H ∧ k ρ' := by
  obtain ⟨ω, e, q⟩ := f
  cases r with
  | dat d => exact ⟨_, e.setD q, h⟩
  | sl j => exact h.elim
  | nw s => exact ⟨_, e.setN q.1 q.2 (by rw [hn]; exact h.1), h.2⟩
theorem ds_set (i : Nat) {x : Str} (hN : X.N.Nodup) (h : PE X e (lift X.K np te)) (hi : X.N[i]? = some x := by rfl) (hx : Loc X.env.scope x := by first | exact Or.inl rfl | exact Or.inr rfl)
    (hs : swapsWith e (some (.Name x pos')) pos.line X.env = pure false := by rfl) (hf : X.fn x = true ∨ X.env.scope.names.lookup x = some .local := by first | exact .inl rfl | exact .inr rfl) :
    PS X (.Assign [.Name x pos'] e pos) (liftS X.K np (dSet np i te)) := by
  refine (ps_set (i := i) hN hi hx h hs hf).mo fun D σ H h => ?_
  obtain ⟨B, G, ρ, Dd, hn, eo, h, k1, k2, k3, k4⟩ := h
  refine ⟨B, G, ρ, _, hn, eo, h, fun G1 v r ρ1 H1 s1 f1 q1 => ?_⟩
  obtain ⟨ρ', e', q⟩ := put_ok hn f1 q1
  exact k1 _ _ _ _ s1 e' q
theorem dg_name (i : Nat) {x : Str} (hN : X.N.Nodup) (hi : X.N[i]? = some x := by rfl) (hx : Loc X.env.scope x := by first | exact Or.inl rfl | exact Or.inr rfl) (hf : X.fn x = true ∨ X.env.scope.names.lookup x = some .local := by first | exact .inl rfl | exact .inr rfl) :
    PG X (.Name x pos) (liftG X.K np [i] (hName i)) := by
  refine (pg_name (i := i) hN hi hx hf).mo fun v σ H Q h => ?_
  obtain ⟨B, G, ρ, d, kd, hn, ⟨ω, eo⟩, r, h, k⟩ := h
  exact k _ _ (eo.setD r) ⟨List.length_set .., fun j hj => List.getElem?_set_ne (fun z => hj (by simp [z]))⟩ h
theorem dg_nil : PGs X [] (liftGs X.K np [] hNil) := by
  refine pgs_nil.mo fun vs σ H Q h => ?_
  obtain ⟨B, G, ρ, ds, kd, hn, eo, r, h, k⟩ := h
  obtain ⟨rfl, h⟩ := h
  cases r
  exact ⟨rfl, k _ _ eo (.refl _ _) h⟩
theorem dg_cons {vs ws : List Nat} {g : DTG} {gs : DTGs} (h1 : PG X e (liftG X.K np vs g)) (h2 : PGs X es (liftGs X.K np ws gs)) (hs : (assignEach (e :: es) X.env).map (·.2) = assign e X.env :: (assignEach es X.env).map (·.2) := by rfl) :
    PGs X (e :: es) (liftGs X.K np (vs ++ ws) (hCons g gs)) := by
  refine (pgs_cons h1 h2 hs).mo fun xs σ H Q h => ?_
  obtain ⟨B, G, ρ, ds, kd, hn, eo, r, h, k⟩ := h
  cases r with
  | nil => exact h.elim
  | cons r rr =>
    refine ⟨_, _, rfl, B, G, ρ, _, _, hn, eo, r, h, fun ρ1 σ1 e1 o1 q1 => ?_⟩
    exact ⟨B, G, ρ1, _, _, hn, e1, rr, q1, fun ρ2 σ2 e2 o2 q2 => k _ _ e2 ((o1.mono fun j hj => List.mem_append_left _ hj).trans (o2.mono fun j hj => List.mem_append_right _ hj)) q2⟩
theorem dg_tup {vs : List Nat} {gs : DTGs} {kk n : Nat} (hc : X.calm = true) (h : PGs X es (liftGs X.K np vs gs)) (hn : (assignEach es X.env).length = n := by rfl) (hst : (assignEach es X.env).findIdx? (·.1) = none := by rfl) :
    PG X (.Tuple es kk pos) (liftG X.K np vs (hTup n gs)) := by
  refine (pg_tup hc h hn hst).mo fun v σ H Q h => ?_
  obtain ⟨B, G, ρ, d, kd, hp, ⟨ω, eo⟩, r, h, k⟩ := h
  cases d with
  | tup xs =>
    obtain ⟨a, ws, rfl, ht, rr⟩ := (Rp.rd (H := H) r).tup
    exact ⟨a, ws, rfl, seqT eo.gle ht, by rw [rr.length]; exact h.1, B, G, ρ, xs, kd, hp, ⟨ω, eo⟩, rr, h.2, k⟩
  | _ => exact h.elim
theorem ds_asg {tg : Expr} {g : DTG} {vs : List Nat} (he : PE X e (lift X.K np te)) (hg : PG X tg (liftG X.K np vs g)) (hs : swapsWithSole [tg] e pos.line X.env = pure false := by rfl) (hw : swappedStores [tg] e X.env = pure none := by rfl)
    (h1 : (assignEach [tg] X.env).map (·.2) = [assign tg X.env] := by rfl) : PS X (.Assign [tg] e pos) (liftS X.K np (dAsg te g)) := by
  refine (ps_asg he hg hs hw h1).mo fun D σ H h => ?_
  obtain ⟨B, G, ρ, Dd, hn, eo, h, k1, k2, k3, k4⟩ := h
  refine ⟨B, G, ρ, _, hn, eo, h, fun G1 v r ρ1 H1 s1 f1 q1 => ?_⟩
  obtain ⟨G2, s2, f2⟩ := f1.stl
  cases hr : stl r with
  | dat d =>
    rw [hr] at q1 f2
    obtain ⟨ω, e2, r2⟩ := f2
    exact ⟨B, G2, ρ1, d, _, hn, ⟨ω, e2⟩, r2, q1, fun ρ' σ' e' _ q => k1 _ _ _ _ (s1.trans s2) e' q⟩
  | sl i => rw [hr] at q1; exact q1.elim
  | nw s => rw [hr] at q1; exact q1.elim
end
end TL

/-! TL6: loops and list comprehensions over trees. -/
namespace TL
open PySem PySem.Spec PyProof.Rows L2

/-! ### another base -/
section
variable {K : PySem.W.Frag} {B : Bs} {G G' : Hp} {ω ω' : Own} {ρ ρ' : Env} {σ σ' : Stt} {H H' : Hp}
def reB (B : Bs) (G : Hp) (ω : Own) (n : Nat) (H : Hp) : Bs := ⟨G, H, fun a => ∃ i, i < n ∧ ω a = some i, B.P⟩
def cutO (ω : Own) (n : Nat) : Own := fun a => match ω a with
  | some i => if i < n then some i else none
  | none => none
theorem cutO_some {n i : Nat} {a : Addr} (h : cutO ω n a = some i) : ω a = some i ∧ i < n := by
  unfold cutO at h
  split at h
  · rename_i j hj
    split at h
    · rename_i hl
      cases h
      exact ⟨hj, hl⟩
    · cases h
  · cases h
theorem cutO_lt {n i : Nat} {a : Addr} (h : ω a = some i) (hi : i < n) : cutO ω n a = some i := by
  unfold cutO
  rw [h]
  exact if_pos hi
theorem EnvW.rebase (e : EnvW K B G ω ρ σ H) : EnvW K (reB B G ω ρ.length H) G (cutO ω ρ.length) ρ σ H where
  gle := e.gle
  g0 := fun a o q => .inl q
  keep := fun a o q _ => q
  own := fun a i q => by
    obtain ⟨q1, q2⟩ := cutO_some q
    obtain ⟨h1, h2, _⟩ := e.own a i q1
    exact ⟨h1, h2, .inl ⟨i, q2, q1⟩⟩
  len := e.len
  slot := fun i s q => (e.slot i s q).mono (.refl _) fun a z => ⟨cutO_lt z (List.getElem?_eq_some_iff.mp q).1, rfl⟩
  pin := e.pin
theorem EnvW.back {n : Nat} (e : EnvW K B G ω ρ σ H) (f : EnvW K (reB B G ω n H) G' ω' ρ' σ' H') : EnvW K B G' ω' ρ' σ' H' where
  gle := f.gle
  g0 := fun a o q => by
    rcases f.g0 a o q with z | z | ⟨i, _, z⟩
    · exact e.g0 a o z
    · rcases e.gone z with y | y
      · exact .inr (.inr y)
      · exact .inr (.inl y)
    · rcases (e.own a i z).2.2 with y | y
      · exact .inr (.inr y)
      · exact .inr (.inl y)
  keep := fun a o q n => f.keep a o (e.keep a o q n) fun ⟨i, _, z⟩ => by
    rcases (e.own a i z).2.2 with y | y
    · exact n y
    · rw [y] at q; cases q
  own := fun a i q => by
    obtain ⟨h1, h2, h3⟩ := f.own a i q
    refine ⟨h1, h2, ?_⟩
    rcases h3 with ⟨j, _, z⟩ | z
    · exact (e.own a j z).2.2
    · exact e.gone z
  len := f.len
  slot := f.slot
  pin := f.pin
/-- what none owns stays -/
theorem EnvW.still {n : Nat} {D : Addr} {o : HO} (f : EnvW K (reB B G ω n H) G' ω' ρ' σ' H') (hD : H D = some o) (hw : ω D = none) (hg : G D = none) : H' D = some o ∧ ω' D = none ∧ G' D = none := by
  have na : ¬ (reB B G ω n H).A0 D := fun ⟨i, _, z⟩ => by rw [hw] at z; cases z
  refine ⟨f.keep D o hD na, ?_, ?_⟩
  · cases q : ω' D with
    | none => rfl
    | some i =>
      rcases (f.own D i q).2.2 with z | z
      · exact absurd z na
      · rw [show (reB B G ω n H).H0 D = H D from rfl, hD] at z; cases z
  · cases q : G' D with
    | none => rfl
    | some u =>
      rcases f.g0 D u q with z | z | z
      · rw [show (reB B G ω n H).G0 D = G D from rfl, hg] at z; cases z
      · rw [show (reB B G ω n H).H0 D = H D from rfl, hD] at z; cases z
      · exact absurd z na
/-- what none owns is written -/
theorem EnvW.poke (e : EnvW K B G ω ρ σ H) {D : Addr} {o : HO} (hw : ω D = none) (hg : G D = none) (h0 : B.A0 D ∨ B.H0 D = none) : EnvW K B G ω ρ σ (upd H D o) where
  gle := fun a u q => by rw [upd_ne (fun z => by subst z; rw [hg] at q; cases q)]; exact e.gle _ _ q
  g0 := e.g0
  keep := fun a u q n => by
    rw [upd_ne (fun z => by
      subst z
      rcases h0 with y | y
      · exact n y
      · rw [y] at q; cases q)]
    exact e.keep _ _ q n
  own := fun a i q => by
    obtain ⟨h1, h2, h3⟩ := e.own a i q
    refine ⟨h1, ?_, h3⟩
    rw [upd_ne (fun z => by subst z; rw [hw] at q; cases q)]
    exact h2
  len := e.len
  slot := fun i s q => (e.slot i s q).mono (.refl _) fun a z => ⟨z, upd_ne fun y => by subst y; rw [hw] at z; cases z⟩
  pin := e.pin
end

/-! ### what is walked -/
abbrev DTI := Env → (List D → Env → Prop) → Prop
structure ItD (K : PySem.W.Frag) (J : It) (G : Hp) (ds : List D) : Prop where
  go : ∀ i H d, Same G H → ds[i]? = some d → J.go i H ∧ ∀ x H', J.yld i H x H' → (H' = H ∧ Rp K G x d) ∨ ∃ T vs es, H T = none ∧ x = .ref T ∧ H' = upd H T (.tup vs) ∧ d = .tup es ∧ RpL K G vs es
  stop : ∀ i H, Same G H → ds.length ≤ i → J.stop i H
def liftI (K : PySem.W.Frag) (np : Nat) (t : DTI) : TI := fun σ H R => ∃ B G ρ Qd, B.P.length = np ∧ EnvOk K B G ρ σ H ∧ t ρ Qd ∧
  ∀ G' ds ρ' H' J, Same G G' → EnvOk K B G' ρ' σ H' → ItD K J G' ds → Qd ds ρ' → R J H'
def iSeq (t : DTE) : DTI := fun ρ Q => t ρ fun r ρ1 => match stl r with
  | .dat (.lst xs) => Q xs ρ1
  | .dat (.tup xs) => Q xs ρ1
  | .dat (.scr ns) => Q (ns.map .int) ρ1
  | _ => False
def iStr (t : DTE) : DTI := fun ρ Q => t ρ fun r ρ1 => match r with
  | .dat (.str z) => Q (z.cps.toList.map fun c => .str ⟨#[c]⟩) ρ1
  | _ => False
def rangeD (lo : Int) (n : Nat) : List D := (List.range n).map fun (i : Nat) => .int (lo + (i : Int))
def iRange1 (t : DTA) : DTI := fun ρ Q => t ρ fun rs ρ1 => match datL rs with
  | some [.int j] => -(2 ^ 62) ≤ j ∧ j < 2 ^ 62 ∧ Q (rangeD 0 j.toNat) ρ1
  | _ => False
def iRange2 (t : DTA) : DTI := fun ρ Q => t ρ fun rs ρ1 => match datL rs with
  | some [.int i, .int j] => (-(2 ^ 62) ≤ i ∧ i < 2 ^ 62 ∧ -(2 ^ 62) ≤ j ∧ j < 2 ^ 62) ∧ Q (rangeD i (j - i).toNat) ρ1
  | _ => False
def enumD (xs : List D) : List D := xs.zipIdx.map fun p => .tup [.int p.2, p.1]
def iEnum (t : DTA) : DTI := fun ρ Q => t ρ fun rs ρ1 => match datL rs with
  | some [.lst xs] => Q (enumD xs) ρ1
  | _ => False
section
variable {X : Cx} {tg e : Expr} {es : List Expr} {te : DTE} {ta : DTA} {np : Nat} {p pos : Pos}
theorem _root_.L2.PI.mo {i : Expr} {t t' : TI} (h : PI X tg i t) (m : ∀ σ H Q, t' σ H Q → t σ H Q) : PI X tg i t' := ⟨fun pins s σ H Q I q => h.run pins s σ H Q I (m _ _ _ q)⟩
theorem itd_list {K : PySem.W.Frag} {G : Hp} {a : Addr} {vs : List V} {ds : List D} (h : SqL K G a vs) (r : RpL K G vs ds) : ItD K (Itl K a) G ds where
  go := fun i H d s q => by
    obtain ⟨v, h1, h2⟩ := r.get q
    exact ⟨⟨vs, v, s.seq h, h1⟩, fun x H' y => .inl ⟨y.1, by
      have := y.2 vs (s.seq h)
      rw [h1] at this
      cases this
      exact h2⟩⟩
  stop := fun i H s q => ⟨vs, s.seq h, by rw [r.length]; exact q⟩
theorem itd_tup {K : PySem.W.Frag} {G : Hp} {a : Addr} {vs : List V} {ds : List D} (h : SqT K G a vs) (r : RpL K G vs ds) : ItD K (Itt K a) G ds where
  go := fun i H d s q => by
    obtain ⟨v, h1, h2⟩ := r.get q
    exact ⟨⟨vs, v, seqT s h, h1⟩, fun x H' y => .inl ⟨y.1, by
      have := y.2 vs (seqT s h)
      rw [h1] at this
      cases this
      exact h2⟩⟩
  stop := fun i H s q => ⟨vs, seqT s h, by rw [r.length]; exact q⟩
theorem PI_or {i : Expr} {t t' : TI} (h : PI X tg i t) (h' : PI X tg i t') : PI X tg i (fun σ H R => t σ H R ∨ t' σ H R) := ⟨fun pins s σ H R I q => q.elim (h.run pins s σ H R I) (h'.run pins s σ H R I)⟩
/-- an expression that is a list or a tuple: which one is known when it is there -/
theorem pi_seq {l : Expr} {tl : TE} (hl : PE X l tl) : PI X tg l (fun σ H R => tl σ H fun x H1 => ∃ a, x = .ref a ∧ (((∃ xs, SqL X.K H1 a xs) ∧ R (Itl X.K a) H1) ∨ ((∃ xs, SqT X.K H1 a xs) ∧ R (Itt X.K a) H1))) := by
  refine ⟨fun pins s σ H R I h => ?_⟩
  refine thn (hl.run pins s σ H _ I h) fun v s1 ⟨x, H1, I1, r1, q1⟩ => ?_
  obtain ⟨a, rfl, q1⟩ := q1
  cases r1
  rcases q1 with ⟨⟨xs, hq⟩, q⟩ | ⟨⟨xs, hq⟩, q⟩
  · obtain ⟨its, rv, p, hz⟩ := I1.list hq
    refine wpAny_pyIter_list p.isList ?_
    have fr := I1.hok.fresh (Nat.le_refl s1.heap.objs.size)
    refine ⟨_, [s1.heap.objs.size], _, Itl X.K a, H1, rfl, I1.kept (t' := s1.toks) fun b o e => Heap.get?_push_of_some _ e, turn_list a _, ⟨_, Heap.get?_push_size _ rfl, rfl, rfl⟩, fun b hb => ?_, q⟩
    cases List.mem_singleton.mp hb
    exact I1.fpOk (Nat.le_refl _) fr
  · obtain ⟨its, rv, p, hz⟩ := I1.tuple hq
    refine wpAny_pyIter_tuple (show s1.heap.IsTuple a its.toArray from p) ?_
    have fr := I1.hok.fresh (Nat.le_refl s1.heap.objs.size)
    refine ⟨_, [s1.heap.objs.size], _, Itt X.K a, H1, rfl, I1.kept (t' := s1.toks) fun b o e => Heap.get?_push_of_some _ e, turn_tuple a _, ⟨_, Heap.get?_push_size _ rfl, rfl, rfl⟩, fun b hb => ?_, q⟩
    cases List.mem_singleton.mp hb
    exact I1.fpOk (Nat.le_refl _) fr
theorem di_seq (he : PE X e (lift X.K np te)) : PI X tg e (liftI X.K np (iSeq te)) := by
  refine (pi_seq he).mo fun σ H R h => ?_
  obtain ⟨B, G, ρ, Qd, hn, eo, h, k⟩ := h
  refine ⟨B, G, ρ, _, hn, eo, h, fun G1 v r ρ1 H1 s1 f1 q1 => ?_⟩
  obtain ⟨G2, s2, f2⟩ := f1.stl
  obtain ⟨ω, e2, r2⟩ := f2
  split at q1
  · rename_i xs hr
    rw [hr] at r2
    obtain ⟨a, vs, rfl, h1, rr⟩ := (Rp.rd (H := H1) r2).lst e2.gle
    have hg : G2 a = some (.lst vs) := by
      cases r2 with
      | lst g rr' =>
        have := e2.gle _ _ g
        rw [h1] at this
        cases this
        exact g
    exact ⟨a, rfl, .inl ⟨⟨vs, .of h1⟩, k _ _ _ _ _ (s1.trans s2) ⟨ω, e2⟩ (itd_list (.of hg) rr) q1⟩⟩
  · rename_i xs hr
    rw [hr] at r2
    obtain ⟨a, vs, rfl, h1, rr⟩ := (Rp.rd (H := H1) r2).tup
    exact ⟨a, rfl, .inr ⟨⟨vs, seqT e2.gle h1⟩, k _ _ _ _ _ (s1.trans s2) ⟨ω, e2⟩ (itd_tup h1 rr) q1⟩⟩
  · rename_i ns hr
    rw [hr] at r2
    obtain ⟨a, rfl, h1⟩ := (Rp.rd (H := H1) r2).scr
    exact ⟨a, rfl, .inl ⟨⟨_, e2.gle.seq h1⟩, k _ _ _ _ _ (s1.trans s2) ⟨ω, e2⟩ (itd_list h1 (RpL.ints ns)) q1⟩⟩
  · exact q1.elim
theorem di_str (he : PE X e (lift X.K np te)) : PI X tg e (liftI X.K np (iStr te)) := by
  refine (pi_str he).mo fun σ H R h => ?_
  obtain ⟨B, G, ρ, Qd, hn, eo, h, k⟩ := h
  refine ⟨B, G, ρ, _, hn, eo, h, fun G1 v r ρ1 H1 s1 f1 q1 => ?_⟩
  obtain ⟨ω, e1, r1⟩ := f1
  split at q1
  · rename_i z
    refine ⟨z, RdV.str (.inl r1) (H := H1), k _ _ _ _ _ s1 ⟨ω, e1⟩ ⟨fun i H' d s q => ?_, fun i H' s q => ?_⟩ q1⟩
    · rw [List.getElem?_map] at q
      cases hc : z.cps.toList[i]? with
      | none => rw [hc] at q; cases q
      | some c =>
        rw [hc] at q
        cases q
        rw [Array.getElem?_toList] at hc
        refine ⟨(Array.getElem?_eq_some_iff.mp hc).1, fun x H'' y => .inl ⟨y.1, ?_⟩⟩
        obtain ⟨_, c', e2, rfl⟩ := y
        rw [hc] at e2
        cases e2
        exact .str _
    · rw [List.length_map, Array.length_toList] at q
      exact q
  · exact q1.elim
theorem rangeD_get {lo : Int} {n i : Nat} {d : D} (h : (rangeD lo n)[i]? = some d) : i < n ∧ d = .int (lo + (i : Int)) := by
  unfold rangeD at h
  rw [List.getElem?_map] at h
  by_cases hi : i < n
  · rw [List.getElem?_range hi] at h
    cases h
    exact ⟨hi, rfl⟩
  · rw [List.getElem?_eq_none (by simpa using hi)] at h
    cases h
theorem itd_range (K : PySem.W.Frag) (G : Hp) (lo : Int) (n : Nat) : ItD K (Itr lo n) G (rangeD lo n) where
  go := fun i H d s q => by
    obtain ⟨hi, rfl⟩ := rangeD_get q
    exact ⟨hi, fun x H' y => .inl ⟨y.1, by rw [y.2]; exact .int _⟩⟩
  stop := fun i H s q => by
    unfold rangeD at q
    show n ≤ i
    simpa using q
theorem di_range1 {a : Expr} (hg : Gl X "range") (hm : X.mg "range" = none) (ha : PA X [a] (liftA X.K np ta)) (hs : starEach [a] X.env = [(false, eval a X.env)] := by rfl) : PI X tg (.Call (.Name "range" p) [a] [] pos) (liftI X.K np (iRange1 ta)) := by
  refine (pi_range1 hg hm ha hs).mo fun σ H R h => ?_
  obtain ⟨B, G, ρ, Qd, hn, eo, h, k⟩ := h
  refine ⟨B, G, ρ, _, hn, eo, h, fun G1 vs rs ρ1 H1 s1 e1 ar q1 => ?_⟩
  split at q1
  · rename_i j hd
    have rr := ar.dat hd
    cases rr with
    | cons r rr =>
      cases rr
      cases r
      exact ⟨j, rfl, q1.1, q1.2.1, k _ _ _ _ _ s1 e1 (itd_range _ _ _ _) q1.2.2⟩
  · exact q1.elim
theorem di_range2 {a b : Expr} (hg : Gl X "range") (hm : X.mg "range" = none) (ha : PA X [a, b] (liftA X.K np ta)) (hs : starEach [a, b] X.env = [(false, eval a X.env), (false, eval b X.env)] := by rfl) (hs2 : starEach [b] X.env = [(false, eval b X.env)] := by rfl) :
    PI X tg (.Call (.Name "range" p) [a, b] [] pos) (liftI X.K np (iRange2 ta)) := by
  refine (pi_range2 hg hm ha hs hs2).mo fun σ H R h => ?_
  obtain ⟨B, G, ρ, Qd, hn, eo, h, k⟩ := h
  refine ⟨B, G, ρ, _, hn, eo, h, fun G1 vs rs ρ1 H1 s1 e1 ar q1 => ?_⟩
  split at q1
  · rename_i i j hd
    have rr := ar.dat hd
    cases rr with
    | cons r rr =>
      cases rr with
      | cons r' rr =>
        cases rr
        cases r
        cases r'
        exact ⟨i, j, rfl, q1.1, k _ _ _ _ _ s1 e1 (itd_range _ _ _ _) q1.2⟩
  · exact q1.elim
end

/-! ### for -/
def dForL (g : DTG) (tb : DTS) (E : DEnds) : List D → Env → Prop
  | [], ρ => E.nx ρ
  | d :: ds, ρ => g d ρ fun ρ1 => tb { nx := dForL g tb E ds, rt := E.rt, bk := E.nx, ct := dForL g tb E ds } ρ1
def dFor (ti : DTI) (g : DTG) (tb : DTS) : DTS := fun D ρ => ti ρ fun ds ρ1 => dForL g tb D ds ρ1
section
variable {X : Cx} {tg iter : Expr} {body : List Stmt} {ti : DTI} {g : DTG} {tb : DTS} {vs : List Nat} {np : Nat} {pos : Pos}
theorem ds_for (hp : PassesOwn (model X.prog X.w) X.A X.env X.xe) (hc : X.calm = true) (hi : PI X tg iter (liftI X.K np ti)) (hg : PG X tg (liftG X.K np vs g)) (hb : PSs X body (liftS X.K np tb))
    (hs : ∀ x, foldedSetIterable iter X.env x = pure x := by intro _; rfl) : PS X (.For tg iter body [] pos) (liftS X.K np (dFor ti g tb)) := by
  refine (ps_for hp hc hi hg hb hs).mo fun D σ H h => ?_
  obtain ⟨B, G, ρ, Dd, hn, eo, h, k1, k2, k3, k4⟩ := h
  refine ⟨B, G, ρ, _, hn, eo, h, fun G1 ds ρ1 H1 J s1 e1 it q1 => ?_⟩
  refine ⟨fun i m σ H => ∃ G' ρ', Same G1 G' ∧ EnvOk X.K B G' ρ' σ H ∧ m = ds.length - i ∧ i ≤ ds.length ∧ dForL g tb Dd (ds.drop i) ρ', ⟨ds.length, G1, ρ1, .refl _, e1, by simp, Nat.zero_le _, by rw [List.drop_zero]; exact q1⟩, ?_⟩
  rintro i m σ H ⟨G', ρ', s', e', rfl, hi', q'⟩
  obtain ⟨ω', e'⟩ := e'
  have ss := s1.trans s'
  by_cases hlt : i < ds.length
  · rw [List.drop_eq_getElem_cons hlt] at q'
    have gd : ds[i]? = some ds[i] := List.getElem?_eq_getElem hlt
    obtain ⟨hgo, hy⟩ := it.go i H ds[i] (fun a o q => e'.gle a o (s' a o q)) gd
    refine .inr ⟨hgo, fun σ2 H2 => ∃ G2 ρ2, Same G1 G2 ∧ EnvOk X.K B G2 ρ2 σ2 H2 ∧ dForL g tb Dd (ds.drop (i + 1)) ρ2, fun σ2 H2 ⟨G2, ρ2, s2, e2, q2⟩ => ⟨ds.length - (i + 1), by omega, G2, ρ2, s2, e2, rfl, hlt, q2⟩, fun x H2 y => ?_⟩
    have go : ∀ G2, Same G' G2 → EnvOk X.K B G2 ρ' σ H2 → Rp X.K G2 x ds[i] → liftG X.K np vs g x σ H2 fun σ2 H2 => liftS X.K np tb { D with nx := fun σ2 H2 => ∃ G2 ρ2, Same G1 G2 ∧ EnvOk X.K B G2 ρ2 σ2 H2 ∧ dForL g tb Dd (ds.drop (i + 1)) ρ2, ct := fun σ2 H2 => ∃ G2 ρ2, Same G1 G2 ∧ EnvOk X.K B G2 ρ2 σ2 H2 ∧ dForL g tb Dd (ds.drop (i + 1)) ρ2, bk := D.nx } σ2 H2 := fun G2 s2 e2 r2 => by
      refine ⟨B, G2, ρ', ds[i], _, hn, e2, r2, q', fun ρ3 σ3 e3 _ q3 => ?_⟩
      exact ⟨B, G2, ρ3, _, hn, e3, q3, fun G4 ρ4 σ4 H4 s4 e4 q4 => ⟨G4, ρ4, (s'.trans s2).trans s4, e4, q4⟩, fun G4 v r ρ4 σ4 H4 s4 e4 q4 => k2 _ _ _ _ _ _ ((ss.trans s2).trans s4) e4 q4,
        fun G4 ρ4 σ4 H4 s4 e4 q4 => k1 _ _ _ _ ((ss.trans s2).trans s4) e4 q4, fun G4 ρ4 σ4 H4 s4 e4 q4 => ⟨G4, ρ4, (s'.trans s2).trans s4, e4, q4⟩⟩
    rcases hy x H2 y with ⟨rfl, r2⟩ | ⟨T, ws, es, hT, rfl, rfl, ed, rr⟩
    · exact go G' (.refl _) ⟨ω', e'⟩ (r2.mono s')
    · obtain ⟨sg, f⟩ := e'.newT hT (rr.mono s')
      obtain ⟨ω2, e2, r2⟩ := f
      exact go _ sg ⟨ω2, e2⟩ (by rw [ed]; exact r2)
  · have ei : i = ds.length := by omega
    subst ei
    rw [List.drop_length] at q'
    exact .inl ⟨it.stop _ _ (fun a o q => e'.gle a o (s' a o q)) (Nat.le_refl _), k1 _ _ _ _ ss ⟨ω', e'⟩ q'⟩
end

/-! ### list comprehensions -/
def frO : Option Sl → Sl
  | some (.fr d) => .fr d
  | _ => .un
/-- the block's own names forgotten -/
def wipeE (ρ : Env) : List Nat → Env
  | [] => ρ
  | v :: vs => (wipeE ρ vs).set v .un
/-- the names outside again -/
def resto (ρ0 ρ : Env) : List Nat → Env
  | [] => ρ
  | v :: vs => (resto ρ0 ρ vs).set v (frO ρ0[v]?)
def dLcL (g : DTG) (tt : DTT) (te : DTE) (vs : List Nat) (ρ0 : Env) : List D → List D → Env → (Rs → Env → Prop) → Prop
  | [], acc, ρ, Q => Q (.nw (.ls acc)) (resto ρ0 ρ vs)
  | d :: ds, acc, ρ, Q => g d (wipeE ρ vs) fun ρ1 => tt ρ1 fun b ρ2 => if b = true then te ρ2 fun r ρ3 => (match stl r with
      | .dat x => acc.length < sizeLine ∧ dLcL g tt te vs ρ0 ds (acc ++ [x]) ρ3 Q
      | _ => False)
    else dLcL g tt te vs ρ0 ds acc ρ2 Q
def dLc (ti : DTI) (g : DTG) (tt : DTT) (te : DTE) (vs : List Nat) : DTE := fun ρ Q => ti ρ fun ds ρ1 => dLcL g tt te vs ρ1 ds [] ρ1 Q
def dYes : DTT := fun ρ Q => Q true ρ
section
variable {K : PySem.W.Frag} {B : Bs} {G : Hp} {ω : Own} {ρ ρ0 : Env} {σ : Stt} {H : Hp}
theorem wipeE_length (ρ : Env) : ∀ vs, (wipeE ρ vs).length = ρ.length
  | [] => rfl
  | v :: vs => by unfold wipeE; rw [List.length_set, wipeE_length ρ vs]
theorem resto_length (ρ0 ρ : Env) : ∀ vs, (resto ρ0 ρ vs).length = ρ.length
  | [] => rfl
  | v :: vs => by unfold resto; rw [List.length_set, resto_length ρ0 ρ vs]
theorem wipeE_get : ∀ {vs : List Nat} {j : Nat}, (wipeE ρ vs)[j]? = if j ∈ vs ∧ j < ρ.length then some .un else ρ[j]?
  | [], j => by simp [wipeE]
  | v :: vs, j => by
    unfold wipeE
    by_cases hj : j = v
    · subst hj
      by_cases hl : j < ρ.length
      · rw [List.getElem?_set_self (by rw [wipeE_length]; exact hl), if_pos ⟨List.mem_cons_self, hl⟩]
      · rw [if_neg (fun z => hl z.2), List.getElem?_eq_none (by rw [List.length_set, wipeE_length]; omega), List.getElem?_eq_none (by omega)]
    · rw [List.getElem?_set_ne (Ne.symm hj), wipeE_get]
      simp [hj]
theorem resto_get : ∀ {vs : List Nat} {j : Nat}, (resto ρ0 ρ vs)[j]? = if j ∈ vs ∧ j < ρ.length then some (frO ρ0[j]?) else ρ[j]?
  | [], j => by simp [resto]
  | v :: vs, j => by
    unfold resto
    by_cases hj : j = v
    · subst hj
      by_cases hl : j < ρ.length
      · rw [List.getElem?_set_self (by rw [resto_length]; exact hl), if_pos ⟨List.mem_cons_self, hl⟩]
      · rw [if_neg (fun z => hl z.2), List.getElem?_eq_none (by rw [List.length_set, resto_length]; omega), List.getElem?_eq_none (by omega)]
    · rw [List.getElem?_set_ne (Ne.symm hj), resto_get]
      simp [hj]
/-- the environment within the block -/
theorem EnvW.wipe (e : EnvW K B G ω ρ σ H) {σ' : Stt} {vs : List Nat} (o : Off vs σ σ') : EnvW K B G ω (wipeE ρ vs) (L2.wipe σ vs) H where
  gle := e.gle
  g0 := e.g0
  keep := e.keep
  own := e.own
  len := by rw [wipeE_length, wipe_length]; exact e.len
  slot := fun j s q => by
    rw [wipeE_get] at q
    split at q
    · cases q; trivial
    · rename_i n
      refine (e.slot j s q).ov ?_
      have hl := (List.getElem?_eq_some_iff.mp q).1
      rw [wipe_get, if_neg (fun z => n ⟨z.1, by rw [e.len]; exact z.2⟩)]
  pin := fun j s v q o' p => by
    rw [wipeE_get] at q
    split at q
    · cases q; cases o'
    · rename_i n
      rw [wipe_get, if_neg (fun z => n ⟨z.1, by rw [e.len]; exact z.2⟩)]
      exact e.pin j s v q o' p
/-- .. from any slots that agree off the block's -/
theorem EnvW.wipe2 {σ' : Stt} {vs : List Nat} (e : EnvW K B G ω ρ σ' H) (o : L2.wipe σ' vs = L2.wipe σ vs) : EnvW K B G ω (wipeE ρ vs) (L2.wipe σ vs) H := by
  have := e.wipe (.refl vs σ')
  rw [o] at this
  exact this
theorem frO_ok {G0 : Hp} {F : Addr → Prop} {ov : Option (Option V)} {s : Option Sl} (sg : Same G0 G) (h : ∀ t, s = some t → SlOk K G0 H F ov t) {F' : Addr → Prop} {H' : Hp} : SlOk K G H' F' ov (frO s) := by
  cases s with
  | none => trivial
  | some t =>
    cases t with
    | fr d => obtain ⟨v, e, r⟩ := h _ rfl; exact ⟨v, e, r.mono sg⟩
    | _ => trivial
/-- outside again -/
theorem EnvW.resto {vs : List Nat} {G0 H0 : Hp} {ω0 : Own} (e0 : EnvW K B G0 ω0 ρ0 σ H0) (sg : Same G0 G) (e : EnvW K B G ω ρ (L2.wipe σ vs) H) : EnvW K B G (fun a => match ω a with | some i => if i ∈ vs then none else some i | none => none) (TL.resto ρ0 ρ vs) σ H := by
  have hl : ρ.length = σ.length := by rw [e.len, wipe_length]
  have osome : ∀ {a i}, (match ω a with | some i => if i ∈ vs then none else some i | none => none) = some i → ω a = some i ∧ i ∉ vs := by
    intro a i q
    cases z : ω a with
    | none => rw [z] at q; cases q
    | some j =>
      rw [z] at q
      dsimp only at q
      split at q
      · cases q
      · rename_i n; cases q; exact ⟨rfl, n⟩
  refine ⟨e.gle, e.g0, e.keep, fun a i q => e.own a i (osome q).1, by rw [resto_length]; exact hl, fun j s q => ?_, fun j s v q o p => ?_⟩
  · rw [resto_get] at q
    split at q
    · cases q
      rename_i z
      refine frO_ok (H := H0) (F := fun a => ω0 a = some j) sg fun t ht => e0.slot j t ht
    · rename_i n
      have hj : j < ρ.length := (List.getElem?_eq_some_iff.mp q).1
      have hm : j ∉ vs := fun z => n ⟨z, hj⟩
      refine ((e.slot j s q).mono (F' := fun a => _) (.refl _) fun a z => ⟨?_, rfl⟩).ov ?_
      · show (match ω a with | some i => if i ∈ vs then none else some i | none => none) = some j
        rw [z]
        exact if_neg hm
      · rw [wipe_get, if_neg (fun z => hm z.1)]
  · rw [resto_get] at q
    split at q
    · cases q
      cases z : ρ0[j]? with
      | none => rw [z] at o; cases o
      | some t => rw [z] at o; cases t <;> cases o
    · rename_i n
      have hj : j < ρ.length := (List.getElem?_eq_some_iff.mp q).1
      have := e.pin j s v q o p
      rw [wipe_get, if_neg (fun z => n ⟨z.1, hj⟩)] at this
      exact this
end
section
variable {X : Cx} {tg iter elt : Expr} {ifs : List Expr} {scope : Scope} {own : List (Str × Nat)} {ti : DTI} {g : DTG} {tt : DTT} {te : DTE} {ws : List Nat} {np : Nat} {pos pos' : Pos}
theorem lc_ok (hw : ∀ j ∈ ws, j ∈ own.map (·.2)) (σ : Stt) (H : Hp) (Q : VK) (h : lift X.K np (dLc ti g tt te (own.map (·.2))) σ H Q) :
    tLc (liftI X.K np ti) (liftG X.K np ws g) (liftT X.K np tt) (lift X.K np te) (own.map (·.2)) σ H Q := by
  obtain ⟨B, G, ρ, Qd, hn, eo, h, k⟩ := h
  refine ⟨B, G, ρ, _, hn, eo, h, fun G1 ds ρ1 H1 J s1 e1 it q1 D hD => ?_⟩
  generalize hvs : own.map (·.2) = vs at *
  obtain ⟨ω1, e1⟩ := e1
  have d0 : B.A0 D ∨ B.H0 D = none := e1.gone hD
  have hg1 : G1 D = none := Same.none e1.gle hD
  have hw1 : ω1 D = none := by
    cases q : ω1 D with
    | none => rfl
    | some i => exact absurd hD (e1.own D i q).2.1
  refine ⟨fun i m H => ∃ G' ω' ρ' acc wa, Same G1 G' ∧ EnvW X.K B G' ω' (wipeE ρ' vs) (wipe σ vs) H ∧ ω' D = none ∧ G' D = none ∧ H D = some (.lst wa) ∧ RpL X.K G' wa acc ∧ m = ds.length - i ∧ i ≤ ds.length ∧ dLcL g tt te vs ρ1 (ds.drop i) acc ρ' Qd,
    ⟨ds.length, G1, ω1, ρ1, [], [], .refl _, (e1.poke (o := .lst []) hw1 hg1 d0).wipe (.refl vs σ), hw1, hg1, upd_same, .nil, by simp, Nat.zero_le _, by rw [List.drop_zero]; exact q1⟩, ?_⟩
  rintro i m H2 ⟨G', ω', ρ', acc, wa, s', e', hw', hg', hD', ra, rfl, hi', q'⟩
  have ss := s1.trans s'
  by_cases hlt : i < ds.length
  · rw [List.drop_eq_getElem_cons hlt] at q'
    have gd : ds[i]? = some ds[i] := List.getElem?_eq_getElem hlt
    obtain ⟨hgo, hy⟩ := it.go i H2 ds[i] (fun a o q => e'.gle a o (s' a o q)) gd
    refine .inr ⟨hgo, fun H3 => ∃ G' ω' ρ' acc wa, Same G1 G' ∧ EnvW X.K B G' ω' (wipeE ρ' vs) (wipe σ vs) H3 ∧ ω' D = none ∧ G' D = none ∧ H3 D = some (.lst wa) ∧ RpL X.K G' wa acc ∧ dLcL g tt te vs ρ1 (ds.drop (i + 1)) acc ρ' Qd,
      fun H3 ⟨G3, ω3, ρ3, acc3, wa3, s3, e3, z1, z2, z3, z4, q3⟩ => ⟨ds.length - (i + 1), by omega, G3, ω3, ρ3, acc3, wa3, s3, e3, z1, z2, z3, z4, rfl, hlt, q3⟩, fun x H3 y => ?_⟩
    -- the environment of the turn, over its own base
    have go : ∀ G3 ω3, Same G' G3 → EnvW X.K B G3 ω3 (wipeE ρ' vs) (wipe σ vs) H3 → Rp X.K G3 x ds[i] → ω3 D = none → G3 D = none → H3 D = some (.lst wa) → liftG X.K np ws g x (wipe σ vs) H3 fun σ2 H4 => wipe σ2 vs = wipe σ vs ∧ liftT X.K np tt σ2 H4 fun b H5 =>
        if b = true then lift X.K np te σ2 H5 fun y H6 => ∃ acc, H6 D = some (.lst acc) ∧ acc.length < sizeLine ∧ (∃ G' ω' ρ' acc' wa, Same G1 G' ∧ EnvW X.K B G' ω' (wipeE ρ' vs) (wipe σ vs) (upd H6 D (.lst (acc ++ [y]))) ∧ ω' D = none ∧ G' D = none ∧ (upd H6 D (.lst (acc ++ [y]))) D = some (.lst wa) ∧ RpL X.K G' wa acc' ∧ dLcL g tt te vs ρ1 (ds.drop (i + 1)) acc' ρ' Qd)
        else ∃ G' ω' ρ' acc wa, Same G1 G' ∧ EnvW X.K B G' ω' (wipeE ρ' vs) (wipe σ vs) H5 ∧ ω' D = none ∧ G' D = none ∧ H5 D = some (.lst wa) ∧ RpL X.K G' wa acc ∧ dLcL g tt te vs ρ1 (ds.drop (i + 1)) acc ρ' Qd := fun G3 ω3 s3 e3 r3 hw3 hg3 hD3 => by
      refine ⟨reB B G3 ω3 (wipeE ρ' vs).length H3, G3, wipeE ρ' vs, ds[i], _, hn, ⟨_, e3.rebase⟩, r3, q', fun ρ4 σ4 e4 o4 q4 => ?_⟩
      have ow : wipe σ4 vs = wipe σ vs := by
        rw [(o4.mono hw).wipe]
        apply List.ext_getElem?
        intro j
        rw [wipe_get, wipe_length, wipe_get]
        split <;> rfl
      refine ⟨ow, reB B G3 ω3 (wipeE ρ' vs).length H3, G3, ρ4, _, hn, e4, q4, fun G5 b ρ5 H5 s5 e5 q5 => ?_⟩
      cases b with
      | false =>
        obtain ⟨ω5, e5⟩ := e5
        obtain ⟨z1, z2, z3⟩ := e5.still hD3 hw3 hg3
        exact iteF ⟨G5, ω5, ρ5, acc, wa, (s'.trans s3).trans s5, (e3.back e5).wipe2 ow, z2, z3, z1, ra.mono (s3.trans s5), q5⟩
      | true =>
        refine iteT ⟨reB B G3 ω3 (wipeE ρ' vs).length H3, G5, ρ5, _, hn, e5, q5, fun G6 u r ρ6 H6 s6 f6 q6 => ?_⟩
        obtain ⟨G7, s7, f7⟩ := f6.stl
        obtain ⟨ω7, e7, r7⟩ := f7
        obtain ⟨z1, z2, z3⟩ := e7.still hD3 hw3 hg3
        split at q6
        · rename_i dd hr
          rw [hr] at r7
          have rlen : wa.length = acc.length := ra.length
          have s37 := ((s3.trans s5).trans s6).trans s7
          exact ⟨wa, z1, by rw [rlen]; exact q6.1, G7, ω7, ρ6, _, wa ++ [u], s'.trans s37, ((e3.back e7).poke z2 z3 d0).wipe2 ow, z2, z3, upd_same, (ra.mono s37).append (.cons r7 .nil), q6.2⟩
        · exact q6.elim
    have hD2 : ∀ T, H2 T = none → D ≠ T := fun T hT z => by subst z; rw [hD'] at hT; cases hT
    rcases hy x H3 y with ⟨rfl, r2⟩ | ⟨T, wt, es, hT, rfl, rfl, ed, rr⟩
    · exact go G' ω' (.refl _) e' (r2.mono s') hw' hg' hD'
    · obtain ⟨sg, e2⟩ := e'.newG (o := .tup wt) hT
      exact go _ ω' sg e2 (by rw [ed]; exact .tup (.inl (.inl upd_same)) ((rr.mono s').mono sg)) hw' (by rw [upd_ne (hD2 T hT)]; exact hg') (by rw [upd_ne (hD2 T hT)]; exact hD')
  · have ei : i = ds.length := by omega
    subst ei
    rw [List.drop_length] at q'
    refine .inl ⟨it.stop _ _ (fun a o q => e'.gle a o (s' a o q)) (Nat.le_refl _), ?_⟩
    have er := EnvW.resto (vs := vs) e1 s' e'
    have er2 : TL.resto ρ1 (wipeE ρ' vs) vs = TL.resto ρ1 ρ' vs := by
      apply List.ext_getElem?
      intro j
      rw [resto_get, resto_get, wipeE_get, wipeE_length]
      split
      · rfl
      · rfl
    rw [er2] at er
    obtain ⟨ωr, er, hωr⟩ : ∃ ωr, EnvW X.K B G' ωr (TL.resto ρ1 ρ' vs) σ H2 ∧ ωr D = none := ⟨_, er, by rw [hw']⟩
    refine k _ _ (.nw (.ls acc)) _ _ ss ⟨tagd ωr D σ.length, ?_, rfl, D, wa, rfl, tagd_same, hD', ra⟩ q'
    refine ⟨er.gle, er.g0, er.keep, fun a j q => ?_, er.len, fun j s q => ?_, er.pin⟩
    · unfold tagd at q
      split at q
      · rename_i ha
        subst ha
        cases q
        exact ⟨hg', by rw [hD']; simp, d0⟩
      · split at q
        · cases q
        · exact er.own a j q
    · refine (er.slot j s q).mono (.refl _) fun a z => ⟨?_, rfl⟩
      have hj : j < (TL.resto ρ1 ρ' vs).length := (List.getElem?_eq_some_iff.mp q).1
      have := er.len
      have ha : a ≠ D := fun w => by
        subst w
        rw [hωr] at z
        cases z
      unfold tagd
      rw [if_neg ha, if_neg (fun w => by rw [z] at w; have := Option.some.inj w; omega)]
      exact z
theorem d_lc (hc : X.calm = true) (hN : X.N.Nodup) (hi : PI X tg iter (liftI X.K np ti)) (ok : BlkOk X.N X.env.scope scope own)
    (hg : ∀ (s : Shared) (H : Hp) (C : Addr) (cl : List (Str × Addr)) (fp : List Addr), PG (X.blk s H scope (compEnvC scope cl C X.env) fp) tg (liftG X.K np ws g)) (ht : ∀ (s : Shared) (H : Hp) (C : Addr) (cl : List (Str × Addr)) (fp : List Addr), PTs (X.blk s H scope (compEnvC scope cl C X.env) fp) ifs (liftT X.K np tt))
    (he : ∀ (s : Shared) (H : Hp) (C : Addr) (cl : List (Str × Addr)) (fp : List Addr), PE (X.blk s H scope (compEnvC scope cl C X.env) fp) elt (lift X.K np te)) (hw : ∀ j ∈ ws, j ∈ own.map (·.2) := by decide) (hs : ∀ x, foldedSetIterable iter X.env x = pure x := by intro _; rfl) :
    PE X (.ListComp elt [⟨tg, iter, ifs, 0⟩] scope pos) (lift X.K np (dLc ti g tt te (own.map (·.2)))) := (pe_lc hc hN hi ok hg ht he hs).mo fun σ H Q h => lc_ok hw σ H Q h
/-- name = [..] -/
theorem ds_setLc (i : Nat) {y : Str} {py : Pos} (hc : X.calm = true) (hN : X.N.Nodup) (hi : PI X tg iter (liftI X.K np ti)) (ok : BlkOk X.N X.env.scope scope own)
    (hg : ∀ (s : Shared) (H : Hp) (C : Addr) (cl : List (Str × Addr)) (fp : List Addr), PG (X.blk s H scope (compEnvC scope cl C X.env) fp) tg (liftG X.K np ws g)) (ht : ∀ (s : Shared) (H : Hp) (C : Addr) (cl : List (Str × Addr)) (fp : List Addr), PTs (X.blk s H scope (compEnvC scope cl C X.env) fp) ifs (liftT X.K np tt))
    (he : ∀ (s : Shared) (H : Hp) (C : Addr) (cl : List (Str × Addr)) (fp : List Addr), PE (X.blk s H scope (compEnvC scope cl C X.env) fp) elt (lift X.K np te))
    (hsw : swapsWith (.ListComp elt [⟨tg, iter, ifs, 0⟩] scope pos) (some (.Name y py)) pos'.line X.env = pure true) (hy : X.N[i]? = some y := by rfl) (hyl : X.env.scope.names.lookup y = some .local := by rfl) (hw : ∀ j ∈ ws, j ∈ own.map (·.2) := by decide) (hs : ∀ x, foldedSetIterable iter X.env x = pure x := by intro _; rfl) :
    PS X (.Assign [.Name y py] (.ListComp elt [⟨tg, iter, ifs, 0⟩] scope pos) pos') (liftS X.K np (dSet np i (dLc ti g tt te (own.map (·.2))))) := by
  refine (ps_setLc (i := i) hc hN hy hyl hsw hi ok hg ht he hs).mo fun D σ H h => ?_
  obtain ⟨B, G, ρ, Dd, hn, eo, h, k1, k2, k3, k4⟩ := h
  refine lc_ok hw σ H _ ⟨B, G, ρ, _, hn, eo, h, fun G1 v r ρ1 H1 s1 f1 q1 => ?_⟩
  obtain ⟨ρ', e', q⟩ := put_ok hn f1 q1
  exact k1 _ _ _ _ s1 e' q
theorem dts_nil : PTs X [] (liftT X.K np dYes) := ⟨fun pins s σ H Q I ⟨B, G, ρ, Qd, hn, eo, h, k⟩ => pts_nil.run pins s σ H Q I (k _ _ _ _ (.refl _) eo h)⟩
theorem dts_one {c : Expr} (h : PT X c (liftT X.K np tt)) : PTs X [c] (liftT X.K np tt) := pts_one h
end
end TL

/-! TL7: what changes an owned list, an owned dict; parallel names; op=. -/
namespace TL
open PySem PySem.Spec PyProof.Rows L2

/-! ### methods that change an owned list -/
abbrev DMt := List D → List D → (D → List D → Prop) → Prop
def dMeth (i : Nat) (g : DMt) (t : DTA) : DTE := fun ρ Q => (∃ xs, ρ[i]? = some (.ls xs)) ∧ t ρ fun rs ρ1 => match ρ1[i]?, vals ρ1 rs with
  | some (.ls xs), some ds => g xs ds fun d ys => Q (.dat d) (ρ1.set i (.ls ys))
  | _, _ => False
def dMeth0 (i : Nat) (g : DMt) : DTE := fun ρ Q => match ρ[i]? with
  | some (.ls xs) => g xs [] fun d ys => Q (.dat d) (ρ.set i (.ls ys))
  | _ => False
def CM (K : PySem.W.Frag) (r : V → List V → Hp → VK → Prop) (g : DMt) : Prop :=
  ∀ {G H : Hp} {p : Addr} {ws vs : List V} {xs ds : List D} {P : D → List D → Prop} {Q : VK}, Same G H → H p = some (.lst ws) → RpL K G ws xs → G p = none → RdL K G H vs ds → g xs ds P →
    (∀ G' v d ws' ys, Same G G' → Same G' H → G' p = none → (∀ a o, G' a = some o → G a = some o) → Rp K G' v d → RpL K G' ws' ys → P d ys → Q v (upd H p (.lst ws'))) → r (.ref p) vs H Q
/-- what is read stands for a tree; a list that is owned is not frozen by that -/
theorem RdV.datL {K : PySem.W.Frag} {G H : Hp} {v : V} {d : D} (h : Rp K G v d) : RdV K G H v d := .inl h

section
variable {X : Cx} {o e : Expr} {es : List Expr} {t : DTA} {np : Nat} {name x : Str} {apos cpos xp : Pos} {id : String} {r : V → List V → Hp → VK → Prop} {g : DMt}
theorem dm_ok (i : Nat) (hm : CM X.K r g) {B : Bs} {G : Hp} {ω : Own} {ρ : Env} {σ : Stt} {H : Hp} {xs ds : List D} {p : Addr} {vs : List V} {Q : VK} {Qd : D → List D → Prop}
    (e : EnvW X.K B G ω ρ σ H) (hs : ρ[i]? = some (.ls xs)) (hv : σ[i]? = some (some (.ref p))) (ra : RdL X.K G H vs ds) (h : g xs ds Qd)
    (k : ∀ v d ys H', Rp X.K G v d → EnvW X.K B G ω (ρ.set i (.ls ys)) σ H' → Qd d ys → Q v H') : r (.ref p) vs H Q := by
  obtain ⟨p', ws, e1, hp, h1, r1⟩ := e.slot i _ hs
  rw [hv] at e1
  cases e1
  obtain ⟨g1, _, _⟩ := e.own p i hp
  refine hm e.gle h1 r1 g1 ra h fun G' v d ws' ys s1 s2 g2 g3 rv rl q => ?_
  have eg : Same G' G := fun a o z => g3 a o z
  obtain ⟨_, _, e'⟩ := e.mutL hs hv (rl.mono eg)
  exact k _ _ _ _ (rv.mono eg) e' q
theorem d_meth (i : Nat) (slot : Slot "list" name id) (ty : typeOf (.builtin id) = pure (.type "method_descriptor")) (rule : MtR X id r) (hc : CM X.K r g)
    (ha : PA X (e :: es) (liftA X.K np t)) (hN : X.N[i]? = some x := by rfl) (hv : Vis X.env.scope x := by first | exact Or.inl rfl | exact Or.inr (Or.inl rfl) | exact Or.inr (Or.inr rfl)) (hd : (x == ("__debug__" : Str)) = false := by decide)
    (hcd : (x == ("__classdict__" : Str)) = false := by decide)
    (hbase : attributeBase (.Name x xp) name X.env (eval (.Name x xp) X.env) = eval (.Name x xp) X.env := by rfl)
    (hfew : ((backTo cpos (starEach (e :: es) X.env)).all (fun x => !x.1) && (backToKw cpos (keywordEach [] X.env)).all (fun x => x.1.isSome)
      && decide ((e :: es).length + ([] : List Keyword).length + (if ([] : List Keyword).isEmpty then 0 else 1) < 30)) = true := by rfl)
    (hline : (apos.endLine == cpos.line) = true := by rfl) (hs : starEach (e :: es) X.env = (false, eval e X.env) :: starEach es X.env := by rfl) (hplain : (backTo cpos (starEach es X.env)).any (·.1) = false := by rfl) :
    PE X (.Call (.Attribute (.Name x xp) name apos) (e :: es) [] cpos) (lift X.K np (dMeth i g t)) := by
  refine (pe_bm PySem.F.plainAttrs_list slot ty rule (pe_var (i := i) hN hv hd hcd) ha hbase hfew hline hs hplain).mo fun σ H Q h => ?_
  obtain ⟨B, G, ρ, Qd, hn, ⟨ω, ew⟩, ⟨⟨xs0, hx0⟩, h⟩, k⟩ := h
  obtain ⟨p, ws, e1, hp, h1, r1⟩ := ew.slot i _ hx0
  refine ⟨.ref p, e1, .inl ⟨rfl, ws, .of h1⟩, B, G, ρ, _, hn, ⟨ω, ew⟩, h, fun G1 vs rs ρ1 H1 s1 ew1 ar q1 => ?_⟩
  obtain ⟨ω1, ew1⟩ := ew1
  split at q1
  · rename_i xs ds hxs hds
    exact dm_ok i hc ew1 hxs e1 (ar.rd ew1 hds) q1 fun v d ys H' rv e' q => k _ _ _ _ _ s1 (e'.dat rv) q
  · exact q1.elim
theorem d_meth0 (i : Nat) (slot : Slot "list" name id) (ty : typeOf (.builtin id) = pure (.type "method_descriptor")) (rule : MtR X id r) (hc : CM X.K r g)
    (hN : X.N[i]? = some x := by rfl) (hv : Vis X.env.scope x := by first | exact Or.inl rfl | exact Or.inr (Or.inl rfl) | exact Or.inr (Or.inr rfl)) (hd : (x == ("__debug__" : Str)) = false := by decide)
    (hcd : (x == ("__classdict__" : Str)) = false := by decide) (hbase : attributeBase (.Name x xp) name X.env (eval (.Name x xp) X.env) = eval (.Name x xp) X.env := by rfl)
    (hline : (apos.endLine == cpos.line) = true := by rfl) : PE X (.Call (.Attribute (.Name x xp) name apos) [] [] cpos) (lift X.K np (dMeth0 i g)) := by
  refine (pe_bm0 PySem.F.plainAttrs_list slot ty rule (pe_var (i := i) hN hv hd hcd) hbase hline).mo fun σ H Q h => ?_
  obtain ⟨B, G, ρ, Qd, hn, ⟨ω, ew⟩, h, k⟩ := h
  unfold dMeth0 at h
  split at h
  · rename_i xs hxs
    obtain ⟨p, ws, e1, hp, h1, r1⟩ := ew.slot i _ hxs
    exact ⟨.ref p, e1, .inl ⟨rfl, ws, .of h1⟩, dm_ok i hc ew hxs e1 .nil h fun v d ys H' rv e' q => k _ _ _ _ _ (.refl _) (e'.dat rv) q⟩
  · exact h.elim
end
/-- frozen ones among the arguments -/
def mAppend : DMt := fun xs ds P => match ds with
  | [d] => xs.length < sizeLine ∧ P .non (xs ++ [d])
  | _ => False
def mExtend : DMt := fun xs ds P => match ds with
  | [.lst ys] => xs.length + ys.length ≤ sizeLine ∧ P .non (xs ++ ys)
  | _ => False
def mInsert : DMt := fun xs ds P => match ds with
  | [.int i, d] => xs.length < sizeLine ∧ 0 ≤ i ∧ i < 2 ^ 63 ∧ P .non (xs.take i.toNat ++ [d] ++ xs.drop i.toNat)
  | _ => False
def mPopAt : DMt := fun xs ds P => match ds with
  | [.int i] => -(2 ^ 63) ≤ i ∧ i < 2 ^ 63 ∧ ∃ k y, seqIndex? i xs.length = some k ∧ xs[k]? = some y ∧ P y (xs.eraseIdx k)
  | _ => False
def mPop : DMt := fun xs ds P => match ds with
  | [] => ∃ y, xs[xs.length - 1]? = some y ∧ P y xs.dropLast
  | _ => False
def mRev : DMt := fun xs ds P => match ds with
  | [] => P .non xs.reverse
  | _ => False
theorem RpL.dropLast {K : PySem.W.Frag} {G : Hp} {vs : List V} {ds : List D} (r : RpL K G vs ds) : RpL K G vs.dropLast ds.dropLast := by
  rw [List.dropLast_eq_take, List.dropLast_eq_take, r.length]
  exact r.take _
section
variable (K : PySem.W.Frag)
theorem cm_extend : CM K rExtend mExtend := by
  intro G H p ws vs xs ds P Q gh hp rl gp ra g k
  unfold mExtend at g
  split at g
  · rename_i ys
    obtain ⟨v, rfl, rv⟩ := ra.one
    obtain ⟨b, zs, rfl, hb, rz⟩ := rv.lst gh
    exact ⟨p, b, ws, zs, rfl, rfl, hp, hb, by rw [rl.length, rz.length]; exact g.1, k G _ _ _ _ (.refl _) gh gp (fun _ _ z => z) .non (rl.append rz) g.2⟩
  · exact g.elim
theorem cm_pop : CM K rPop mPop := by
  intro G H p ws vs xs ds P Q gh hp rl gp ra g k
  unfold mPop at g
  split at g
  · cases ra
    obtain ⟨y, hy, g⟩ := g
    obtain ⟨w, hw, rw'⟩ := rl.get hy
    exact ⟨p, ws, w, rfl, rfl, hp, by rw [rl.length]; exact hw, k G _ _ _ _ (.refl _) gh gp (fun _ _ z => z) rw' rl.dropLast g⟩
  · exact g.elim
theorem cm_popAt : CM K rPopAt mPopAt := by
  intro G H p ws vs xs ds P Q gh hp rl gp ra g k
  unfold mPopAt at g
  split at g
  · rename_i i
    obtain ⟨v, rfl, rv⟩ := ra.one
    obtain rfl := rv.int
    obtain ⟨h1, h2, j, y, hj, hy, g⟩ := g
    obtain ⟨w, hw, rw'⟩ := rl.get hy
    exact ⟨p, ws, i, j, w, rfl, rfl, hp, h1, h2, by rw [rl.length]; exact hj, hw, k G _ _ _ _ (.refl _) gh gp (fun _ _ z => z) rw' (rl.eraseIdx j) g⟩
  · exact g.elim
theorem cm_rev : CM K rReverse mRev := by
  intro G H p ws vs xs ds P Q gh hp rl gp ra g k
  unfold mRev at g
  split at g
  · cases ra
    exact ⟨p, ws, rfl, rfl, hp, k G _ _ _ _ (.refl _) gh gp (fun _ _ z => z) .non rl.reverse g⟩
  · exact g.elim
end

/-! ### what is stored in a list: frozen data alone -/
/-- the same with the arguments frozen -/
def dMethF (i : Nat) (g : DMt) (t : DTA) : DTE := fun ρ Q => (∃ xs, ρ[i]? = some (.ls xs)) ∧ t ρ fun rs ρ1 => match ρ1[i]?, datL rs with
  | some (.ls xs), some ds => g xs ds fun d ys => Q (.dat d) (ρ1.set i (.ls ys))
  | _, _ => False
def CMF (K : PySem.W.Frag) (r : V → List V → Hp → VK → Prop) (g : DMt) : Prop :=
  ∀ {G H : Hp} {p : Addr} {ws vs : List V} {xs ds : List D} {P : D → List D → Prop} {Q : VK}, H p = some (.lst ws) → RpL K G ws xs → RpL K G vs ds → g xs ds P →
    (∀ v d ws' ys, Rp K G v d → RpL K G ws' ys → P d ys → Q v (upd H p (.lst ws'))) → r (.ref p) vs H Q
section
variable {X : Cx} {o e : Expr} {es : List Expr} {t : DTA} {np : Nat} {name x : Str} {apos cpos xp : Pos} {id : String} {r : V → List V → Hp → VK → Prop} {g : DMt}
theorem d_methF (i : Nat) (slot : Slot "list" name id) (ty : typeOf (.builtin id) = pure (.type "method_descriptor")) (rule : MtR X id r) (hc : CMF X.K r g)
    (ha : PA X (e :: es) (liftA X.K np t)) (hN : X.N[i]? = some x := by rfl) (hv : Vis X.env.scope x := by first | exact Or.inl rfl | exact Or.inr (Or.inl rfl) | exact Or.inr (Or.inr rfl)) (hd : (x == ("__debug__" : Str)) = false := by decide)
    (hcd : (x == ("__classdict__" : Str)) = false := by decide)
    (hbase : attributeBase (.Name x xp) name X.env (eval (.Name x xp) X.env) = eval (.Name x xp) X.env := by rfl)
    (hfew : ((backTo cpos (starEach (e :: es) X.env)).all (fun x => !x.1) && (backToKw cpos (keywordEach [] X.env)).all (fun x => x.1.isSome)
      && decide ((e :: es).length + ([] : List Keyword).length + (if ([] : List Keyword).isEmpty then 0 else 1) < 30)) = true := by rfl)
    (hline : (apos.endLine == cpos.line) = true := by rfl) (hs : starEach (e :: es) X.env = (false, eval e X.env) :: starEach es X.env := by rfl) (hplain : (backTo cpos (starEach es X.env)).any (·.1) = false := by rfl) :
    PE X (.Call (.Attribute (.Name x xp) name apos) (e :: es) [] cpos) (lift X.K np (dMethF i g t)) := by
  refine (pe_bm PySem.F.plainAttrs_list slot ty rule (pe_var (i := i) hN hv hd hcd) ha hbase hfew hline hs hplain).mo fun σ H Q h => ?_
  obtain ⟨B, G, ρ, Qd, hn, ⟨ω, ew⟩, ⟨⟨xs0, hx0⟩, h⟩, k⟩ := h
  obtain ⟨p, ws, e1, hp, h1, r1⟩ := ew.slot i _ hx0
  refine ⟨.ref p, e1, .inl ⟨rfl, ws, .of h1⟩, B, G, ρ, _, hn, ⟨ω, ew⟩, h, fun G1 vs rs ρ1 H1 s1 ew1 ar q1 => ?_⟩
  obtain ⟨ω1, ew1⟩ := ew1
  split at q1
  · rename_i xs ds hxs hds
    obtain ⟨p', ws', e1', hp', h1', r1'⟩ := ew1.slot i _ hxs
    rw [e1] at e1'
    cases e1'
    refine hc h1' r1' (ar.dat hds) q1 fun v d ws2 ys rv rl q => ?_
    obtain ⟨_, _, e2⟩ := ew1.mutL hxs e1 rl
    exact k _ _ _ _ _ s1 (e2.dat rv) q
  · exact q1.elim
end
section
variable (K : PySem.W.Frag)
theorem cm_append : CMF K rAppend mAppend := by
  intro G H p ws vs xs ds P Q hp rl ra g k
  unfold mAppend at g
  split at g
  · cases ra with
    | cons rv rr =>
      cases rr
      exact ⟨p, ws, _, rfl, rfl, hp, by rw [rl.length]; exact g.1, k _ _ _ _ .non (rl.append (.cons rv .nil)) g.2⟩
  · exact g.elim
theorem cm_insert : CMF K (fun x vs H Q => ∃ (l : Addr) (xs : List V) (i : Int) (y : V), x = .ref l ∧ vs = [.int i, y] ∧ H l = some (.lst xs) ∧ xs.length < sizeLine ∧ 0 ≤ i ∧ i < 2 ^ 63 ∧
    Q .non (upd H l (.lst (xs.take i.toNat ++ [y] ++ xs.drop i.toNat)))) mInsert := by
  intro G H p ws vs xs ds P Q hp rl ra g k
  unfold mInsert at g
  split at g
  · rename_i i d
    cases ra with
    | cons rv rr =>
      cases rr with
      | cons r2 rr =>
        cases rr
        cases rv
        exact ⟨p, ws, i, _, rfl, rfl, hp, by rw [rl.length]; exact g.1, g.2.1, g.2.2.1, k _ _ _ _ .non (((rl.take _).append (.cons r2 .nil)).append (rl.drop _)) g.2.2.2⟩
  · exact g.elim
end

/-! ### x[i] = e -/
def dSetIx (i : Nat) (te ti : DTE) : DTS := fun D ρ => te ρ fun r ρ1 => match stl r with
  | .dat d => (∃ xs, ρ1[i]? = some (.ls xs)) ∧ ti ρ1 fun ri ρ2 => match ri, ρ2[i]? with
    | .dat (.int k), some (.ls xs) => ∃ j, ixN xs.length k = some j ∧ D.nx (ρ2.set i (.ls (xs.set j d)))
    | _, _ => False
  | _ => False
section
variable {X : Cx} {e ix : Expr} {te ti : DTE} {np : Nat} {x : Str} {pos xp tpos : Pos}
theorem ds_setIx (i : Nat) (he : PE X e (lift X.K np te)) (hi : PE X ix (lift X.K np ti)) (hN : X.N[i]? = some x := by rfl) (hv : Vis X.env.scope x := by first | exact Or.inl rfl | exact Or.inr (Or.inl rfl) | exact Or.inr (Or.inr rfl))
    (hd : (x == ("__debug__" : Str)) = false := by decide) (hcd : (x == ("__classdict__" : Str)) = false := by decide)
    (ha : ∀ v, assign (.Subscript (.Name x xp) ix tpos) X.env v = (do
      let ov ← holding [v] (eval (.Name x xp) X.env)
      let iv ← holding [v, ov] (eval ix X.env)
      standAt tpos
      holding [v, ov, iv] (setItem ov iv v)
      release [v, ov, iv] []) := by intro _; rfl)
    (hs : swapsWithSole [.Subscript (.Name x xp) ix tpos] e pos.line X.env = pure false := by rfl) (hw : swappedStores [.Subscript (.Name x xp) ix tpos] e X.env = pure none := by rfl)
    (h1 : (assignEach [.Subscript (.Name x xp) ix tpos] X.env).map (·.2) = [assign (.Subscript (.Name x xp) ix tpos) X.env] := by rfl) :
    PS X (.Assign [.Subscript (.Name x xp) ix tpos] e pos) (liftS X.K np (dSetIx i te ti)) := by
  refine (ps_asg he (pg_sub (pe_var (i := i) hN hv hd hcd) hi set_list ha) hs hw h1).mo fun D σ H h => ?_
  obtain ⟨B, G, ρ, Dd, hn, eo, h, k1, k2, k3, k4⟩ := h
  refine ⟨B, G, ρ, _, hn, eo, h, fun G1 v r ρ1 H1 s1 f1 q1 => ?_⟩
  obtain ⟨G2, s2, f2⟩ := f1.stl
  split at q1
  · rename_i d hr
    rw [hr] at f2
    obtain ⟨ω2, e2, r2⟩ := f2
    obtain ⟨⟨xs0, hx0⟩, q1⟩ := q1
    obtain ⟨p, ws, e1, hp, h1', r1⟩ := e2.slot i _ hx0
    refine ⟨.ref p, e1, B, G2, ρ1, _, hn, ⟨ω2, e2⟩, q1, fun G3 w ri ρ2 H2 s3 f3 q3 => ?_⟩
    obtain ⟨ω3, e3, r3⟩ := f3
    split at q3
    · rename_i k xs hxs
      obtain ⟨j, hj, q3⟩ := q3
      obtain ⟨p', ws', e1', hp', h1'', r1'⟩ := e3.slot i _ hxs
      rw [e1] at e1'
      cases e1'
      cases r3
      obtain ⟨_, _, e4⟩ := e3.mutL hxs e1 (RpL.set (Rp.mono s3 r2) j r1')
      exact ⟨p, ws', k, j, rfl, rfl, h1'', by rw [r1'.length]; exact hj, k1 _ _ _ _ ((s1.trans s2).trans s3) ⟨ω3, e4⟩ q3⟩
    · exact q3.elim
  · exact q1.elim
end

/-! ### a, b = x, y; a, b, c = x, y, z -/
def dPar2 (np i j : Nat) (t u : DTE) : DTS := fun D ρ => t ρ fun r ρ1 => match stl r with
  | .dat d => u ρ1 fun r2 ρ2 => dPut np j r2 (ρ2.set i (.fr d)) D.nx
  | _ => False
def dPar3 (np i j l : Nat) (t u w : DTE) : DTS := fun D ρ => t ρ fun r ρ1 => match stl r with
  | .dat d => u ρ1 fun r2 ρ2 => (match stl r2 with
    | .dat d2 => w ρ2 fun r3 ρ3 => dPut np l r3 ((ρ3.set i (.fr d)).set j (.fr d2)) D.nx
    | _ => False)
  | _ => False
theorem put_two {K : PySem.W.Frag} {np : Nat} {B : Bs} {G : Hp} {ρ : Env} {σ : Stt} {H : Hp} {u v : V} {d : D} {r : Rs} {i j : Nat} {k : Env → Prop} (hn : B.P.length = np) (f : Fin K B G ρ σ H v r) (ru : Rp K G u d) (h : dPut np j r (ρ.set i (.fr d)) k) :
    ∃ ρ', EnvOk K B G ρ' ((σ.set i (some u)).set j (some v)) H ∧ k ρ' := by
  obtain ⟨ω, e, q⟩ := f
  cases r with
  | dat d' =>
    obtain ⟨ω', e'⟩ := e.setD (i := i) ru
    exact ⟨_, e'.setD q, h⟩
  | sl j => exact h.elim
  | nw s =>
    have e' : EnvW K B G (untag ω i) (ρ.set i (.fr d)) (σ.set i (some u)) H := by
      have e0 := e.setUn (i := i) (s' := .un) trivial rfl
      refine ⟨e0.gle, e0.g0, e0.keep, e0.own, by rw [List.length_set, List.length_set]; exact e.len, fun j s q => ?_, fun j s w q o p => ?_⟩
      · by_cases hj : j = i
        · subst hj
          have hl : j < ρ.length := by have := (List.getElem?_eq_some_iff.mp q).1; rwa [List.length_set] at this
          rw [List.getElem?_set_self hl] at q
          cases q
          exact ⟨u, List.getElem?_set_self (by rw [← e.len]; exact hl), ru⟩
        · rw [List.getElem?_set_ne (Ne.symm hj)] at q
          rw [List.getElem?_set_ne (Ne.symm hj)]
          exact e0.slot j s (by rw [List.getElem?_set_ne (Ne.symm hj)]; exact q)
      · by_cases hj : j = i
        · subst hj
          have hl : j < ρ.length := by have := (List.getElem?_eq_some_iff.mp q).1; rwa [List.length_set] at this
          rw [List.getElem?_set_self hl] at q
          cases q
          cases o
        · rw [List.getElem?_set_ne (Ne.symm hj)] at q
          rw [List.getElem?_set_ne (Ne.symm hj)]
          exact e.pin j s w q o p
    by_cases hi : i < σ.length
    · refine ⟨_, e'.setN (s := s) q.1 ?_ (by rw [hn]; exact h.1), h.2⟩
      exact q.2.mono (.refl _) fun a z => ⟨by rw [List.length_set]; exact untag_ne (by omega) z, rfl⟩
    · have e2 : σ.set i (some u) = σ := List.set_eq_of_length_le (by omega)
      have e3 : ρ.set i (.fr d) = ρ := List.set_eq_of_length_le (by rw [e.len]; omega)
      rw [e2]
      rw [e3] at h
      exact ⟨_, e.setN (s := s) q.1 q.2 (by rw [hn]; exact h.1), h.2⟩
section
variable {X : Cx} {a b c : Expr} {ta tb tc : DTE} {np : Nat} {x y z : Str} {px py pz pt pos : Pos} {kt k2 : Nat} {pt2 : Pos}
theorem ds_par2 (i j : Nat) (hc : X.calm = true) (hN : X.N.Nodup) (ha : PE X a (lift X.K np ta)) (hb : PE X b (lift X.K np tb)) (hw : swappedStores [.Tuple [.Name x px, .Name y py] kt pt] (.Tuple [a, b] k2 pt2) X.env = pure (some [x, y]))
    (hi : X.N[i]? = some x := by rfl) (hj : X.N[j]? = some y := by rfl) (hij : i ≠ j := by decide) (hx : X.env.scope.names.lookup x = some .local := by rfl) (hy : X.env.scope.names.lookup y = some .local := by rfl)
    (hs : swapsWithSole [.Tuple [.Name x px, .Name y py] kt pt] (.Tuple [a, b] k2 pt2) pos.line X.env = pure false := by rfl)
    (h1 : starEach [a, b] X.env = (false, eval a X.env) :: starEach [b] X.env := by rfl) (h2 : starEach [b] X.env = (false, eval b X.env) :: starEach [] X.env := by rfl) :
    PS X (.Assign [.Tuple [.Name x px, .Name y py] kt pt] (.Tuple [a, b] k2 pt2) pos) (liftS X.K np (dPar2 np i j ta tb)) := by
  refine (ps_par hc hN hi hj hij hx hy (pa_cons ha (pa_cons hb pa_nil h2) h1) hw hs).mo fun D σ H h => ?_
  obtain ⟨B, G, ρ, Dd, hn, eo, h, k1, k2, k3, k4⟩ := h
  refine ⟨B, G, ρ, _, hn, eo, h, fun G1 v r ρ1 H1 s1 f1 q1 => ?_⟩
  obtain ⟨G2, s2, f2⟩ := f1.stl
  split at q1
  · rename_i d hr
    rw [hr] at f2
    refine ⟨B, G2, ρ1, _, hn, f2.env, q1, fun G3 w r3 ρ3 H3 s3 f3 q3 => ⟨v, w, rfl, ?_⟩⟩
    obtain ⟨ω2, e2, r2⟩ := f2
    obtain ⟨ρ', e', q⟩ := put_two hn f3 (Rp.mono s3 r2) q3
    exact k1 _ _ _ _ ((s1.trans s2).trans s3) e' q
  · exact q1.elim
theorem ds_par3 (i j l : Nat) (hc : X.calm = true) (hN : X.N.Nodup) (ha : PE X a (lift X.K np ta)) (hb : PE X b (lift X.K np tb)) (hcc : PE X c (lift X.K np tc))
    (hw : swappedStores [.Tuple [.Name x px, .Name y py, .Name z pz] kt pt] (.Tuple [a, b, c] k2 pt2) X.env = pure (some [x, y, z]))
    (hi : X.N[i]? = some x := by rfl) (hj : X.N[j]? = some y := by rfl) (hl : X.N[l]? = some z := by rfl) (hij : i ≠ j := by decide) (hil : i ≠ l := by decide) (hjl : j ≠ l := by decide)
    (hx : X.env.scope.names.lookup x = some .local := by rfl) (hy : X.env.scope.names.lookup y = some .local := by rfl) (hz : X.env.scope.names.lookup z = some .local := by rfl)
    (hs : swapsWithSole [.Tuple [.Name x px, .Name y py, .Name z pz] kt pt] (.Tuple [a, b, c] k2 pt2) pos.line X.env = pure false := by rfl)
    (h1 : starEach [a, b, c] X.env = (false, eval a X.env) :: starEach [b, c] X.env := by rfl) (h2 : starEach [b, c] X.env = (false, eval b X.env) :: starEach [c] X.env := by rfl) (h3 : starEach [c] X.env = (false, eval c X.env) :: starEach [] X.env := by rfl) :
    PS X (.Assign [.Tuple [.Name x px, .Name y py, .Name z pz] kt pt] (.Tuple [a, b, c] k2 pt2) pos) (liftS X.K np (dPar3 np i j l ta tb tc)) := by
  refine (ps_par3 hc hN hi hj hl hij hil hjl hx hy hz (pa_cons ha (pa_cons hb (pa_cons hcc pa_nil h3) h2) h1) hw hs).mo fun D σ H h => ?_
  obtain ⟨B, G, ρ, Dd, hn, eo, h, k1, k2, k3, k4⟩ := h
  refine ⟨B, G, ρ, _, hn, eo, h, fun G1 v r ρ1 H1 s1 f1 q1 => ?_⟩
  obtain ⟨G2, s2, f2⟩ := f1.stl
  split at q1
  · rename_i d hr
    rw [hr] at f2
    refine ⟨B, G2, ρ1, _, hn, f2.env, q1, fun G3 w r3 ρ3 H3 s3 f3 q3 => ?_⟩
    obtain ⟨G4, s4, f4⟩ := f3.stl
    split at q3
    · rename_i d2 hr2
      rw [hr2] at f4
      refine ⟨B, G4, ρ3, _, hn, f4.env, q3, fun G5 w5 r5 ρ5 H5 s5 f5 q5 => ⟨v, w, w5, rfl, ?_⟩⟩
      obtain ⟨ω2, e2, r2⟩ := f2
      obtain ⟨ω4, e4, r4⟩ := f4
      have r2' := Rp.mono ((s3.trans s4).trans s5) r2
      have r4' := Rp.mono s5 r4
      -- the first name, then the two behind it
      obtain ⟨ω5, e5, q5'⟩ := f5
      have key : Fin X.K B G5 (ρ5.set i (.fr d)) (σ.set i (some v)) H5 w5 r5 ∨ ∃ j, r5 = .sl j := by
        cases r5 with
        | dat d' =>
          obtain ⟨ω', e'⟩ := e5.setD (i := i) r2'
          exact .inl ⟨ω', e', q5'⟩
        | sl j => exact .inr ⟨j, rfl⟩
        | nw s =>
          have hi' : i < σ.length ∨ ¬ i < σ.length := Nat.lt_or_ge i σ.length |>.imp id Nat.not_lt.mpr
          rcases hi' with hi' | hi'
          · refine .inl ⟨untag ω5 i, ?_, q5'.1, ?_⟩
            · have e0 := e5.setUn (i := i) (s' := .un) trivial rfl
              refine ⟨e0.gle, e0.g0, e0.keep, e0.own, by rw [List.length_set, List.length_set]; exact e5.len, fun j s q => ?_, fun j s w q o p => ?_⟩
              · by_cases hj : j = i
                · subst hj
                  have hl : j < ρ5.length := by have := (List.getElem?_eq_some_iff.mp q).1; rwa [List.length_set] at this
                  rw [List.getElem?_set_self hl] at q
                  cases q
                  exact ⟨v, List.getElem?_set_self (by rw [← e5.len]; exact hl), r2'⟩
                · rw [List.getElem?_set_ne (Ne.symm hj)] at q
                  rw [List.getElem?_set_ne (Ne.symm hj)]
                  exact e0.slot j s (by rw [List.getElem?_set_ne (Ne.symm hj)]; exact q)
              · by_cases hj : j = i
                · subst hj
                  have hl : j < ρ5.length := by have := (List.getElem?_eq_some_iff.mp q).1; rwa [List.length_set] at this
                  rw [List.getElem?_set_self hl] at q
                  cases q
                  cases o
                · rw [List.getElem?_set_ne (Ne.symm hj)] at q
                  rw [List.getElem?_set_ne (Ne.symm hj)]
                  exact e5.pin j s w q o p
            · exact q5'.2.mono (.refl _) fun a z => ⟨by rw [List.length_set]; exact untag_ne (by omega) z, rfl⟩
          · have e2 : σ.set i (some v) = σ := List.set_eq_of_length_le (by omega)
            have e3 : ρ5.set i (.fr d) = ρ5 := List.set_eq_of_length_le (by rw [e5.len]; omega)
            rw [e2, e3]
            exact .inl ⟨ω5, e5, q5'⟩
      rcases key with key | ⟨j, rfl⟩
      · obtain ⟨ρ', e', q⟩ := put_two hn key r4' q5
        exact k1 _ _ _ _ ((((s1.trans s2).trans s3).trans s4).trans s5) e' q
      · exact q5.elim
    · exact q3.elim
  · exact q1.elim
end
end TL

/-! TL8: what a def promises over trees; calls. -/
namespace TL
open PySem PySem.Spec PyProof.Rows L2

abbrev DSp := List Sl → (Rs → List Sl → Prop) → Prop
def own' (s : Sl) : Sl := if s.own = true then s else .un
def baseOf (G H : Hp) (ω : Own) (vs : List V) : Bs := ⟨G, H, fun a => ω a ≠ none, vs.map some⟩
/-- the promise: what each parameter holds, then the result and what the parameters own -/
def toSp (K : PySem.W.Frag) (n : Nat) (S : DSp) : Sp := fun vs H Q E => ∃ G ω args Qd, vs.length = n ∧ EnvW K (baseOf G H ω vs) G ω args (vs.map some) H ∧ S args Qd ∧
  ∀ G' ω' v r args' H', Same G G' → EnvW K (baseOf G H ω vs) G' ω' args' (vs.map some) H' → RsOk K G' H' ω' (vs.map some) v r → (∀ j, r ≠ .sl j) → Qd r args' → Q v H'

/-! ### a def's body -/
def ownsOf (n : Nat) (ρ : Env) : List Sl := (List.range n).map fun i => own' (ρ[i]?.getD .un)
def fin1 (n : Nat) (Q : Rs → List Sl → Prop) : Rs → Env → Prop := fun r ρ => match r with
  | .dat d => Q (.dat d) (ownsOf n ρ)
  | .nw s => Q (.nw s) (ownsOf n ρ)
  | .sl j => n ≤ j ∧ ∃ s, ρ[j]? = some s ∧ s.own = true ∧ Q (.nw s) (ownsOf n ρ)
def dEnd (n : Nat) (Q : Rs → List Sl → Prop) : DEnds := { nx := fin1 n Q (.dat .non), rt := fin1 n Q }
def moveT (ω : Own) (q n : Nat) : Own := fun a => if ω a = some q then some n else match ω a with
  | some i => if i < n then some i else none
  | none => none
theorem own'_own {s : Sl} (h : (own' s).own = true) : own' s = s ∧ s.own = true := by
  unfold own' at h ⊢
  by_cases e : s.own = true
  · rw [if_pos e]; exact ⟨rfl, e⟩
  · rw [if_neg e] at h; cases h
theorem ownsOf_length (n : Nat) (ρ : Env) : (ownsOf n ρ).length = n := by unfold ownsOf; rw [List.length_map, List.length_range]
theorem ownsOf_get {n : Nat} {ρ : Env} {i : Nat} {s : Sl} (h : (ownsOf n ρ)[i]? = some s) : i < n ∧ s = own' (ρ[i]?.getD .un) := by
  unfold ownsOf at h
  rw [List.getElem?_map] at h
  by_cases hi : i < n
  · rw [List.getElem?_range hi] at h
    exact ⟨hi, (Option.some.inj h).symm⟩
  · rw [List.getElem?_eq_none (by rw [List.length_range]; omega)] at h
    cases h
section
variable {K : PySem.W.Frag} {G0 H0 G : Hp} {ω0 ω : Own} {ρ : Env} {σ : Stt} {H : Hp} {vs : List V}
theorem EnvW.leave (e : EnvW K (baseOf G0 H0 ω0 vs) G ω ρ σ H) {q : Nat} (hq : ∀ i s, ρ[i]? = some s → i < vs.length → s.own = true → i ≠ q) :
    EnvW K (baseOf G0 H0 ω0 vs) G (moveT ω q vs.length) (ownsOf vs.length ρ) (vs.map some) H where
  gle := e.gle
  g0 := e.g0
  keep := e.keep
  own := fun a i z => by
    unfold moveT at z
    split at z
    · rename_i w; exact e.own a _ w
    · split at z
      · rename_i j w; exact e.own a _ w
      · cases z
  len := by rw [ownsOf_length, List.length_map]
  slot := fun i s z => by
    obtain ⟨hi, rfl⟩ := ownsOf_get z
    by_cases o : (own' (ρ[i]?.getD .un)).own = true
    · obtain ⟨e1, e2⟩ := own'_own o
      rw [e1]
      cases w : ρ[i]? with
      | none => rw [w] at e2; cases e2
      | some s =>
        rw [w] at e2
        have e2 : s.own = true := e2
        show SlOk K G H _ _ s
        have hg : vs[i]? = some vs[i] := List.getElem?_eq_getElem hi
        have hp : (vs.map some)[i]? = some (some vs[i]) := by rw [List.getElem?_map, hg]; rfl
        have pp := e.pin i s vs[i] w e2 hp
        have sl := e.slot i s w
        rw [pp] at sl
        refine (sl.mono (.refl _) fun a y => ⟨?_, rfl⟩).ov hp
        unfold moveT
        rw [if_neg (fun u => by rw [y] at u; exact hq i s w hi e2 (Option.some.inj u)), y]
        show (if i < vs.length then _ else _) = _
        rw [if_pos hi]
    · have : own' (ρ[i]?.getD .un) = .un := by
        unfold own' at o ⊢
        split
        · rename_i y; rw [if_pos y] at o; exact absurd y o
        · rfl
      rw [this]
      trivial
  pin := fun i s v z o p => p
theorem moveT_same {q n : Nat} {a : Addr} (h : ω a = some q) : moveT ω q n a = some n := by unfold moveT; rw [if_pos h]
end
theorem fin_ok {K : PySem.W.Frag} {G0 H0 G : Hp} {ω0 : Own} {ρ : Env} {σ : Stt} {H : Hp} {vs : List V} {v : V} {r : Rs} {Qd : Rs → List Sl → Prop} {Q : VK} {n : Nat} (hn : vs.length = n)
    (s : Same G0 G) (f : Fin K (baseOf G0 H0 ω0 vs) G ρ σ H v r) (h : fin1 n Qd r ρ)
    (k : ∀ G' ω' v r args' H', Same G0 G' → EnvW K (baseOf G0 H0 ω0 vs) G' ω' args' (vs.map some) H' → RsOk K G' H' ω' (vs.map some) v r → (∀ j, r ≠ .sl j) → Qd r args' → Q v H') : Q v H := by
  subst hn
  obtain ⟨ω, e, q⟩ := f
  have lt : ∀ i s, ρ[i]? = some s → i < vs.length → s.own = true → i ≠ σ.length := fun i s w _ _ z => by
    have := (List.getElem?_eq_some_iff.mp w).1
    have := e.len
    omega
  cases r with
  | dat d => exact k _ _ _ (.dat d) _ _ s (e.leave lt) q (fun _ z => by cases z) h
  | nw sl =>
    refine k _ _ _ (.nw sl) _ _ s (e.leave lt) ⟨q.1, ?_⟩ (fun _ z => by cases z) h
    refine q.2.mono (.refl _) fun a z => ⟨?_, rfl⟩
    rw [List.length_map]
    exact moveT_same z
  | sl j =>
    obtain ⟨hj, sl, e1, e2, h⟩ := h
    have lt' : ∀ i s, ρ[i]? = some s → i < vs.length → s.own = true → i ≠ j := fun i s w hi _ z => by omega
    refine k _ _ _ (.nw sl) _ _ s (e.leave lt') ⟨e2, ?_⟩ (fun _ z => by cases z) h
    have q' : σ[j]? = some (some v) := q
    refine ((e.slot j sl e1).mono (.refl _) fun a z => ⟨?_, rfl⟩).ov q'.symm
    rw [List.length_map]
    exact moveT_same z
theorem EnvW.ext {K : PySem.W.Frag} {B : Bs} {G : Hp} {ω : Own} {ρ : Env} {σ : Stt} {H : Hp} (e : EnvW K B G ω ρ σ H) (hp : B.P.length ≤ σ.length) (m : Nat) : EnvW K B G ω (ρ ++ List.replicate m .un) (σ ++ List.replicate m none) H where
  gle := e.gle
  g0 := e.g0
  keep := e.keep
  own := e.own
  len := by rw [List.length_append, List.length_append, List.length_replicate, List.length_replicate, e.len]
  slot := fun i s z => by
    by_cases hi : i < ρ.length
    · rw [List.getElem?_append_left hi] at z
      rw [List.getElem?_append_left (by rw [← e.len]; exact hi)]
      exact e.slot i s z
    · rw [List.getElem?_append_right (by omega), List.getElem?_replicate] at z
      split at z
      · cases z; trivial
      · cases z
  pin := fun i s v z o p => by
    by_cases hi : i < ρ.length
    · rw [List.getElem?_append_left hi] at z
      rw [List.getElem?_append_left (by rw [← e.len]; exact hi)]
      exact e.pin i s v z o p
    · rw [List.getElem?_append_right (by omega), List.getElem?_replicate] at z
      split at z
      · cases z; cases o
      · cases z
/-- the body's reading keeps the promise -/
def Keeps (S : DSp) (n N : Nat) (t : DTS) : Prop := ∀ args Qd, args.length = n → S args Qd → t (dEnd n Qd) (args ++ List.replicate (N - n) .un)
theorem body_ok {K : PySem.W.Frag} {S : DSp} {n : Nat} {N : List Str} {t : DTS} {vs : List V} {H : Hp} {Q : VK} {E : XK} (hS : Keeps S n N.length t) (h : toSp K n S vs H Q E) :
    liftS K n t { nx := fun _ H' => Q .non H', rt := Q } (L2.start N vs) H := by
  obtain ⟨G, ω, args, Qd, hn, e, hs, k⟩ := h
  have la : args.length = n := by rw [e.len, List.length_map]; exact hn
  refine ⟨baseOf G H ω vs, G, args ++ List.replicate (N.length - n) .un, dEnd n Qd, by show (vs.map some).length = n; rw [List.length_map]; exact hn, ⟨ω, ?_⟩, hS args Qd la hs, ?_, ?_, fun _ _ _ _ _ _ z => z.elim, fun _ _ _ _ _ _ z => z.elim⟩
  · unfold L2.start
    rw [hn]
    exact e.ext (Nat.le_refl _) _
  · exact fun G' ρ' σ' H' s eo z => fin_ok hn s (eo.dat .non) z k
  · exact fun G' v r ρ' σ' H' s f z => fin_ok hn s f z k
section
variable {P : Program} {w : World} {K : PySem.W.Frag} {mg : Str → Option Value} {base : Heap}
/-- THE RULE: a def by its body's derivation and its promise over trees -/
theorem ok_tree {x qual : Str} {st : Stmt} {f : Addr} {fd : FuncData} {N ps : List Str} {k : Nat} {S : DSp} {t : DTS} (F : Fun K x qual st f fd) (sc : FnScope N ps (defScope st))
    (hb : ∀ (cdv : Value) (A : Around) (outer : List PySem.Env) (s : Shared) (H : Hp) (E : XK), Room k (A.deeper (envOfC qual (defScope st) s.heap.objs.size f cdv)) →
      PSs (cxOf CX0 P w K mg base N qual (defScope st) f cdv A outer s H E).nox (defBody st) (liftS K ps.length t))
    (hS : Keeps S ps.length N.length t) : FnOk P w K mg base CX0 (k + 1) f fd ps (toSp K ps.length S) :=
  F.ok sc (fun vs H Q E ⟨_, _, _, _, h, _⟩ => h) fun cdv A outer s H vs Q E hr h => ⟨_, hb cdv A outer s H E hr, body_ok hS h⟩
/-- the same for a def that may raise (or whose callees may) -/
theorem okX_tree {x qual : Str} {st : Stmt} {f : Addr} {fd : FuncData} {N ps : List Str} {k : Nat} {S : DSp} {t : DTS} (F : Fun K x qual st f fd) (sc : FnScope N ps (defScope st))
    (hb : ∀ (cdv : Value) (A : Around) (outer : List PySem.Env) (s : Shared) (H : Hp) (E : XK), Room k (A.deeper (envOfC qual (defScope st) s.heap.objs.size f cdv)) →
      PSs (cxOf (L2.CX P w) P w K mg base N qual (defScope st) f cdv A outer s H E) (defBody st) (liftS K ps.length t))
    (hS : Keeps S ps.length N.length t) : FnOk P w K mg base (L2.CX P w) (k + 1) f fd ps (toSp K ps.length S) :=
  F.okX sc (fun vs H Q E ⟨_, _, _, _, h, _⟩ => h) fun cdv A outer s H vs Q E hr h => ⟨_, hb cdv A outer s H E hr, body_ok hS h⟩
end

/-! ### calls -/
def slotOf (ρ : Env) : Rs → Option Sl
  | .dat d => some (.fr d)
  | .sl i => match ρ[i]? with
    | some s => if s.own = true then some s else none
    | none => none
  | .nw _ => none
def slotsOf (ρ : Env) : List Rs → Option (List Sl)
  | [] => some []
  | r :: rs => match slotOf ρ r, slotsOf ρ rs with
    | some s, some ss => some (s :: ss)
    | _, _ => none
def isSl (i : Nat) : Rs → Bool
  | .sl j => j == i
  | _ => false
def slNd : List Rs → Bool
  | [] => true
  | .sl i :: rs => !(rs.any (isSl i)) && slNd rs
  | _ :: rs => slNd rs
def posOf : List Rs → Nat → Option Nat
  | [], _ => none
  | r :: rs, i => if isSl i r = true then some 0 else (posOf rs i).map (· + 1)
def backE (ρ : Env) : List Rs → List Sl → Env
  | .sl i :: rs, s :: ss => (backE ρ rs ss).set i (own' s)
  | _ :: rs, _ :: ss => backE ρ rs ss
  | _, _ => ρ
def dCall (n : Nat) (S : DSp) (t : DTA) : DTE := fun ρ Q => t ρ fun rs ρ1 => rs.length = n ∧ slNd rs = true ∧ match slotsOf ρ1 rs with
  | some args => S args fun r ss => Q r (backE ρ1 rs ss)
  | none => False
theorem isSl_iff {i : Nat} {r : Rs} (h : isSl i r = true) : r = .sl i := by
  cases r with
  | sl j => rw [beq_iff_eq.mp (show (j == i) = true from h)]
  | dat _ => cases h
  | nw _ => cases h
theorem isSl_self {i : Nat} : isSl i (.sl i) = true := beq_self_eq_true i
theorem posOf_get : ∀ {rs : List Rs} {i j : Nat}, posOf rs i = some j → rs[j]? = some (.sl i)
  | [], _, _, h => by cases h
  | r :: rs, i, j, h => by
    unfold posOf at h
    split at h
    · rename_i z; cases h; rw [isSl_iff z]; rfl
    · cases w : posOf rs i with
      | none => rw [w] at h; cases h
      | some l =>
        rw [w] at h
        cases h
        show rs[l]? = _
        exact posOf_get (rs := rs) w
theorem posOf_nd : ∀ {rs : List Rs} {i j : Nat}, slNd rs = true → rs[j]? = some (.sl i) → posOf rs i = some j
  | [], _, _, _, h => by simp at h
  | r :: rs, i, 0, _, h => by
    have : r = .sl i := by simpa using h
    subst this
    unfold posOf
    rw [if_pos isSl_self]
  | r :: rs, i, j + 1, nd, h => by
    have h' : rs[j]? = some (.sl i) := by simpa using h
    have mem : (Rs.sl i) ∈ rs := List.mem_of_getElem? h'
    have nd' : slNd rs = true ∧ isSl i r = false := by
      cases r with
      | sl k =>
        have z : (!(rs.any (isSl k)) && slNd rs) = true := nd
        rw [Bool.and_eq_true] at z
        refine ⟨z.2, ?_⟩
        cases y : isSl i (.sl k) with
        | false => rfl
        | true =>
          have : k = i := beq_iff_eq.mp (show (k == i) = true from y)
          subst this
          have : rs.any (isSl k) = true := List.any_eq_true.mpr ⟨_, mem, isSl_self⟩
          rw [this] at z
          exact absurd z.1 (by simp)
      | dat _ => exact ⟨nd, rfl⟩
      | nw _ => exact ⟨nd, rfl⟩
    unfold posOf
    rw [if_neg (by rw [nd'.2]; simp), posOf_nd nd'.1 h']
    rfl
theorem backE_length (ρ : Env) : ∀ (rs : List Rs) (ss : List Sl), (backE ρ rs ss).length = ρ.length
  | [], _ => by cases ‹List Sl› <;> rfl
  | r :: _, [] => by cases r <;> rfl
  | .sl i :: rs, s :: ss => by show ((backE ρ rs ss).set i _).length = _; rw [List.length_set, backE_length]
  | .dat _ :: rs, s :: ss => backE_length ρ rs ss
  | .nw _ :: rs, s :: ss => backE_length ρ rs ss
theorem backE_at (ρ : Env) : ∀ {rs : List Rs} {ss : List Sl} {i j : Nat}, rs.length = ss.length → posOf rs i = some j → (backE ρ rs ss)[i]? = if i < ρ.length then (ss[j]?).map own' else none
  | [], _, _, _, _, h => by cases h
  | r :: rs, [], _, _, hl, _ => by simp at hl
  | r :: rs, s :: ss, i, j, hl, h => by
    unfold posOf at h
    have hl' : rs.length = ss.length := by simpa using hl
    split at h
    · rename_i z
      cases h
      obtain rfl := isSl_iff z
      show ((backE ρ rs ss).set i (own' s))[i]? = _
      by_cases hi : i < ρ.length
      · rw [List.getElem?_set_self (by rw [backE_length]; exact hi), if_pos hi]; rfl
      · rw [if_neg hi, List.getElem?_eq_none (by rw [List.length_set, backE_length]; omega)]
    · rename_i z
      cases w : posOf rs i with
      | none => rw [w] at h; cases h
      | some l =>
        rw [w] at h
        cases h
        have ih := backE_at ρ (rs := rs) (ss := ss) hl' w
        show _ = if i < ρ.length then (ss[l]?).map own' else none
        rw [← ih]
        cases r with
        | sl k =>
          show ((backE ρ rs ss).set k (own' s))[i]? = _
          rw [List.getElem?_set_ne (fun y => z (by subst y; exact isSl_self))]
        | dat _ => rfl
        | nw _ => rfl
theorem backE_off (ρ : Env) : ∀ {rs : List Rs} {ss : List Sl} {i : Nat}, posOf rs i = none → (backE ρ rs ss)[i]? = ρ[i]?
  | [], ss, _, _ => by cases ss <;> rfl
  | r :: _, [], _, _ => by cases r <;> rfl
  | r :: rs, s :: ss, i, h => by
    unfold posOf at h
    split at h
    · cases h
    · rename_i z
      have w : posOf rs i = none := by
        cases w : posOf rs i with
        | none => rfl
        | some l => rw [w] at h; cases h
      have ih := backE_off ρ (rs := rs) (ss := ss) w
      rw [← ih]
      cases r with
      | sl k =>
        show ((backE ρ rs ss).set k (own' s))[i]? = _
        rw [List.getElem?_set_ne (fun y => z (by subst y; exact isSl_self))]
      | dat _ => rfl
      | nw _ => rfl
theorem slotsOf_get {ρ : Env} : ∀ {rs : List Rs} {ss : List Sl} {i : Nat} {s : Sl}, slotsOf ρ rs = some ss → ss[i]? = some s → ∃ r, rs[i]? = some r ∧ slotOf ρ r = some s
  | [], ss, _, _, h, e => by cases h; simp at e
  | r :: rs, ss, i, s, h, e => by
    unfold slotsOf at h
    cases h1 : slotOf ρ r with
    | none => rw [h1] at h; cases h
    | some s1 =>
      cases h2 : slotsOf ρ rs with
      | none => rw [h1, h2] at h; cases h
      | some ss2 =>
        rw [h1, h2] at h
        cases h
        cases i with
        | zero => simp at e; subst e; exact ⟨r, rfl, h1⟩
        | succ i => exact slotsOf_get (i := i) h2 (by simpa using e)
theorem slotsOf_length {ρ : Env} : ∀ {rs : List Rs} {ss : List Sl}, slotsOf ρ rs = some ss → ss.length = rs.length
  | [], ss, h => by cases h; rfl
  | r :: rs, ss, h => by
    unfold slotsOf at h
    cases h1 : slotOf ρ r with
    | none => rw [h1] at h; cases h
    | some s1 =>
      cases h2 : slotsOf ρ rs with
      | none => rw [h1, h2] at h; cases h
      | some ss2 => rw [h1, h2] at h; cases h; rw [List.length_cons, List.length_cons, slotsOf_length h2]
theorem ArgsOk.get {K : PySem.W.Frag} {G : Hp} {σ : Stt} : ∀ {vs : List V} {rs : List Rs} {i : Nat} {r : Rs}, ArgsOk K G σ vs rs → rs[i]? = some r → ∃ v, vs[i]? = some v ∧ ArgOk K G σ v r
  | _, _, _, _, .nil, e => by simp at e
  | _, _, 0, _, .cons a _, e => by simp at e; subst e; exact ⟨_, rfl, a⟩
  | _, _, i + 1, _, .cons _ t, e => by
    obtain ⟨v, h1, h2⟩ := ArgsOk.get (i := i) t (by simpa using e)
    exact ⟨v, by simpa using h1, h2⟩
theorem ArgsOk.length {K : PySem.W.Frag} {G : Hp} {σ : Stt} : ∀ {vs : List V} {rs : List Rs}, ArgsOk K G σ vs rs → vs.length = rs.length
  | _, _, .nil => rfl
  | _, _, .cons _ t => congrArg (· + 1) t.length
def inW (ω : Own) (rs : List Rs) : Own := fun a => match ω a with
  | some i => posOf rs i
  | none => none
def outW (ω ω' : Own) (rs : List Rs) (n l : Nat) : Own := fun a => match ω' a with
  | some j => (match rs[j]? with
    | some (.sl i) => some i
    | _ => if j = n then some l else none)
  | none => (match ω a with
    | some i => if posOf rs i = none then some i else none
    | none => none)
section
variable {K : PySem.W.Frag} {B : Bs} {G : Hp} {ω : Own} {ρ : Env} {σ : Stt} {H : Hp} {vs : List V} {rs : List Rs} {args : List Sl}
theorem EnvW.enter (e : EnvW K B G ω ρ σ H) (ar : ArgsOk K G σ vs rs) (nd : slNd rs = true) (hs : slotsOf ρ rs = some args) : EnvW K (baseOf G H (inW ω rs) vs) G (inW ω rs) args (vs.map some) H where
  gle := e.gle
  g0 := fun a o q => .inl q
  keep := fun a o q _ => q
  own := fun a j q => by
    have q0 := q
    unfold inW at q
    split at q
    · rename_i i w
      obtain ⟨h1, h2, _⟩ := e.own a i w
      exact ⟨h1, h2, .inl (by show inW ω rs a ≠ none; rw [q0]; simp)⟩
    · cases q
  len := by rw [List.length_map, slotsOf_length hs, ar.length]
  slot := fun j s q => by
    obtain ⟨r, hr, es⟩ := slotsOf_get hs q
    obtain ⟨v, hv, ao⟩ := ar.get hr
    have hp : (vs.map some)[j]? = some (some v) := by rw [List.getElem?_map, hv]; rfl
    rw [hp]
    cases ao with
    | dat rp => cases es; exact ⟨_, rfl, rp⟩
    | sl hσ =>
      rename_i i
      have es' : (match ρ[i]? with | some s => if s.own = true then some s else none | none => none) = some s := es
      cases w : ρ[i]? with
      | none => rw [w] at es'; cases es'
      | some s1 =>
        rw [w] at es'
        dsimp only at es'
        split at es'
        · cases es'
          have sl := e.slot i _ w
          rw [hσ] at sl
          exact sl.mono (.refl _) fun a z => ⟨by unfold inW; rw [z]; exact posOf_nd nd hr, rfl⟩
        · cases es'
  pin := fun i s v z o p => p
theorem EnvW.back2 {G' H' : Hp} {ω' : Own} {ss : List Sl} (e : EnvW K B G ω ρ σ H) (ar : ArgsOk K G σ vs rs) (nd : slNd rs = true) (hs : slotsOf ρ rs = some args) (s : Same G G')
    (f : EnvW K (baseOf G H (inW ω rs) vs) G' ω' ss (vs.map some) H') : EnvW K B G' (outW ω ω' rs vs.length σ.length) (backE ρ rs ss) σ H' := by
  have lr := ar.length
  have ls : rs.length = ss.length := by rw [f.len, List.length_map]; exact lr.symm
  have inO : ∀ a, inW ω rs a ≠ none → B.A0 a ∨ B.H0 a = none := fun a z => by
    unfold inW at z
    cases w : ω a with
    | none => rw [w] at z; exact absurd rfl z
    | some i => exact (e.own a i w).2.2
  have off : ∀ a i, ω a = some i → posOf rs i = none → G' a = none ∧ H' a = H a ∧ ω' a = none := fun a i w p => by
    obtain ⟨h1, h2, h3⟩ := e.own a i w
    have na : ¬ inW ω rs a ≠ none := fun z => z (by unfold inW; rw [w]; exact p)
    cases q : H a with
    | none => exact absurd q h2
    | some o =>
      refine ⟨?_, f.keep a o q na, ?_⟩
      · cases y : G' a with
        | none => rfl
        | some u =>
          rcases f.g0 a u y with y | y | y
          · have y' : G a = some u := y
            rw [h1] at y'; cases y'
          · have y' : H a = none := y
            rw [q] at y'; cases y'
          · exact absurd y na
      · cases y : ω' a with
        | none => rfl
        | some j =>
          rcases (f.own a j y).2.2 with y | y
          · exact absurd y na
          · have y' : H a = none := y
            rw [q] at y'; cases y'
  refine ⟨f.gle, fun a o q => ?_, fun a o q n => ?_, fun a i q => ?_, by rw [backE_length]; exact e.len, fun i sl q => ?_, fun i sl v q o p => ?_⟩
  · rcases f.g0 a o q with q | q | q
    · exact e.g0 a o q
    · rcases e.gone (show H a = none from q) with z | z
      · exact .inr (.inr z)
      · exact .inr (.inl z)
    · rcases inO a q with z | z
      · exact .inr (.inr z)
      · exact .inr (.inl z)
  · refine f.keep a o (e.keep a o q n) fun z => ?_
    rcases inO a z with y | y
    · exact n y
    · rw [q] at y; cases y
  · unfold outW at q
    cases w : ω' a with
    | some j =>
      obtain ⟨h1, h2, h3⟩ := f.own a j w
      refine ⟨h1, h2, ?_⟩
      rcases h3 with z | z
      · exact inO a z
      · exact e.gone z
    | none =>
      rw [w] at q
      dsimp only at q
      cases y : ω a with
      | none => rw [y] at q; cases q
      | some k =>
        rw [y] at q
        dsimp only at q
        split at q
        · rename_i pn
          cases q
          obtain ⟨z1, z2, _⟩ := off a i y pn
          obtain ⟨_, h2, h3⟩ := e.own a i y
          exact ⟨z1, by rw [z2]; exact h2, h3⟩
        · cases q
  · cases p : posOf rs i with
    | none =>
      rw [backE_off ρ p] at q
      refine (e.slot i sl q).mono s fun a z => ?_
      obtain ⟨z1, z2, z3⟩ := off a i z p
      refine ⟨?_, z2⟩
      unfold outW
      rw [z3]
      dsimp only
      rw [z]
      dsimp only
      rw [if_pos p]
    | some j =>
      rw [backE_at ρ ls p] at q
      have hr := posOf_get p
      obtain ⟨v, hv, ao⟩ := ar.get hr
      cases ao with
      | sl hσ =>
        split at q
        · cases w : ss[j]? with
          | none => rw [w] at q; cases q
          | some s1 =>
            rw [w] at q
            cases q
            by_cases o : s1.own = true
            · have : own' s1 = s1 := if_pos o
              rw [this]
              have sl := f.slot j s1 w
              have hp : (vs.map some)[j]? = some (some v) := by rw [List.getElem?_map, hv]; rfl
              rw [hp] at sl
              rw [hσ]
              refine sl.mono (.refl _) fun a z => ⟨?_, rfl⟩
              unfold outW
              rw [z]
              dsimp only
              rw [hr]
            · have : own' s1 = .un := if_neg o
              rw [this]
              trivial
        · cases q
  · cases w : posOf rs i with
    | none =>
      rw [backE_off ρ w] at q
      exact e.pin i sl v q o p
    | some j =>
      -- it was owned ahead of the call
      have hr := posOf_get w
      have hj : j < args.length := by
        rw [slotsOf_length hs]
        exact (List.getElem?_eq_some_iff.mp hr).1
      obtain ⟨r, hr', es⟩ := slotsOf_get hs (List.getElem?_eq_getElem hj)
      rw [hr] at hr'
      cases hr'
      have es' : (match ρ[i]? with | some s => if s.own = true then some s else none | none => none) = some args[j] := es
      cases y : ρ[i]? with
      | none => rw [y] at es'; cases es'
      | some s1 =>
        rw [y] at es'
        dsimp only at es'
        split at es'
        · rename_i o1
          exact e.pin i s1 v y o1 p
        · cases es'
theorem outW_tag {ω' : Own} {n l : Nat} {a : Addr} (hn : rs.length = n) (h : ω' a = some n) : outW ω ω' rs n l a = some l := by
  unfold outW
  rw [h]
  dsimp only
  rw [List.getElem?_eq_none (by omega)]
  dsimp only
  rw [if_pos rfl]
end
theorem call_ok {K : PySem.W.Frag} {np n : Nat} {S : DSp} {t : DTA} {E : XK} (σ : Stt) (H : Hp) (Q : VK) (h : lift K np (dCall n S t) σ H Q) : liftA K np t σ H fun vs H1 => toSp K n S vs H1 Q E := by
  obtain ⟨B, G, ρ, Qd, hn, eo, h, k⟩ := h
  refine ⟨B, G, ρ, _, hn, eo, h, fun G1 vs rs ρ1 H1 s1 e1 ar q1 => ?_⟩
  obtain ⟨ω1, e1⟩ := e1
  obtain ⟨hl, nd, q1⟩ := q1
  split at q1
  · rename_i args hs
    refine ⟨G1, inW ω1 rs, args, _, by rw [ar.length]; exact hl, e1.enter ar nd hs, q1, fun G' ω' v r ss H' s f rr nsl q => ?_⟩
    have e2 := e1.back2 ar nd hs s f
    refine k _ _ _ _ _ (s1.trans s) ⟨_, e2, ?_⟩ q
    cases r with
    | dat d => exact rr
    | sl j => exact absurd rfl (nsl j)
    | nw sl =>
      refine ⟨rr.1, rr.2.mono (.refl _) fun a z => ⟨?_, rfl⟩⟩
      rw [List.length_map] at z
      exact outW_tag ar.length.symm z
  · exact q1.elim
section
variable {X : Cx} {CX : CXT} {k n : Nat} {f : Addr} {fd : FuncData} {ps : List Str} {S : DSp} {E : XK} {x : Str} {p pos : Pos} {e : Expr} {es : List Expr} {t : DTA} {np : Nat}
theorem d_call (F : FnOk X.prog X.w X.K X.mg X.base CX k f fd ps (toSp X.K n S)) (hr : Room k X.A) (hg : Gl X x) (hm : X.mg x = some (.ref f)) (hk : PySem.W.keepIn X.K (.ref f) = true) (hb : Binds X.K fd ps []) (hx : Passes CX X E)
    (ha : PA X (e :: es) (liftA X.K np t)) (hdb : (x == ("__debug__" : Str)) = false := by decide) (he : starEach (e :: es) X.env = (false, eval e X.env) :: starEach es X.env := by rfl) (hpl : (backTo pos (starEach es X.env)).any (·.1) = false := by rfl) :
    PE X (.Call (.Name x p) (e :: es) [] pos) (lift X.K np (dCall n S t)) := by
  refine (pe_call F hr hg hm hk hb .nil hx ha hdb he hpl).mo fun σ H Q h => ?_
  have := call_ok (E := E) σ H Q h
  obtain ⟨B, G, ρ, Qd, a, b, c, d⟩ := this
  exact ⟨B, G, ρ, Qd, a, b, c, fun G' vs rs ρ' H' s e ar q => by show toSp X.K n S (vs ++ []) H' Q E; rw [List.append_nil]; exact d _ _ _ _ _ s e ar q⟩
theorem d_call0 (F : FnOk X.prog X.w X.K X.mg X.base CX k f fd ps (toSp X.K n S)) (hr : Room k X.A) (hg : Gl X x) (hm : X.mg x = some (.ref f)) (hk : PySem.W.keepIn X.K (.ref f) = true) (hb : Binds X.K fd ps []) (hx : Passes CX X E)
    (hdb : (x == ("__debug__" : Str)) = false := by decide) : PE X (.Call (.Name x p) [] [] pos) (lift X.K np (dCall n S dNil)) := by
  refine (pe_call0 F hr hg hm hk hb .nil hx hdb).mo fun σ H Q h => ?_
  obtain ⟨B, G, ρ, Qd, hn, eo, h, k⟩ := h
  obtain ⟨ω, e0⟩ := eo
  have := call_ok (K := X.K) (np := np) (n := n) (S := S) (t := dNil) (E := E) σ H Q ⟨B, G, ρ, Qd, hn, ⟨ω, e0⟩, h, k⟩
  obtain ⟨hl, nd, q1⟩ := h
  refine ⟨G, inW ω [], [], _, hl, e0.enter .nil nd rfl, q1, fun G' ω' v r ss H' s f rr nsl q => ?_⟩
  have e2 := e0.back2 .nil nd rfl s f
  refine k _ _ _ _ _ s ⟨_, e2, ?_⟩ q
  cases r with
  | dat d => exact rr
  | sl j => exact absurd rfl (nsl j)
  | nw sl => exact ⟨rr.1, rr.2.mono (.refl _) fun a z => ⟨outW_tag rfl z, rfl⟩⟩
end
end TL

/-! TL9: calls by keywords alone; defs that are run while nothing is being shown (guards empty); the law's end. -/
namespace TL
open PySem PySem.Spec PyProof.Rows L2

/-! ### f(k = v, ..) -/
def sel {α : Type} (π : List Nat) (xs : List α) : List α := π.filterMap fun i => xs[i]?
def dCallKw (n : Nat) (S : DSp) (π : List Nat) (m : Nat) (t : DTA) : DTE := fun ρ Q => t ρ fun rs ρ1 => rs.length = m ∧ dCall n S (fun ρ Q => Q (sel π rs) ρ) ρ1 Q
def dPerm (π : List Nat) (t : DTA) : DTA := fun ρ Q => t ρ fun rs ρ1 => Q (sel π rs) ρ1
section
variable {X : Cx} {CX : CXT} {k n : Nat} {f : Addr} {fd : FuncData} {ps ks : List Str} {sp : Sp} {S : DSp} {E : XK} {x : Str} {p pos kpos : Pos} {e : Expr} {es : List Expr} {kws : List Keyword} {t tk : TA} {te : DTE} {ts : DTA} {np : Nat} {nm : Option Str}
  {g : List Value → List Value → List Value} {gV : List V → List V → List V}
theorem _root_.L2.PK.mo {t t' : TA} (h : PK X kws t) (m : ∀ σ H Q, t' σ H Q → t σ H Q) : PK X kws t' := ⟨fun pos pins s σ H Q I q => h.run pos pins s σ H Q I (m _ _ _ q)⟩
theorem dk_nil : PK X [] (liftA X.K np dNil) := pk_nil.mo fun σ H Q ⟨B, G, ρ, Qd, hn, eo, h, k⟩ => k _ _ _ _ _ (.refl _) eo .nil h
theorem dk_cons (ha : PE X e (lift X.K np te)) (hr : PK X kws (liftA X.K np ts)) : PK X (⟨nm, e, kpos⟩ :: kws) (liftA X.K np (dCons te ts)) := by
  refine (pk_cons ha hr).mo fun σ H Q h => ?_
  obtain ⟨B, G, ρ, Qd, hn, eo, h, k⟩ := h
  refine ⟨B, G, ρ, _, hn, eo, h, fun G1 v r ρ1 H1 s1 f1 q1 => ?_⟩
  obtain ⟨G2, s2, f2⟩ := f1.stl
  have key : ∀ r', r' = stl r → ArgOk X.K G2 σ v r' → ts ρ1 (fun rs ρ2 => Qd (r' :: rs) ρ2) → liftA X.K np ts σ H1 fun xs H2 => Q (v :: xs) H2 := fun r' er ao q =>
    ⟨B, G2, ρ1, _, hn, f2.env, q, fun G' vs rs ρ' H' s e ar qq => k _ _ _ _ _ ((s1.trans s2).trans s) e (.cons (ao.mono s) ar) qq⟩
  obtain ⟨ω, e2, r2⟩ := f2
  cases hr : stl r with
  | dat d => rw [hr] at q1 r2; exact key _ hr.symm (.dat r2) q1
  | sl i => rw [hr] at q1 r2; exact key _ hr.symm (.sl r2) q1
  | nw s => rw [hr] at q1; exact q1.elim
/-- keywords alone -/
theorem pe_callKw (F : FnOk X.prog X.w X.K X.mg X.base CX k f fd ps sp) (hr : Room k X.A) (hg : Gl X x) (hm : X.mg x = some (.ref f)) (hk : PySem.W.keepIn X.K (.ref f) = true) (hb : KBn X.K fd ps 0 ks g gV) (hx : Passes CX X E) (hkw : PK X kws tk)
    (hall : (backToKw pos (keywordEach kws X.env)).all (·.1.isSome) = true := by rfl) (hks : (backToKw pos (keywordEach kws X.env)).filterMap (·.1) = ks := by rfl) (hdb : (x == ("__debug__" : Str)) = false := by decide)
    (hpl : ((backTo pos (starEach [] X.env)).any (·.1) || (backToKw pos (keywordEach kws X.env)).any (·.1.isNone)) = false := by rfl) :
    PE X (.Call (.Name x p) [] kws pos) (fun σ H Q => tk σ H fun zs H2 => zs.length = ks.length ∧ sp (gV [] zs) H2 Q E) := by
  refine ⟨fun pns st σ H Q J h => ?_⟩
  refine wpAny_Call_Name_kw (ld_glob J hg hm ?_ hdb)
  refine PySem.W.callWith_KW0 (h₀ := X.base) J.ok.mod.kin hk hall ?_ hpl
  refine thn (hkw.run pos pns st σ H _ J h) fun vals st2 ⟨zs, H2, J2, rz, l2, q2⟩ => ⟨J2.kIn, ?_⟩
  rw [hks]
  exact run_fnN (us := []) (vs := []) F hr hb hx J2 .nil rz rfl l2 q2
theorem ArgsOk.sel {K : PySem.W.Frag} {G : Hp} {σ : Stt} {vs : List V} {rs : List Rs} (a : ArgsOk K G σ vs rs) : ∀ π : List Nat, ArgsOk K G σ (TL.sel π vs) (TL.sel π rs)
  | [] => .nil
  | i :: π => by
    unfold TL.sel
    rw [List.filterMap_cons, List.filterMap_cons]
    cases h : rs[i]? with
    | none =>
      have : vs[i]? = none := List.getElem?_eq_none (by have := a.length; have := List.getElem?_eq_none_iff.mp h; omega)
      rw [this]
      exact a.sel π
    | some r =>
      obtain ⟨v, hv, ao⟩ := a.get h
      rw [hv]
      exact .cons ao (a.sel π)
theorem d_callKw (π : List Nat) (F : FnOk X.prog X.w X.K X.mg X.base CX k f fd ps (toSp X.K n S)) (hr : Room k X.A) (hg : Gl X x) (hm : X.mg x = some (.ref f)) (hk : PySem.W.keepIn X.K (.ref f) = true)
    (hb : KBn X.K fd ps 0 ks (fun us ws => us ++ sel π ws) (fun us ws => us ++ sel π ws)) (hx : Passes CX X E) (hkw : PK X kws (liftA X.K np ts))
    (hall : (backToKw pos (keywordEach kws X.env)).all (·.1.isSome) = true := by rfl) (hks : (backToKw pos (keywordEach kws X.env)).filterMap (·.1) = ks := by rfl) (hdb : (x == ("__debug__" : Str)) = false := by decide)
    (hpl : ((backTo pos (starEach [] X.env)).any (·.1) || (backToKw pos (keywordEach kws X.env)).any (·.1.isNone)) = false := by rfl) :
    PE X (.Call (.Name x p) [] kws pos) (lift X.K np (dCallKw n S π ks.length ts)) := by
  refine (pe_callKw F hr hg hm hk hb hx hkw hall hks hdb hpl).mo fun σ H Q h => ?_
  obtain ⟨B, G, ρ, Qd, hn, eo, h, k⟩ := h
  refine ⟨B, G, ρ, _, hn, eo, h, fun G1 vs rs ρ1 H1 s1 e1 ar q1 => ?_⟩
  obtain ⟨hlen, q1⟩ := q1
  refine ⟨by rw [ar.length]; exact hlen, ?_⟩
  obtain ⟨ω1, e1⟩ := e1
  have ar' := ar.sel π
  obtain ⟨hl', nd, q1⟩ := q1
  split at q1
  · rename_i args hs
    show toSp X.K n S ([] ++ sel π vs) H1 Q E
    rw [List.nil_append]
    refine ⟨G1, inW ω1 (sel π rs), args, _, by rw [ar'.length]; exact hl', e1.enter ar' nd hs, q1, fun G' ω' v r ss H' s f rr nsl q => ?_⟩
    have e2 := e1.back2 ar' nd hs s f
    refine k _ _ _ _ _ (s1.trans s) ⟨_, e2, ?_⟩ q
    cases r with
    | dat d => exact rr
    | sl j => exact absurd rfl (nsl j)
    | nw sl =>
      refine ⟨rr.1, rr.2.mono (.refl _) fun a z => ⟨?_, rfl⟩⟩
      rw [List.length_map] at z
      exact outW_tag ar'.length.symm z
  · exact q1.elim
end
theorem vals_sel {vs : List V} {us : List Value} (r : Vals vs us) : ∀ π : List Nat, Vals (sel π vs) (sel π us)
  | [] => .nil
  | i :: π => by
    unfold TL.sel
    rw [List.filterMap_cons, List.filterMap_cons]
    cases h : vs[i]? with
    | none =>
      have : us[i]? = none := List.getElem?_eq_none (by have := r.length; have := List.getElem?_eq_none_iff.mp h; omega)
      rw [this]
      exact vals_sel r π
    | some v =>
      obtain ⟨u, hu, rv⟩ := r.get h
      rw [hu]
      exact .cons rv (vals_sel r π)
/-- how keywords bind where no parameter has a default -/
theorem kbn_mk {K : PySem.W.Frag} {fx qual : Str} {st : Stmt} {f : Addr} {fd : FuncData} {ps ks : List Str} (π : List Nat) (F : Fun K fx qual st f fd)
    (h : ∀ (kV doc pm : Value) (an : Option Addr) (cdv ct : Value) (ws : List Value), ws.length = ks.length → bindArgs (PySem.W.fnOf fx qual (defArgs st) (defBody st) (defScope st) .none kV doc pm an cdv ct) ⟨[], ks.zip ws⟩ = pure (ps.zip (sel π ws))) :
    KBn K fd ps 0 ks (fun us ws => us ++ sel π ws) (fun us ws => us ++ sel π ws) := by
  obtain ⟨oc, od, kV, doc, pm, an, cdv, ct, osl, rfl, lk, hcd⟩ := F.ex
  refine ⟨fun s us ws _ l1 l2 => ?_, fun r1 r2 => r1.append (vals_sel r2 π)⟩
  obtain rfl := List.length_eq_zero_iff.mp l1
  exact .of_eq (h kV doc pm an cdv ct ws l2)

/-! ### what is promised while nothing is being shown -/
structure FnG (P : Program) (w : World) (K : PySem.W.Frag) (mg : Str → Option Value) (base : Heap) (CX : CXT) (k : Nat) (f : Addr) (fd : FuncData) (ps : List Str) (sp : Sp) : Prop where
  cnt : ∀ xs H Q E, sp xs H Q E → xs.length = ps.length
  go : ∀ (A : Around) (up : List PySem.Env) (st : Shared) (H : Hp) (ar : Args) (us : List Value) (xs : List V) (Q : VK) (E : XK), A.guards = some [] → Room k A → Env0 P w K mg base A up st H → BindsTo st fd ar (ps.zip us) → Vals xs us → sp xs H Q E →
    codeAny (model P w) A (.call (.ref f) ar) (CR CX up P w H st Q E) st
section
variable {P : Program} {w : World} {K : PySem.W.Frag} {mg : Str → Option Value} {base : Heap}
theorem Around.guards_deeper' {A : Around} {env : PySem.Env} (h : A.guards = some []) : (A.deeper env).guards = some [] := h
theorem okG_tree {CX : CXT} {x qual : Str} {st : Stmt} {f : Addr} {fd : FuncData} {N ps : List Str} {k : Nat} {S : DSp} {t : DTS} (F : Fun K x qual st f fd) (sc : FnScope N ps (defScope st))
    (hb : ∀ (cdv : Value) (A : Around) (outer : List PySem.Env) (s : Shared) (H : Hp) (E : XK), A.guards = some [] → Room k (A.deeper (envOfC qual (defScope st) s.heap.objs.size f cdv)) →
      PSs (cxOf CX P w K mg base N qual (defScope st) f cdv A outer s H E) (defBody st) (liftS K ps.length t))
    (hS : Keeps S ps.length N.length t) : FnG P w K mg base CX (k + 1) f fd ps (toSp K ps.length S) := by
  obtain ⟨oc, od, kV, doc, pm, an, cdv, ct, osl, rfl, found, coded⟩ := F.ex
  refine ⟨fun xs H Q E z => by obtain ⟨_, _, _, _, z, _⟩ := z; exact z, fun A up s0 H ar us xs Q E gz room en bt vv pr => ?_⟩
  have cnt := (show xs.length = ps.length by obtain ⟨_, _, _, _, z, _⟩ := pr; exact z)
  have inK : K.In s0.heap := en.mod.kin.keeps fun b o y => (en.bs b o y).1
  have free : s0.heap.NoLimit := en.mod.nolimit.keeps fun b o y => (en.bs b o y).1
  have kinds : ∀ y ∈ ps.zip us, (defScope st).names.lookup y.1 = some .local ∨ ((defScope st).names.lookup y.1 = some .cell ∧ ((cellsFrom (s0.heap.objs.size + 1) (defScope st).names []).lookup y.1).isSome = true) := by
    rintro ⟨nm, v⟩ hy
    rcases sc.par nm (List.of_mem_zip hy).1 with z | z
    · exact .inl z
    · exact .inr ⟨z, PySem.W.cellsFrom_some _ _ _ (.inl z)⟩
  refine codeAny_call_function room.depth (inK _ _ found) rfl sc.co sc.gen rfl (PySem.W.codeRec_of inK coded) (bt _ _ _ _ ?_)
  refine wpAny_newFunctionEnv_cells sc.kind kinds fun ev hev s1 ic => ?_
  subst hev
  refine ⟨free.keeps ic.toInCall.keep, codeAny_func ?_⟩
  have J : Inv (cxOf CX P w K mg base N qual (defScope st) f cdv A up s0 H E) [] (L2.start N xs) H s1 := inv_start sc room.hd en cnt vv ic
  refine wpAny_mono ((hb cdv A up s0 H E gz (room.deeper _)).run [] s1 (L2.start N xs) H _ J (body_ok hS pr)) (fun fl s2 hs => ?_) fun _ _ y => y
  cases fl with
  | ret u =>
    obtain ⟨v, σ2, H2, J2, rv, q⟩ := hs
    exact ⟨v, H2, J2.os, J2.bare, J2.base, J2.hok, rv, q⟩
  | next =>
    obtain ⟨σ2, H2, J2, q⟩ := hs
    exact ⟨.non, H2, J2.os, J2.bare, J2.base, J2.hok, rfl, q⟩
  | brk =>
    obtain ⟨_, _, _, q⟩ := hs
    exact q.elim
  | cont =>
    obtain ⟨_, _, _, q⟩ := hs
    exact q.elim
/-- the law's call -/
theorem law_callG {mb : Str → Option Value} {CX : CXT} {k : Nat} {fa a : Addr} {fd : FuncData} {x : Str} {sp : Sp} {s1 : Shared} {vs : List Value} {ns : List Int}
    (inK : K.In s1.heap) (nsM : s1.heap.Ns mainGlobals mg) (nsB : s1.heap.Ns builtinsNs mb) (agree : ∀ y : Str, y ≠ "__name__" → mb y = bootBuiltins y) (free : s1.heap.NoLimit) (bareG : s1.gens = #[])
    (at_ : s1.heap.get? a = some { cls := .type "list", data := .seq vs.toArray }) (ints_ : IntsAre vs ns) (few : ns.length ≤ sizeLine) (room : Room k callerA)
    (F : ∀ base : Heap, K.In base → base.Ns mainGlobals mg → FnG P w K mg base CX k fa fd [x] sp) (bt : ∀ (s : Shared) (u : Value), BindsTo s fd ⟨[u], []⟩ [(x, u)])
    (pr : ∀ H : Hp, Only H → SqL K H a (ns.map V.int) → sp [.ref a] H (fun v _ => v = .bl true) fun _ _ _ => False)
    (noX : ∀ H e s', CX [] H s1 (fun _ _ _ => False) e s' → False) :
    codeAny (model P w) callerA (.call (.ref fa) ⟨[.ref a], []⟩) (fun r s' => r = .ok (.ret (.bool true)) ∧ OldK s1.heap s'.heap ∧ s'.os = s1.os ∧ AllBare s'.gens) s1 := by
  have rel := vals_ints ints_
  have same := ints_.length
  have main : ∀ H : Hp, Only H → SqL K H a (ns.map V.int) → HOk P w H s1.heap → (∀ b, H b ≠ none → b = a) → (H a ≠ none → K.lookup a = none) →
      codeAny (model P w) callerA (.call (.ref fa) ⟨[.ref a], []⟩) (fun r s' => r = .ok (.ret (.bool true)) ∧ OldK s1.heap s'.heap ∧ s'.os = s1.os ∧ AllBare s'.gens) s1 := by
    intro H only sq hok lone hid
    have keepB : ∀ {b : Addr} {o : Obj}, s1.heap.get? b = some o → H b = none → (hidT s1.heap H).get? b = some o := fun y z => hidT_get y z
    have offD : ∀ {b : Addr} {o : Obj} {es : Array DictEntry} {ep : Nat}, s1.heap.get? b = some o → o.data = .dict es ep → H b = none := by
      intro b o es ep y dd
      cases z : H b with
      | none => rfl
      | some u =>
        obtain rfl : b = a := lone b (by rw [z]; simp)
        rw [at_] at y
        cases y
        have dd' : Data.seq vs.toArray _ = Data.dict es ep := dd
        cases dd'
    have nsH : ∀ {b : Addr} {m : Str → Option Value}, s1.heap.Ns b m → (hidT s1.heap H).Ns b m := by
      rintro b m ⟨o, es, ep, y, dd, z⟩
      exact ⟨o, es, ep, keepB y (offD y dd), dd, z⟩
    have inH : K.In (hidT s1.heap H) := fun b o y => keepB (inK b o y) (by
      cases z : H b with
      | none => rfl
      | some u =>
        obtain rfl : b = a := lone b (by rw [z]; simp)
        rw [hid (by rw [z]; simp)] at y
        cases y)
    have md : Mod K mg (hidT s1.heap H) := ⟨inH, nsH nsM, ⟨mb, nsH nsB, agree⟩, let ⟨mc, z1, z2⟩ := free; ⟨mc, nsH z1, z2⟩⟩
    have en : Env0 P w K mg (hidT s1.heap H) callerA [] s1 H :=
      ⟨rfl, md, fun b o y => of_hidT y, Nat.le_of_eq (hidT_size _ _), trivial, fun b hb => absurd (show b ∈ ([] : List Addr) from hb) (by simp), hok, .of_eq bareG⟩
    refine codeAny_mono ((F _ inH (nsH nsM)).go callerA [] s1 H ⟨[.ref a], []⟩ [.ref a] [.ref a] _ _ rfl room en (bt s1 (.ref a)) (.cons rfl .nil) (pr H only sq)) fun r s2 z => ?_
    cases r with
    | error ex => exact (noX H ex s2 z).elim
    | ok fl =>
      cases fl with
      | next => exact z.elim
      | brk => exact z.elim
      | cont => exact z.elim
      | ret u =>
        obtain ⟨v, H2, osq, bareq, unq, hok2, rv, hv⟩ := z
        obtain rfl : v = .bl true := hv
        obtain rfl : u = Value.bool true := rv
        refine ⟨rfl, OldK.of_keep fun b o y => ?_, osq, bareq⟩
        cases z : H b with
        | none => exact unq.keep b o y z (by intro u; exact absurd (show b ∈ ([] : List Addr) from u) (by simp)) (by simp)
        | some u =>
          rcases only b with y2 | ⟨ob, xs, y2⟩
          · rw [z] at y2; cases y2
          · have y3 := unq.frzs b ob _ y2
            obtain ⟨e1, _⟩ := hok b _ y2
            obtain ⟨e2, _⟩ := hok2 b _ y3
            rw [y] at e1
            cases e1
            exact e2
  cases inMod : K.lookup a with
  | some o =>
    have y := inK a o inMod
    rw [at_] at y
    cases y
    exact main (fun _ => none) (fun _ => .inl rfl) (.inr ⟨_, vs.toArray, _, inMod, rfl, rfl, rfl, by rw [List.size_toArray, same]; exact few, by simpa using rel⟩) (fun b u z => by cases (show (none : Option HO) = some u from z)) (fun b z => absurd rfl z) fun z => absurd rfl z
  | none =>
    refine main (fun b => if b = a then some (.frz { cls := .type "list", data := .seq vs.toArray } (.lst (ns.map V.int))) else none) (fun b => ?_) (.inl (.inr ⟨{ cls := .type "list", data := .seq vs.toArray }, if_pos rfl⟩)) (fun b u z => ?_) (fun b z => ?_) fun _ => inMod
    · rcases Classical.em (b = a) with y | y
      · exact .inr ⟨_, _, if_pos y⟩
      · exact .inl (if_neg y)
    · rcases Classical.em (b = a) with y | y
      · cases (if_pos y).symm.trans z
        subst y
        exact ⟨at_, by rw [List.length_map]; exact few, vs, _, rel, at_⟩
      · cases (if_neg y).symm.trans z
    · rcases Classical.em (b = a) with y | y
      · exact y
      · exact absurd (if_neg y) z
end
/-- a law's end -/
theorem walk_ofG {l : PySem.W.OpenLaw} {n k : Nat} {q : Program} {loose : List Str} {XP : (Str → Option Value) → Heap → Prop} {YP : World → Heap → Prop} {d : DefRec} {K : Params → PySem.W.Frag} {CX : World → CXT} {sp : World → Sp} {x : Str}
    (most : l.most = some n) (fits : n ≤ sizeLine) (plainD : d.params.defaults = []) (room : Room k callerA) (inY : ∀ (w : World) (h : Heap), YP w h → (K w.params).In h)
    (F : ∀ (w : World) (mg : Str → Option Value) (fa : Addr) (h : Heap), (K w.params).In h → h.Ns mainGlobals mg → mg d.name = some (.ref fa) →
      ∃ fd : FuncData, (∀ (s : Shared) (u : Value), BindsTo s fd ⟨[u], []⟩ [(x, u)]) ∧ ∀ base : Heap, (K w.params).In base → base.Ns mainGlobals mg → FnG l.prog w (K w.params) mg base (CX w) k fa fd [x] (sp w))
    (pr : ∀ (w : World) (H : Hp) (a : Addr) (ns : List Int), ns.length ≤ n → Only H → SqL (K w.params) H a (ns.map V.int) → sp w [.ref a] H (fun v _ => v = .bl true) fun _ _ _ => False)
    (noX : ∀ (w : World) (H : Hp) (s : Shared) (e : Value) (s' : Shared), CX w [] H s (fun _ _ _ => False) e s' → False) :
    PySem.W.WalkO q loose XP YP l.row.toRowW d [] (fun f vs => PySem.call f vs) := by
  refine Att.attach_call most plainD fun w s0 s1 mg mb fa o pm cd doc a vs ns G Y ho hd hcd at_mg obj_ ints_ len_ bareG => ?_
  have inK := inY w _ Y
  obtain ⟨fd, bt, FF⟩ := F w mg fa _ inK G.T.g at_mg
  exact law_callG inK G.T.g G.T.b G.T.builtins G.T.nolimit bareG obj_ ints_ (Nat.le_trans len_ fits) room FF bt (fun H only sq => pr w H a ns len_ only sq) fun H e s2 => noX w H s1 e s2
/-- a law's promise at its entry: the script alone -/
theorem law_sp {K : PySem.W.Frag} {S : DSp} {H : Hp} {a : Addr} {ns : List Int} (only : Only H) (sq : SqL K H a (ns.map V.int)) (h : S [.fr (.scr ns)] fun r _ => r = .dat (.bl true)) : toSp K 1 S [.ref a] H (fun v _ => v = .bl true) fun _ _ _ => False := by
  refine ⟨H, fun _ => none, [.fr (.scr ns)], _, rfl, ⟨.refl _, fun _ _ z => .inl z, fun _ _ z _ => z, (fun a i z => by cases (show (none : Option Nat) = some i from z)), rfl, fun i s z => ?_, fun i s v z o p => ?_⟩, h, fun G' ω' v r args' H' s e rr _ q => ?_⟩
  · cases i with
    | zero => cases z; exact ⟨_, rfl, .scr sq⟩
    | succ i => cases z
  · cases i with
    | zero => cases z; cases o
    | succ i => cases z
  · subst q
    cases rr
    rfl
end TL

/-! TL10: the law's source of draws. -/
namespace TL
open PySem PySem.Spec PyProof.Rows L2

def stK (L C : Addr) (r t : Int) : List (Key × V) := [(Sum.inr "large", .ref L), (Sum.inr "cells", .ref C), (Sum.inr "rest", .int r), (Sum.inr "turn", .int t)]
theorem kLC : ¬ (Sum.inr ("large" : Str) : Key) = Sum.inr ("cells" : Str) := by decide +kernel
theorem kLR : ¬ (Sum.inr ("large" : Str) : Key) = Sum.inr ("rest" : Str) := by decide +kernel
theorem kLT : ¬ (Sum.inr ("large" : Str) : Key) = Sum.inr ("turn" : Str) := by decide +kernel
theorem kCR : ¬ (Sum.inr ("cells" : Str) : Key) = Sum.inr ("rest" : Str) := by decide +kernel
theorem kCT : ¬ (Sum.inr ("cells" : Str) : Key) = Sum.inr ("turn" : Str) := by decide +kernel
theorem kRT : ¬ (Sum.inr ("rest" : Str) : Key) = Sum.inr ("turn" : Str) := by decide +kernel
section
variable {L C : Addr} {r t z : Int}
theorem stK_large : valV (stK L C r t) (Sum.inr "large") = some (.ref L) := valV_pos rfl
theorem stK_cells : valV (stK L C r t) (Sum.inr "cells") = some (.ref C) := (valV_neg kLC).trans (valV_pos rfl)
theorem stK_rest : valV (stK L C r t) (Sum.inr "rest") = some (.int r) := (valV_neg kLR).trans ((valV_neg kCR).trans (valV_pos rfl))
theorem stK_turn : valV (stK L C r t) (Sum.inr "turn") = some (.int t) := (valV_neg kLT).trans ((valV_neg kCT).trans ((valV_neg kRT).trans (valV_pos rfl)))
theorem stK_setRest : putK (stK L C r t) (Sum.inr "rest") (.int z) = stK L C z t := by
  unfold putK
  rw [if_pos (by rw [valV_any, stK_rest]; rfl)]
  unfold stK
  simp only [List.map_cons, List.map_nil, if_neg kLR, if_neg kCR, if_pos, if_neg (fun h => kRT (Eq.symm h))]
theorem stK_setTurn : putK (stK L C r t) (Sum.inr "turn") (.int z) = stK L C r z := by
  unfold putK
  rw [if_pos (by rw [valV_any, stK_turn]; rfl)]
  unfold stK
  simp only [List.map_cons, List.map_nil, if_neg kLT, if_neg kCT, if_neg kRT, if_pos]
theorem putK_new {kvs : List (Key × V)} {k : Key} {v : V} (h : valV kvs k = none) : putK kvs k v = kvs ++ [(k, v)] := by
  unfold putK
  rw [if_neg (by rw [valV_any, h]; simp)]
theorem stK_merge : mergeK [] (stK L C r t) = stK L C r t := by
  show putK (putK (putK (putK ([] : List (Key × V)) (Sum.inr ("large" : Str)) (V.ref L)) (Sum.inr ("cells" : Str)) (V.ref C)) (Sum.inr ("rest" : Str)) (V.int r)) (Sum.inr ("turn" : Str)) (V.int t) = _
  have e1 : putK ([] : List (Key × V)) (Sum.inr ("large" : Str)) (V.ref L) = ([(Sum.inr ("large" : Str), V.ref L)] : List (Key × V)) := putK_new valV_nil
  have e2 : putK ([(Sum.inr ("large" : Str), V.ref L)] : List (Key × V)) (Sum.inr ("cells" : Str)) (V.ref C) = [(Sum.inr ("large" : Str), V.ref L), (Sum.inr ("cells" : Str), V.ref C)] := putK_new ((valV_neg kLC).trans valV_nil)
  have e3 : putK ([(Sum.inr ("large" : Str), V.ref L), (Sum.inr ("cells" : Str), V.ref C)] : List (Key × V)) (Sum.inr ("rest" : Str)) (V.int r) = [(Sum.inr ("large" : Str), V.ref L), (Sum.inr ("cells" : Str), V.ref C), (Sum.inr ("rest" : Str), V.int r)] := putK_new ((valV_neg kLR).trans ((valV_neg kCR).trans valV_nil))
  rw [e1, e2, e3]
  exact putK_new ((valV_neg kLT).trans ((valV_neg kCT).trans ((valV_neg kRT).trans valV_nil)))
end

/-! ### an owned thing is changed -/
theorem EnvW.mutG {K : PySem.W.Frag} {B : Bs} {G : Hp} {ω : Own} {ρ : Env} {σ : Stt} {H : Hp} (e : EnvW K B G ω ρ σ H) {i : Nat} {s s' : Sl} {p : Addr} {o : HO} (hs : ρ[i]? = some s) (ho : s.own = true) (hp : ω p = some i)
    (hn : SlOk K G (upd H p o) (fun a => ω a = some i) σ[i]? s') : EnvW K B G ω (ρ.set i s') σ (upd H p o) := by
  obtain ⟨g1, g2, g3⟩ := e.own p i hp
  refine ⟨fun a u q => ?_, e.g0, fun a u q n => ?_, fun a j q => ?_, by rw [List.length_set]; exact e.len, fun j sl q => ?_, fun j sl w q o' pp => ?_⟩
  · rw [upd_ne (fun z => by subst z; rw [g1] at q; cases q)]; exact e.gle _ _ q
  · rw [upd_ne (fun z => by
      subst z
      rcases g3 with z | z
      · exact n z
      · rw [z] at q; cases q)]
    exact e.keep _ _ q n
  · obtain ⟨h1, h2, h3⟩ := e.own a j q
    refine ⟨h1, ?_, h3⟩
    by_cases ha : a = p
    · subst ha; rw [upd_same]; simp
    · rw [upd_ne ha]; exact h2
  · by_cases hj : j = i
    · subst hj
      have hl : j < ρ.length := by have := (List.getElem?_eq_some_iff.mp q).1; rwa [List.length_set] at this
      rw [List.getElem?_set_self hl] at q
      cases q
      exact hn
    · rw [List.getElem?_set_ne (Ne.symm hj)] at q
      exact (e.slot j sl q).mono (.refl _) fun a z => ⟨z, upd_ne fun w => by subst w; rw [hp] at z; exact hj (Option.some.inj z).symm⟩
  · by_cases hj : j = i
    · subst hj
      exact e.pin j s w hs ho pp
    · rw [List.getElem?_set_ne (Ne.symm hj)] at q
      exact e.pin j sl w q o' pp

section
variable {K : PySem.W.Frag} {B : Bs} {G : Hp} {ω : Own} {ρ : Env} {σ : Stt} {H : Hp} {i b : Nat} {Lg Cs : List Int} {r t : Int}
/-- the slot that holds the source -/
theorem EnvW.st (e : EnvW K B G ω ρ σ H) (h : ρ[i]? = some (.rs (.stx Lg Cs r t b))) : ∃ S L C, σ[i]? = some (some (.ref S)) ∧ ω S = some i ∧ ω L = some i ∧ H S = some (.dK (stK L C r t)) ∧ H L = some (.lst (Lg.map V.int)) ∧ G C = some (.lst (Cs.map V.int)) ∧
    Lg.length ≤ 63 ∧ Cs.length ≤ 63 ∧ 0 ≤ t ∧ t + b ≤ 1000000000000 := by
  obtain ⟨v, e1, S, L, C, rfl, f1, f2, h1, h2, h3, h4⟩ := e.slot i _ h
  exact ⟨S, L, C, e1, f1, f2, h1, h2, h3, h4⟩
theorem EnvW.stSet (e : EnvW K B G ω ρ σ H) (h : ρ[i]? = some (.rs (.stx Lg Cs r t b))) {r' t' : Int} {b' : Nat} (ht : 0 ≤ t' ∧ t' + b' ≤ 1000000000000) {S L C : Addr} (e1 : σ[i]? = some (some (.ref S))) (h1 : H S = some (.dK (stK L C r t))) :
    EnvW K B G ω (ρ.set i (.rs (.stx Lg Cs r' t' b'))) σ (upd H S (.dK (stK L C r' t'))) := by
  obtain ⟨S', L', C', e1', f1, f2, h1', h2, h3, h4, h5, _⟩ := e.st h
  rw [e1] at e1'
  cases e1'
  rw [h1] at h1'
  have : L = L' ∧ C = C' := by
    unfold stK at h1'
    simp at h1'
    exact h1'
  obtain ⟨rfl, rfl⟩ := this
  have ne : L ≠ S := fun z => by subst z; rw [h1] at h2; cases h2
  refine e.mutG h rfl f1 ⟨.ref S, e1, S, L, C, rfl, f1, f2, upd_same, ?_, h3, h4, h5, ht⟩
  rw [upd_ne ne]
  exact h2
theorem EnvW.stPop {x : Int} (e : EnvW K B G ω ρ σ H) (h : ρ[i]? = some (.rs (.stx (x :: Lg) Cs r t b))) {S L C : Addr} (e1 : σ[i]? = some (some (.ref S))) (h1 : H S = some (.dK (stK L C r t))) :
    EnvW K B G ω (ρ.set i (.rs (.stx Lg Cs r t b))) σ (upd H L (.lst (Lg.map V.int))) := by
  obtain ⟨S', L', C', e1', f1, f2, h1', h2, h3, h4, h5, h6⟩ := e.st h
  rw [e1] at e1'
  cases e1'
  rw [h1] at h1'
  have : L = L' ∧ C = C' := by
    unfold stK at h1'
    simp at h1'
    exact h1'
  obtain ⟨rfl, rfl⟩ := this
  have ne : S ≠ L := fun z => by subst z; rw [h1] at h2; cases h2
  refine e.mutG h rfl f2 ⟨.ref S, e1, S, L, C, rfl, f1, f2, ?_, upd_same, h3, ?_, h5, h6⟩
  · rw [upd_ne ne]
    exact h1
  · rw [List.length_cons] at h4
    omega
/-- laid open -/
theorem EnvW.opn (e : EnvW K B G ω ρ σ H) (h : ρ[i]? = some (.rs (.st b))) : ∃ (Lg Cs : List Int) (r t : Int), Lg.length ≤ 63 ∧ Cs.length ≤ 63 ∧ 0 ≤ t ∧ t + b ≤ 1000000000000 ∧ EnvW K B G ω (ρ.set i (.rs (.stx Lg Cs r t b))) σ H := by
  obtain ⟨v, e1, lg, cs, r, t, hx⟩ := e.slot i _ h
  have hx0 := hx
  obtain ⟨S, L, C, rfl, f1, f2, h1, h2, h3, h4, h5, h6, h7⟩ := hx
  refine ⟨lg, cs, r, t, h4, h5, h6, h7, ?_⟩
  have := e.mutG (o := .dK (stK L C r t)) h rfl f1 (s' := .rs (.stx lg cs r t b)) ⟨.ref S, e1, S, L, C, rfl, f1, f2, upd_same, by rw [upd_ne (fun z => by subst z; rw [h1] at h2; cases h2)]; exact h2, h3, h4, h5, h6, h7⟩
  rwa [show upd H S (.dK (stK L C r t)) = H from by
    funext a
    by_cases ha : a = S
    · subst ha; rw [upd_same]; exact h1.symm
    · rw [upd_ne ha]] at this
/-- closed -/
theorem EnvW.shut (e : EnvW K B G ω ρ σ H) (h : ρ[i]? = some (.rs (.stx Lg Cs r t b))) : EnvW K B G ω (ρ.set i (.rs (.st b))) σ H := by
  obtain ⟨S, L, C, e1, f1, f2, h1, h2, h3, h4, h5, h6, h7⟩ := e.st h
  have := e.mutG (o := .dK (stK L C r t)) h rfl f1 (s' := .rs (.st b)) ⟨.ref S, e1, Lg, Cs, r, t, S, L, C, rfl, f1, f2, upd_same, by rw [upd_ne (fun z => by subst z; rw [h1] at h2; cases h2)]; exact h2, h3, h4, h5, h6, h7⟩
  rwa [show upd H S (.dK (stK L C r t)) = H from by
    funext a
    by_cases ha : a = S
    · subst ha; rw [upd_same]; exact h1.symm
    · rw [upd_ne ha]] at this
end
def WX (o : Option Sl) (P : List Int → List Int → Int → Int → Nat → Prop) : Prop := match o with
  | some (.rs (.stx L C r t b)) => P L C r t b
  | _ => False
theorem WX.of {o : Option Sl} {P : List Int → List Int → Int → Int → Nat → Prop} (h : WX o P) : ∃ L C r t b, o = some (.rs (.stx L C r t b)) ∧ P L C r t b := by
  unfold WX at h
  split at h
  · exact ⟨_, _, _, _, _, rfl, h⟩
  · exact h.elim
def shut1 (i : Nat) (P : Env → Prop) : Env → Prop := fun ρ => WX ρ[i]? fun _ _ _ _ b => P (ρ.set i (.rs (.st b)))
def dDraw (i : Nat) (u : DTS) : DTS := fun D ρ => ∃ b, ρ[i]? = some (.rs (.st b)) ∧ ∀ (L C : List Int) (r t : Int), L.length ≤ 63 → C.length ≤ 63 → 0 ≤ t → t + b ≤ 1000000000000 →
  u { nx := shut1 i D.nx, rt := fun x => match x with | .dat d => shut1 i (D.rt (.dat d)) | _ => fun _ => False, bk := shut1 i D.bk, ct := shut1 i D.ct } (ρ.set i (.rs (.stx L C r t b)))
def dStRest (i : Nat) : DTE := fun ρ Q => WX ρ[i]? fun _ _ r _ _ => Q (.dat (.int r)) ρ
def dStTurn (i : Nat) : DTE := fun ρ Q => WX ρ[i]? fun _ _ _ t _ => Q (.dat (.int t)) ρ
def dStCells (i : Nat) : DTE := fun ρ Q => WX ρ[i]? fun _ C _ _ _ => Q (.dat (.lst (C.map .int))) ρ
def dStAny (i : Nat) : DTT := fun ρ Q => WX ρ[i]? fun L _ _ _ _ => Q (!L.isEmpty) ρ
def dStPop (i : Nat) : DTE := fun ρ Q => WX ρ[i]? fun L C r t b => match L with
  | x :: L' => Q (.dat (.int x)) (ρ.set i (.rs (.stx L' C r t b)))
  | [] => False
def dStSetRest (i : Nat) (te : DTE) : DTS := fun D ρ => te ρ fun x ρ1 => match x with
  | .dat (.int z) => WX ρ1[i]? fun L C _ t b => D.nx (ρ1.set i (.rs (.stx L C z t b)))
  | _ => False
/-- a turn is counted: the budget goes down -/
def dStSetTurn (i : Nat) (te : DTE) : DTS := fun D ρ => te ρ fun x ρ1 => match x with
  | .dat (.int z) => WX ρ1[i]? fun L C r t b => ∃ b', z = t + 1 ∧ b = b' + 1 ∧ D.nx (ρ1.set i (.rs (.stx L C r z b')))
  | _ => False
section
variable {X : Cx} {np : Nat} {x : Str} {p p2 pos : Pos} {j : Option Str} {te : DTE} {e : Expr} {st : Stmt} {sts : List Stmt} {u : DTS}
theorem stN {i : Expr} {x j pos} (h : i = .Constant (.str x) j pos) : NoSl i := by subst h; intro o iv; rfl
theorem st_key (i : Nat) {key : Str} {f : List Int → List Int → Int → Int → V} {d : List Int → List Int → Int → Int → D} (hu : X.A.units + 1 < cLine) (hN : X.N[i]? = some x) (hv : Vis X.env.scope x) (hd : (x == ("__debug__" : Str)) = false) (hcd : (x == ("__classdict__" : Str)) = false)
    {kk} (hk : ∀ (Lg Cs : List Int) (r t : Int) (L C : Addr), ∃ v, valV (stK L C r t) (Sum.inr key) = some v ∧ ∀ (G : Hp), G C = some (.lst (Cs.map V.int)) → Rp X.K G v (d Lg Cs r t)) :
    PE X (.Subscript (.Name x p) (.Constant (.str key) kk p2) pos) (lift X.K np fun ρ Q => WX ρ[i]? fun L C r t _ => Q (.dat (d L C r t)) ρ) := by
  refine (pe_dget hu (pe_var (i := i) hN hv hd hcd) pe_str (stN rfl)).mo fun σ H Q h => ?_
  obtain ⟨B, G, ρ, Qd, hn, ⟨ω, ew⟩, h, k⟩ := h
  obtain ⟨Lg, Cs, r, t, b, hx, h⟩ := WX.of h
  obtain ⟨S, L, C, e1, f1, f2, h1, h2, h3, _⟩ := ew.st hx
  obtain ⟨v, hv, rv⟩ := hk Lg Cs r t L C
  refine ⟨.ref S, e1, S, v, rfl, ?_, k _ _ _ _ _ (.refl _) (ew.dat (rv G h3)) h⟩
  have := DGet.k (k := Sum.inr key) h1
  rwa [hv] at this
theorem d_stRest (i : Nat) {kk} (hu : X.A.units + 1 < cLine) (hN : X.N[i]? = some x := by rfl) (hv : Vis X.env.scope x := by first | exact Or.inl rfl | exact Or.inr (Or.inl rfl) | exact Or.inr (Or.inr rfl)) (hd : (x == ("__debug__" : Str)) = false := by decide) (hcd : (x == ("__classdict__" : Str)) = false := by decide) :
    PE X (.Subscript (.Name x p) (.Constant (.str "rest") kk p2) pos) (lift X.K np (dStRest i)) :=
  st_key i (f := fun _ _ r _ => .int r) (d := fun _ _ r _ => .int r) hu hN hv hd hcd fun Lg Cs r t L C => ⟨_, stK_rest, fun G _ => .int r⟩
theorem d_stTurn (i : Nat) {kk} (hu : X.A.units + 1 < cLine) (hN : X.N[i]? = some x := by rfl) (hv : Vis X.env.scope x := by first | exact Or.inl rfl | exact Or.inr (Or.inl rfl) | exact Or.inr (Or.inr rfl)) (hd : (x == ("__debug__" : Str)) = false := by decide) (hcd : (x == ("__classdict__" : Str)) = false := by decide) :
    PE X (.Subscript (.Name x p) (.Constant (.str "turn") kk p2) pos) (lift X.K np (dStTurn i)) :=
  st_key i (f := fun _ _ _ t => .int t) (d := fun _ _ _ t => .int t) hu hN hv hd hcd fun Lg Cs r t L C => ⟨_, stK_turn, fun G _ => .int t⟩
theorem d_stCells (i : Nat) {kk} (hu : X.A.units + 1 < cLine) (hN : X.N[i]? = some x := by rfl) (hv : Vis X.env.scope x := by first | exact Or.inl rfl | exact Or.inr (Or.inl rfl) | exact Or.inr (Or.inr rfl)) (hd : (x == ("__debug__" : Str)) = false := by decide) (hcd : (x == ("__classdict__" : Str)) = false := by decide) :
    PE X (.Subscript (.Name x p) (.Constant (.str "cells") kk p2) pos) (lift X.K np (dStCells i)) :=
  st_key i (f := fun _ _ _ t => .int t) (d := fun _ C _ _ => .lst (C.map .int)) hu hN hv hd hcd fun Lg Cs r t L C => ⟨_, stK_cells, fun G g => .lst g (RpL.ints Cs)⟩
/-- st["large"] != [] -/
theorem d_stAny (i : Nat) {kk p3 p4} (hu : X.A.units + 1 < cLine) (hN : X.N[i]? = some x := by rfl) (hv : Vis X.env.scope x := by first | exact Or.inl rfl | exact Or.inr (Or.inl rfl) | exact Or.inr (Or.inr rfl)) (hd : (x == ("__debug__" : Str)) = false := by decide) (hcd : (x == ("__classdict__" : Str)) = false := by decide) :
    PT X (.Compare (.Subscript (.Name x p) (.Constant (.str "large") kk p2) p3) [.NotEq] [.List [] p4] pos) (liftT X.K np (dStAny i)) := by
  refine (pt_cmpR (op_neE (by omega)) (pe_dget hu (pe_var (i := i) hN hv hd hcd) pe_str (stN rfl)) (pe_lst pa_nil) (nomark _)).mo fun σ H Q h => ?_
  obtain ⟨B, G, ρ, Qd, hn, ⟨ω, ew⟩, h, k⟩ := h
  obtain ⟨Lg, Cs, r, t, b, hx, h⟩ := WX.of h
  obtain ⟨S, L, C, e1, f1, f2, h1, h2, h3, _⟩ := ew.st hx
  have g := DGet.k (k := Sum.inr "large") h1
  rw [stK_large] at g
  refine ⟨.ref S, e1, S, .ref L, rfl, g, Nat.zero_le _, fun q hq => ?_⟩
  have ew2 := ew.newW (o := .lst []) hq
  have ne : L ≠ q := ne_of_none h2 hq
  refine ⟨L, q, rfl, rfl, .inr ⟨Lg.map V.int, .of (by rw [upd_ne ne]; exact h2), .of upd_same, _, rfl, ?_⟩⟩
  have := k G _ ρ _ (.refl _) ⟨_, ew2⟩ h
  cases Lg <;> exact this
/-- st["large"].pop(0) -/
theorem d_stPop (i : Nat) {kk k2 apos cpos p3 p4} (hu : X.A.units + 1 < cLine) (hN : X.N[i]? = some x := by rfl) (hv : Vis X.env.scope x := by first | exact Or.inl rfl | exact Or.inr (Or.inl rfl) | exact Or.inr (Or.inr rfl)) (hd : (x == ("__debug__" : Str)) = false := by decide) (hcd : (x == ("__classdict__" : Str)) = false := by decide)
    (hbase : attributeBase (.Subscript (.Name x p) (.Constant (.str "large") kk p2) p3) "pop" X.env (eval (.Subscript (.Name x p) (.Constant (.str "large") kk p2) p3) X.env) = eval (.Subscript (.Name x p) (.Constant (.str "large") kk p2) p3) X.env := by rfl)
    (hfew : ((backTo cpos (starEach [.Constant (.int 0) k2 p4] X.env)).all (fun x => !x.1) && (backToKw cpos (keywordEach [] X.env)).all (fun x => x.1.isSome)
      && decide (([.Constant (.int 0) k2 p4] : List Expr).length + ([] : List Keyword).length + (if ([] : List Keyword).isEmpty then 0 else 1) < 30)) = true := by rfl)
    (hline : (apos.endLine == cpos.line) = true := by rfl) (hs : starEach [.Constant (.int 0) k2 p4] X.env = (false, eval (.Constant (.int 0) k2 p4) X.env) :: starEach [] X.env := by rfl) (hplain : (backTo cpos (starEach [] X.env)).any (·.1) = false := by rfl) :
    PE X (.Call (.Attribute (.Subscript (.Name x p) (.Constant (.str "large") kk p2) p3) "pop" apos) [.Constant (.int 0) k2 p4] [] cpos) (lift X.K np (dStPop i)) := by
  refine (pe_bm PySem.F.plainAttrs_list PySem.F.slot_list_pop PySem.F.type_list_pop mt_popAt (pe_dget hu (pe_var (i := i) hN hv hd hcd) pe_str (stN rfl)) (pa_cons pe_int pa_nil hs) hbase hfew hline hs hplain).mo fun σ H Q h => ?_
  obtain ⟨B, G, ρ, Qd, hn, ⟨ω, ew⟩, h, k⟩ := h
  obtain ⟨Lg, Cs, r, t, b, hx, h⟩ := WX.of h
  obtain ⟨S, L, C, e1, f1, f2, h1, h2, h3, _⟩ := ew.st hx
  have g := DGet.k (k := Sum.inr "large") h1
  rw [stK_large] at g
  cases Lg with
  | nil => exact h.elim
  | cons y Lg =>
    refine ⟨.ref S, e1, S, .ref L, rfl, g, .inl ⟨rfl, _, .of h2⟩, L, _, 0, 0, .int y, rfl, rfl, h2, by decide, by decide, ?_, rfl, ?_⟩
    · rw [List.length_map, List.length_cons]
      exact (seqIndex_of (by decide) (by omega)).trans rfl
    · exact k _ _ _ _ _ (.refl _) ((ew.stPop hx e1 h1).dat (.int y)) h
theorem ds_stRest (i : Nat) {kk} (hu : X.A.units + 1 < cLine) (he : PE X e (lift X.K np te)) (hs : swapsWith e (some (.Subscript (.Name x p) (.Constant (.str "rest") kk p2) pos)) pos'.line X.env = pure false := by rfl) (hN : X.N[i]? = some x := by rfl) (hv : Vis X.env.scope x := by first | exact Or.inl rfl | exact Or.inr (Or.inl rfl) | exact Or.inr (Or.inr rfl)) (hd : (x == ("__debug__" : Str)) = false := by decide) (hcd : (x == ("__classdict__" : Str)) = false := by decide) :
    PS X (.Assign [.Subscript (.Name x p) (.Constant (.str "rest") kk p2) pos] e pos') (liftS X.K np (dStSetRest i te)) := by
  refine (ps_dput hu (pe_var (i := i) hN hv hd hcd) pe_str he hs).mo fun D σ H h => ?_
  obtain ⟨B, G, ρ, Dd, hn, eo, h, k1, k2, k3, k4⟩ := h
  refine ⟨B, G, ρ, _, hn, eo, h, fun G1 v r ρ1 H1 s1 f1 q1 => ?_⟩
  obtain ⟨ω, ew, rv⟩ := f1
  split at q1
  · rename_i z
    obtain ⟨Lg, Cs, r, t, b, hx, h⟩ := WX.of q1
    obtain ⟨S, L, C, e1, f1, f2, h1, h2, h3, _, _, h6⟩ := ew.st hx
    cases rv
    refine ⟨.ref S, e1, S, _, rfl, DPut.k (k := Sum.inr "rest") h1 (by show 4 < _; decide), ?_⟩
    rw [stK_setRest]
    exact k1 _ _ _ _ s1 ⟨_, ew.stSet hx h6 e1 h1⟩ h
  · exact q1.elim
theorem ds_stTurn (i : Nat) {kk} (hu : X.A.units + 1 < cLine) (he : PE X e (lift X.K np te)) (hs : swapsWith e (some (.Subscript (.Name x p) (.Constant (.str "turn") kk p2) pos)) pos'.line X.env = pure false := by rfl) (hN : X.N[i]? = some x := by rfl) (hv : Vis X.env.scope x := by first | exact Or.inl rfl | exact Or.inr (Or.inl rfl) | exact Or.inr (Or.inr rfl)) (hd : (x == ("__debug__" : Str)) = false := by decide) (hcd : (x == ("__classdict__" : Str)) = false := by decide) :
    PS X (.Assign [.Subscript (.Name x p) (.Constant (.str "turn") kk p2) pos] e pos') (liftS X.K np (dStSetTurn i te)) := by
  refine (ps_dput hu (pe_var (i := i) hN hv hd hcd) pe_str he hs).mo fun D σ H h => ?_
  obtain ⟨B, G, ρ, Dd, hn, eo, h, k1, k2, k3, k4⟩ := h
  refine ⟨B, G, ρ, _, hn, eo, h, fun G1 v r ρ1 H1 s1 f1 q1 => ?_⟩
  obtain ⟨ω, ew, rv⟩ := f1
  split at q1
  · rename_i z
    obtain ⟨Lg, Cs, r, t, b, hx, b', rfl, rfl, h⟩ := WX.of q1
    obtain ⟨S, L, C, e1, f1, f2, h1, h2, h3, _, _, h6, h7⟩ := ew.st hx
    cases rv
    refine ⟨.ref S, e1, S, _, rfl, DPut.k (k := Sum.inr "turn") h1 (by show 4 < _; decide), ?_⟩
    rw [stK_setTurn]
    exact k1 _ _ _ _ s1 ⟨_, ew.stSet hx (by omega) e1 h1⟩ h
  · exact q1.elim
theorem shut_ok {K : PySem.W.Frag} {B : Bs} {G : Hp} {i : Nat} {ρ : Env} {σ : Stt} {H : Hp} {P : Env → Prop} (eo : EnvOk K B G ρ σ H) (h : shut1 i P ρ) : ∃ ρ', EnvOk K B G ρ' σ H ∧ P ρ' := by
  obtain ⟨ω, e⟩ := eo
  obtain ⟨Lg, Cs, r, t, b, hx, h⟩ := WX.of h
  exact ⟨_, ⟨ω, e.shut hx⟩, h⟩
theorem ds_draw (i : Nat) (h : PSs X sts (liftS X.K np u)) : PSs X sts (liftS X.K np (dDraw i u)) := by
  refine h.mo fun D σ H h => ?_
  obtain ⟨B, G, ρ, Dd, hn, ⟨ω, ew⟩, ⟨b, hb, h⟩, k1, k2, k3, k4⟩ := h
  obtain ⟨Lg, Cs, r, t, l1, l2, l3, l4, e2⟩ := ew.opn hb
  refine ⟨B, G, _, _, hn, ⟨ω, e2⟩, h Lg Cs r t l1 l2 l3 l4, fun G' ρ' σ' H' s e q => ?_, fun G' v r ρ' σ' H' s f q => ?_, fun G' ρ' σ' H' s e q => ?_, fun G' ρ' σ' H' s e q => ?_⟩
  · obtain ⟨ρ2, e2, q2⟩ := shut_ok e q
    exact k1 _ _ _ _ s e2 q2
  · obtain ⟨ω', e', rr⟩ := f
    cases r with
    | dat d =>
      obtain ⟨Lg, Cs, r, t, b, hx, h⟩ := WX.of q
      exact k2 _ _ (.dat d) _ _ _ s ⟨ω', e'.shut hx, rr⟩ h
    | sl i => exact q.elim
    | nw i => exact q.elim
  · obtain ⟨ρ2, e2, q2⟩ := shut_ok e q
    exact k3 _ _ _ _ s e2 q2
  · obtain ⟨ρ2, e2, q2⟩ := shut_ok e q
    exact k4 _ _ _ _ s e2 q2
end
end TL

/-! TL11: the source of draws is made; enumerate; dicts displayed; names op= . -/
namespace TL
open PySem PySem.Spec PyProof.Rows L2

def dStNew (i j : Nat) : DTE := fun ρ Q => match ρ[i]?, ρ[j]? with
  | some (.ls xs), some (.fr (.scr ns)) => ∃ Lg : List Int, xs = Lg.map .int ∧ Lg.length ≤ 63 ∧ ns.length ≤ 63 ∧ Q (.nw (.rs (.st 1000000000000))) (ρ.set i .un)
  | _, _ => False
def joinW (ω : Own) (p : Addr) (i l : Nat) : Own := fun a => if a = p then some l else if ω a = some i then some l else if ω a = some l then none else ω a
theorem joinW_ne {ω : Own} {p a : Addr} {i l k : Nat} (h : joinW ω p i l a = some k) : (k = l ∧ (a = p ∨ ω a = some i)) ∨ (ω a = some k ∧ k ≠ l ∧ k ≠ i) := by
  unfold joinW at h
  split at h
  · rename_i z; exact .inl ⟨(Option.some.inj h).symm, .inl z⟩
  · split at h
    · rename_i z; exact .inl ⟨(Option.some.inj h).symm, .inr z⟩
    · rename_i n1
      split at h
      · cases h
      · rename_i n2
        exact .inr ⟨h, fun z => n2 (z ▸ h), fun z => n1 (z ▸ h)⟩
section
variable {X : Cx} {np : Nat} {x y z : Str} {p0 p1 p2 p3 p4 p5 p6 p7 p8 p9 pos : Pos} {k1 k2 k3 k4 k5 k6 : Nat}
theorem st_made {K : PySem.W.Frag} {B : Bs} {G : Hp} {ω : Own} {ρ : Env} {σ : Stt} {H : Hp} {i : Nat} {Lg ns : List Int} {p l : Addr} (e : EnvW K B G ω ρ σ H) (hi : ρ[i]? = some (.ls (Lg.map .int))) (hl : Lg.length ≤ 63) (hs : ns.length ≤ 63) (hp : H p = none) (hq : upd H p (.dK []) l = none) :
    ∃ L, σ[i]? = some (some (.ref L)) ∧ Same G (upd G l (.lst (ns.map V.int))) ∧ Fin K B (upd G l (.lst (ns.map V.int))) (ρ.set i .un) σ (upd (upd (upd H p (.dK [])) l (.lst (ns.map V.int))) p (.dK (stK L l 0 0))) (.ref p) (.nw (.rs (.st 1000000000000))) := by
  obtain ⟨L, ws, e1, f1, h1, r1⟩ := e.slot i _ hi
  obtain rfl := r1.ints_eq
  obtain ⟨g1, _, g3⟩ := e.own L i f1
  have nlp : l ≠ p := fun z => by subst z; rw [upd_same] at hq; cases hq
  have hl0 : H l = none := by rw [upd_ne nlp] at hq; exact hq
  have nLp : L ≠ p := ne_of_none h1 hp
  have nLl : L ≠ l := ne_of_none h1 hl0
  have sg : Same G (upd G l (.lst (ns.map V.int))) := same_upd (Same.none e.gle hl0)
  have hh : ∀ a, a ≠ p → a ≠ l → upd (upd (upd H p (.dK [])) l (.lst (ns.map V.int))) p (.dK (stK L l 0 0)) a = H a := fun a z1 z2 => by rw [upd_ne z1, upd_ne z2, upd_ne z1]
  have hhl : upd (upd (upd H p (.dK [])) l (.lst (ns.map V.int))) p (.dK (stK L l 0 0)) l = some (.lst (ns.map V.int)) := by rw [upd_ne nlp, upd_same]
  refine ⟨L, e1, sg, joinW ω p i σ.length, ⟨fun a o q => ?_, fun a o q => ?_, fun a o q n => ?_, fun a j q => ?_, by rw [List.length_set]; exact e.len, fun j s q => ?_, fun j s v q o pp => ?_⟩, rfl, ?_⟩
  · by_cases ha : a = l
    · subst ha; rw [upd_same] at q; rw [hhl]; exact q
    · rw [upd_ne ha] at q
      have := e.gle a o q
      rw [hh a (ne_of_none this hp) ha]
      exact this
  · by_cases ha : a = l
    · subst ha
      rcases e.gone hl0 with z | z
      · exact .inr (.inr z)
      · exact .inr (.inl z)
    · rw [upd_ne ha] at q; exact e.g0 a o q
  · have := e.keep a o q n
    rw [hh a (ne_of_none this hp) (ne_of_none this hl0)]
    exact this
  · rcases joinW_ne q with ⟨_, rfl | z⟩ | ⟨z, _, _⟩
    · refine ⟨?_, by rw [upd_same]; simp, e.gone hp⟩
      rw [upd_ne (Ne.symm nlp)]
      exact Same.none e.gle hp
    · obtain ⟨h1, h2, h3⟩ := e.own a _ z
      have n1 : a ≠ p := fun y => h2 (y ▸ hp)
      have n2 : a ≠ l := fun y => h2 (y ▸ hl0)
      exact ⟨by rw [upd_ne n2]; exact h1, by rw [hh a n1 n2]; exact h2, h3⟩
    · obtain ⟨h1, h2, h3⟩ := e.own a _ z
      have n1 : a ≠ p := fun y => h2 (y ▸ hp)
      have n2 : a ≠ l := fun y => h2 (y ▸ hl0)
      exact ⟨by rw [upd_ne n2]; exact h1, by rw [hh a n1 n2]; exact h2, h3⟩
  · by_cases hj : j = i
    · subst hj
      have hlj : j < ρ.length := by have := (List.getElem?_eq_some_iff.mp q).1; rwa [List.length_set] at this
      rw [List.getElem?_set_self hlj] at q
      cases q
      trivial
    · rw [List.getElem?_set_ne (Ne.symm hj)] at q
      have hlj : j < ρ.length := (List.getElem?_eq_some_iff.mp q).1
      have := e.len
      refine (e.slot j s q).mono sg fun a z => ?_
      obtain ⟨_, h2, _⟩ := e.own a _ z
      have n1 : a ≠ p := fun y => h2 (y ▸ hp)
      have n2 : a ≠ l := fun y => h2 (y ▸ hl0)
      refine ⟨?_, hh a n1 n2⟩
      unfold joinW
      rw [if_neg n1, if_neg (fun w => by rw [z] at w; exact hj (Option.some.inj w)), if_neg (fun w => by rw [z] at w; have := Option.some.inj w; omega)]
      exact z
  · by_cases hj : j = i
    · subst hj
      have hlj : j < ρ.length := by have := (List.getElem?_eq_some_iff.mp q).1; rwa [List.length_set] at this
      rw [List.getElem?_set_self hlj] at q
      cases q
      cases o
    · rw [List.getElem?_set_ne (Ne.symm hj)] at q
      exact e.pin j s v q o pp
  · refine ⟨.ref p, rfl, Lg, ns, 0, 0, p, L, l, rfl, if_pos rfl, ?_, upd_same, ?_, upd_same, hl, hs, by decide, by decide⟩
    · show joinW ω p i σ.length L = _
      unfold joinW
      rw [if_neg nLp, if_pos f1]
    · rw [hh L nLp nLl]; exact h1
theorem d_stNew (i j : Nat) (hgl : Gl X "list") (hml : X.mg "list" = none) (hN : X.N[i]? = some x := by rfl) (hN2 : X.N[j]? = some y := by rfl)
    (hv : Vis X.env.scope x := by first | exact Or.inl rfl | exact Or.inr (Or.inl rfl) | exact Or.inr (Or.inr rfl)) (hv2 : Vis X.env.scope y := by first | exact Or.inl rfl | exact Or.inr (Or.inl rfl) | exact Or.inr (Or.inr rfl))
    (hd : (x == ("__debug__" : Str)) = false := by decide) (hcd : (x == ("__classdict__" : Str)) = false := by decide) (hd2 : (y == ("__debug__" : Str)) = false := by decide) (hcd2 : (y == ("__classdict__" : Str)) = false := by decide)
    (he : starEach [.Name y p3] X.env = (false, eval (.Name y p3) X.env) :: starEach [] X.env := by rfl) (hpl : (backTo p4 (starEach [] X.env)).any (·.1) = false := by rfl) :
    PE X (.Dict [some (.Constant (.str "large") k1 p0), some (.Constant (.str "cells") k2 p1), some (.Constant (.str "rest") k3 p5), some (.Constant (.str "turn") k4 p6)]
      [.Name x p2, .Call (.Name "list" p7) [.Name y p3] [] p4, .Constant (.int 0) k5 p8, .Constant (.int 0) k6 p9] pos) (lift X.K np (dStNew i j)) := by
  refine (pe_disp (pps_cons pe_str (pe_var (i := i) hN hv hd hcd) (pps_cons pe_str (pe_callTy call_list_of hgl hml (by decide +kernel) (pa_cons (pe_var (i := j) hN2 hv2 hd2 hcd2) pa_nil he) (by decide) (by decide) he hpl) (pps_cons pe_str pe_int (pps_cons pe_str pe_int pps_nil)))) rfl rfl (by simp) (Nat.le_of_ble_eq_true rfl)).mo fun σ H Q h => ?_
  obtain ⟨B, G, ρ, Qd, hn, ⟨ω, ew⟩, h, k⟩ := h
  intro p hp
  unfold dStNew at h
  split at h
  · rename_i xs ns hx hy
    obtain ⟨Lg, rfl, l1, l2, h⟩ := h
    obtain ⟨v, ev, rv⟩ := ew.slot j _ hy
    cases rv with
    | scr sq =>
      rename_i a
      have s0 : Same H (upd H p (.dK [])) := same_upd hp
      obtain ⟨L, _, e1, _⟩ := ew.slot i _ hx
      refine ⟨.ref L, e1, .ref a, ev, a, ns.map V.int, rfl, .inl ((ew.gle.seq sq) |> s0.seq), fun l hl => ?_⟩
      obtain ⟨L', e1', sg, f⟩ := st_made ew hx l1 l2 hp hl
      rw [e1] at e1'
      cases e1'
      have nlp : p ≠ l := fun z => by subst z; rw [upd_same] at hl; cases hl
      refine ⟨by rw [upd_ne nlp, upd_same], stK L l 0 0, rfl, by show 4 ≤ 15; decide, ?_⟩
      rw [stK_merge]
      exact k _ _ _ _ _ sg f h
  · exact h.elim
end
end TL

/-! TL12: builtin types by name, dicts displayed, enumerate. -/
namespace TL
open PySem PySem.Spec PyProof.Rows L2

section
variable {X : Cx} {np : Nat} {x : Str} {pos : Pos}
theorem d_bltT {n : String} (hg : Gl X x) (hm : X.mg x = none) (hv : bootBuiltins x = some (.type n)) (hn : x ≠ "__name__" := by decide) (hd : (x == ("__debug__" : Str)) = false := by decide) : PE X (.Name x pos) (lift X.K np (dC (.ty n))) :=
  d_const (pe_bltn hg hm hv (v := .ty n) rfl hn hd) (fun _ _ _ q => q) fun _ => .ty n
end

/-! ### {k: v, ..} -/
def dDL : List DTE → Env → (List D → Env → Prop) → Prop
  | [], ρ, Q => Q [] ρ
  | t :: ts, ρ, Q => t ρ fun r ρ1 => match stl r with
    | .dat d => dDL ts ρ1 fun ds ρ2 => Q (d :: ds) ρ2
    | _ => False
def dDisp (ks : List Key) (ts : List DTE) : DTE := fun ρ Q => dDL ts ρ fun ds ρ1 => Q (.nw (.dc (ks.zip ds))) ρ1
def dDNew : DTE := fun ρ Q => Q (.nw (.dc [])) ρ
def trsOf (K : PySem.W.Frag) (np : Nat) : List Key → List DTE → List (TE × TE)
  | k :: ks, t :: ts => (tC (kV k), lift K np t) :: trsOf K np ks ts
  | _, _ => []
theorem mergeK_new : ∀ (kvs acc : List (Key × V)), (acc.map (·.1) ++ kvs.map (·.1)).Nodup → mergeK acc kvs = acc ++ kvs
  | [], acc, _ => by rw [List.append_nil]; rfl
  | p :: r, acc, h => by
    have h1 : p.1 ∉ acc.map (·.1) := fun z => by
      rw [List.nodup_append] at h
      exact h.2.2 p.1 z p.1 (by simp) rfl
    have h2 : valV acc p.1 = none := by
      cases z : valV acc p.1 with
      | none => rfl
      | some u =>
        have : (acc.any fun kv => decide (kv.1 = p.1)) = true := by rw [valV_any, z]; rfl
        obtain ⟨q, hq, e⟩ := List.any_eq_true.mp this
        exact absurd (List.mem_map.mpr ⟨q, hq, of_decide_eq_true e⟩) h1
    show mergeK (putK acc p.1 p.2) r = _
    rw [putK_new h2, mergeK_new r _ (by simpa using h)]
    simp
theorem RpL.zipK {K : PySem.W.Frag} {G : Hp} : ∀ {vs : List V} {ds : List D} (ks : List Key), RpL K G vs ds → RpK K G (ks.zip vs) (ks.zip ds)
  | _, _, [], _ => by simp; exact .nil
  | _, _, _ :: _, .nil => .nil
  | _, _, _ :: ks, .cons h r => .cons h (r.zipK ks)
section
variable {X : Cx} {np : Nat} {x : Str} {pos : Pos} {keys : List (Option Expr)} {values : List Expr} {ks : List Key} {ts : List DTE}
theorem pairs_ok {K : PySem.W.Frag} {np : Nat} {σ : Stt} : ∀ (ks : List Key) (ts : List DTE) (B : Bs) (G H : Hp) (ρ : Env) (Qd : List D → Env → Prop) (Q : List (V × V) → Hp → Prop), ks.length = ts.length → B.P.length = np → EnvOk K B G ρ σ H → dDL ts ρ Qd →
    (∀ G' vs ds ρ' H', Same G G' → EnvOk K B G' ρ' σ H' → RpL K G' vs ds → vs.length = ks.length → Qd ds ρ' → Q ((ks.map kV).zip vs) H') → tPairs (trsOf K np ks ts) σ H Q
  | [], [], B, G, H, ρ, Qd, Q, _, hn, eo, h, k => k _ [] _ _ _ (.refl _) eo .nil rfl h
  | [], _ :: _, _, _, _, _, _, _, hl, _, _, _, _ => by cases hl
  | _ :: _, [], _, _, _, _, _, _, hl, _, _, _, _ => by cases hl
  | key :: ks, t :: ts, B, G, H, ρ, Qd, Q, hl, hn, eo, h, k => by
    refine ⟨B, G, ρ, _, hn, eo, h, fun G1 v r ρ1 H1 s1 f1 q1 => ?_⟩
    obtain ⟨G2, s2, f2⟩ := f1.stl
    split at q1
    · rename_i d hr
      rw [hr] at f2
      obtain ⟨ω2, e2, r2⟩ := f2
      refine pairs_ok ks ts B G2 H1 ρ1 _ _ (by simpa using hl) hn ⟨ω2, e2⟩ q1 fun G' vs ds ρ' H' s e rl lv q => ?_
      exact k _ (v :: vs) (d :: ds) _ _ ((s1.trans s2).trans s) e (.cons (Rp.mono s r2) rl) (by rw [List.length_cons, List.length_cons, lv]) q
    · exact q1.elim
theorem zip_kv : ∀ (ks : List Key) (vs : List V), (ks.map kV).zip vs = (ks.zip vs).map fun kv => (kV kv.1, kv.2)
  | [], _ => by simp
  | _ :: _, [] => by simp
  | k :: ks, v :: vs => by simp [zip_kv ks vs]
theorem d_disp (h : PPs X pos keys values (trsOf X.K np ks ts)) (hall : keys.all (·.isSome) = true := by rfl) (hl : keys.length = values.length := by rfl) (h0 : keys ≠ [] := by simp) (h15 : keys.length ≤ 15 := by exact Nat.le_of_ble_eq_true rfl)
    (hks : ks.length = ts.length := by rfl) (hk15 : ks.length ≤ 15 := by exact Nat.le_of_ble_eq_true rfl) (nd : ks.Nodup := by decide +kernel) : PE X (.Dict keys values pos) (lift X.K np (dDisp ks ts)) := by
  refine (pe_disp h hall hl h0 h15).mo fun σ H Q h => ?_
  obtain ⟨B, G, ρ, Qd, hn, ⟨ω, ew⟩, h, k⟩ := h
  intro p hp
  have d0 : B.A0 p ∨ B.H0 p = none := ew.gone hp
  have hg : G p = none := Same.none ew.gle hp
  have hw : ω p = none := by
    cases q : ω p with
    | none => rfl
    | some i => exact absurd hp (ew.own p i q).2.1
  have e1 := ew.poke (o := .dK []) hw hg d0
  refine pairs_ok ks ts (reB B G ω ρ.length (upd H p (.dK []))) G _ ρ _ _ hks hn ⟨_, e1.rebase⟩ h fun G' vs ds ρ' H' s f rl lv q => ?_
  obtain ⟨ω', f⟩ := f
  obtain ⟨z1, z2, z3⟩ := f.still upd_same hw hg
  refine ⟨z1, ks.zip vs, zip_kv ks vs, by rw [List.length_zip, lv]; omega, ?_⟩
  rw [mergeK_new _ _ (by
    show (ks.zip vs |>.map (·.1)).Nodup
    rw [List.map_fst_zip (by omega)]
    exact nd), List.nil_append]
  have fb := e1.back f
  -- p becomes a new thing of none
  refine k _ _ (.nw (.dc (ks.zip ds))) _ _ s ⟨tagd ω' p σ.length, ?_, rfl, p, ks.zip vs, rfl, tagd_same, upd_same, rl.zipK ks⟩ q
  have fp := fb.poke (o := .dK (ks.zip vs)) z2 z3 d0
  refine ⟨fp.gle, fp.g0, fp.keep, fun a j q => ?_, fp.len, fun j s q => ?_, fp.pin⟩
  · unfold tagd at q
    split at q
    · rename_i ha
      subst ha
      cases q
      exact ⟨z3, by rw [upd_same]; simp, d0⟩
    · split at q
      · cases q
      · exact fp.own a j q
  · refine (fp.slot j s q).mono (.refl _) fun a z => ⟨?_, rfl⟩
    have hj : j < ρ'.length := (List.getElem?_eq_some_iff.mp q).1
    have := fp.len
    have ha : a ≠ p := fun w => by
      subst w
      rw [z2] at z
      cases z
    unfold tagd
    rw [if_neg ha, if_neg (fun w => by rw [z] at w; have := Option.some.inj w; omega)]
    exact z
theorem d_dnew : PE X (.Dict [] [] pos) (lift X.K np dDNew) := by
  refine pe_dnewK.mo fun σ H Q h => ?_
  obtain ⟨B, G, ρ, Qd, hn, ⟨ω, ew⟩, h, k⟩ := h
  intro p hp
  exact k _ _ _ _ _ (.refl _) (ew.newD hp .nil) h
end
end TL

/-! TL13: what builtins' names stand for; a promise of nothing. -/
namespace TL
open PySem PySem.Spec PyProof.Rows L2
theorem bt_len : bootBuiltins "len" = some (.builtin "len") := by decide +kernel
theorem bt_isinstance : bootBuiltins "isinstance" = some (.builtin "isinstance") := by decide +kernel
theorem bt_all : bootBuiltins "all" = some (.builtin "all") := by decide +kernel
theorem bt_any : bootBuiltins "any" = some (.builtin "any") := by decide +kernel
theorem bt_sorted : bootBuiltins "sorted" = some (.builtin "sorted") := by decide +kernel
theorem bt_min : bootBuiltins "min" = some (.builtin "min") := by decide +kernel
theorem bt_max : bootBuiltins "max" = some (.builtin "max") := by decide +kernel
theorem bt_repr : bootBuiltins "repr" = some (.builtin "repr") := by decide +kernel
theorem bt_list : bootBuiltins "list" = some (.type "list") := by decide +kernel
theorem bt_tuple : bootBuiltins "tuple" = some (.type "tuple") := by decide +kernel
theorem bt_int : bootBuiltins "int" = some (.type "int") := by decide +kernel
theorem bt_str : bootBuiltins "str" = some (.type "str") := by decide +kernel
theorem bt_bool : bootBuiltins "bool" = some (.type "bool") := by decide +kernel
theorem bt_dict : bootBuiltins "dict" = some (.type "dict") := by decide +kernel
theorem bt_set : bootBuiltins "set" = some (.type "set") := by decide +kernel
theorem bt_float : bootBuiltins "float" = some (.type "float") := by decide +kernel
theorem bt_type : bootBuiltins "type" = some (.type "type") := by decide +kernel
theorem no_fn {P : Program} {w : World} {K : PySem.W.Frag} {mg : Str → Option Value} {base : Heap} {CX : CXT} {k n : Nat} {f : Addr} {fd : FuncData} {ps : List Str} {S : DSp} (h : ∀ args Q, S args Q → False) : FnOk P w K mg base CX k f fd ps (toSp K n S) :=
  ⟨fun vs H Q E ⟨_, _, _, _, _, _, z, _⟩ => (h _ _ z).elim, fun A outer s H args us vs Q E _ _ _ _ ⟨_, _, _, _, _, _, z, _⟩ => (h _ _ z).elim⟩
end TL

/-! TL14: own objects: frozen ones read. -/
namespace TL
open PySem PySem.Spec PyProof.Rows L2
section
variable {K : PySem.W.Frag} {G H : Hp} {v : V}
theorem RdV.obj {C : Addr} {fs : List (Str × D)} (s : Same G H) (r : RdV K G H v (.obj C fs)) : ∃ a dx vs, v = .ref a ∧ G a = some (.ins C dx vs) ∧ H a = some (.ins C dx vs) ∧ RpF K G vs fs := by
  rcases r with r | ⟨_, _, _, _, e, _⟩ | ⟨_, _, _, _, e, _⟩
  · cases r with | obj h _ r => exact ⟨_, _, _, rfl, h, s _ _ h, r⟩
  · cases e
  · cases e
theorem RpF.look {f : Str} {d : D} : ∀ {vs : List (Str × V)} {fs : List (Str × D)}, RpF K G vs fs → fs.lookup f = some d → ∃ v, vs.lookup f = some v ∧ Rp K G v d
  | _, _, .nil, h => by cases h
  | _, _, .cons (f := g) h r, q => by
    rw [List.lookup_cons] at q ⊢
    split at q
    · cases q
      exact ⟨_, rfl, h⟩
    · exact r.look q
end
/-- e.f, a field of a frozen object -/
def dFld (C : Addr) (f : Str) (t : DTE) : DTE := fun ρ Q => t ρ fun r ρ1 => match val ρ1 r with
  | some (.obj C' fs) => C' = C ∧ (match fs.lookup f with | some d => Q (.dat d) ρ1 | none => False)
  | _ => False
section
variable {X : Cx} {e : Expr} {t : DTE} {np : Nat} {C p g : Addr} {f f' : Str} {pos : Pos}
theorem d_fld (c : Cls X.K C) (n : NoAttr X.K C f) (ha : PE X e (lift X.K np t)) (hb : attributeBase e f X.env (eval e X.env) = eval e X.env := by rfl) : PE X (.Attribute e f pos) (lift X.K np (dFld C f t)) := by
  refine ⟨fun pins s σ H Q J h => ?_⟩
  obtain ⟨B, G, ρ, Qd, hn, eo, h, k⟩ := h
  refine (pe_fld ha hb).run pins s σ H Q J ⟨B, G, ρ, _, hn, eo, h, fun G1 v r ρ1 H1 s1 f1 q1 => ?_⟩
  obtain ⟨ω, e1, rr⟩ := f1
  split at q1
  · rename_i C' fs hv
    obtain ⟨rfl, q1⟩ := q1
    obtain ⟨a, dx, vs, rfl, hg, hh, rf⟩ := (e1.rd rr hv).obj e1.gle
    split at q1
    · rename_i d hd
      obtain ⟨u, hu, ru⟩ := rf.look hd
      exact ⟨a, _, dx, vs, u, rfl, hh, c, n, hu, k _ _ (.dat d) _ _ s1 ⟨ω, e1, ru⟩ q1⟩
    · exact q1.elim
  · exact q1.elim
/-- e.f, a property whose getter answers the field f' -/
theorem d_prop {CX : CXT} {kk : Nat} {fd : FuncData} {ps : List Str} (c : Cls X.K C) (hp : PropOf X.K C f p g) (F : FnOk X.prog X.w X.K X.mg X.base CX kk g fd ps (getSp C f')) (hr : Room (kk + 1) X.A) (hbd : Binds X.K fd ps []) (hx : Passes CX X.nox (fun _ _ _ => False))
    (ha : PE X e (lift X.K np t)) (hb : attributeBase e f X.env (eval e X.env) = eval e X.env := by rfl) : PE X (.Attribute e f pos) (lift X.K np (dFld C f' t)) := by
  refine ⟨fun pins s σ H Q J h => ?_⟩
  obtain ⟨B, G, ρ, Qd, hn, eo, h, k⟩ := h
  refine (pe_prop (ds := []) (dvs := []) ha c hp F hr hbd .nil hx hb).run pins s σ H Q J ⟨B, G, ρ, _, hn, eo, h, fun G1 v r ρ1 H1 s1 f1 q1 => ?_⟩
  obtain ⟨ω, e1, rr⟩ := f1
  split at q1
  · rename_i C' fs hv
    obtain ⟨rfl, q1⟩ := q1
    obtain ⟨a, dx, vs, rfl, hg, hh, rf⟩ := (e1.rd rr hv).obj e1.gle
    split at q1
    · rename_i d hd
      obtain ⟨u, hu, ru⟩ := rf.look hd
      exact ⟨a, dx, vs, rfl, hh, a, dx, vs, u, rfl, hh, hu, k _ _ (.dat d) _ _ s1 ⟨ω, e1, ru⟩ q1⟩
    · exact q1.elim
  · exact q1.elim
end
theorem RpF.look_none {K : PySem.W.Frag} {G : Hp} {f : Str} : ∀ {vs : List (Str × V)} {fs : List (Str × D)}, RpF K G vs fs → fs.lookup f = none → vs.lookup f = none
  | _, _, .nil, _ => rfl
  | _, _, .cons (f := g) h r, q => by
    rw [List.lookup_cons] at q ⊢
    split at q
    · cases q
    · exact r.look_none q
theorem stl_obj {r : Rs} {C : Addr} {fs : List (Str × D)} (h : stl r = .dat (.obj C fs)) : r = .dat (.obj C fs) := by
  cases r with
  | dat d => exact h
  | sl i => cases h
  | nw s => cases s <;> cases h
/-- o.m(..), o a frozen object -/
def dMth (C : Addr) (m : Str) (n : Nat) (S : DSp) (t : DTE) (u : DTA) : DTE := fun ρ Q => t ρ fun r ρ1 => match stl r with
  | .dat (.obj C' fs) => C' = C ∧ fs.lookup m = none ∧ u ρ1 fun rs ρ2 => rs.length + 1 = n ∧ slNd rs = true ∧ match slotsOf ρ2 rs with
    | some args => S (.fr (.obj C fs) :: args) fun r ss => Q r (backE ρ2 rs ss.tail)
    | none => False
  | _ => False
theorem backE_dat {ρ : Env} {d : D} {rs : List Rs} : ∀ {ss : List Sl}, backE ρ (.dat d :: rs) ss = backE ρ rs ss.tail
  | [] => by cases rs with
    | nil => rfl
    | cons r rs => cases r <;> rfl
  | s :: ss => rfl
theorem sp_ok {K : PySem.W.Frag} {np n : Nat} {S : DSp} {E : XK} {B : Bs} {G G0 : Hp} {ω : Own} {ρ : Env} {σ : Stt} {H : Hp} {vs : List V} {rs : List Rs} {args : List Sl} {Q : VK} {Qd : Rs → Env → Prop} (e1 : EnvW K B G ω ρ σ H) (ar : ArgsOk K G σ vs rs) (hl : rs.length = n) (nd : slNd rs = true)
    (hs : slotsOf ρ rs = some args) (q1 : S args fun r ss => Qd r (backE ρ rs ss)) (k : ∀ G' v r ρ' H', Same G G' → Fin K B G' ρ' σ H' v r → Qd r ρ' → Q v H') : toSp K n S vs H Q E := by
  refine ⟨G, inW ω rs, args, _, by rw [ar.length]; exact hl, e1.enter ar nd hs, q1, fun G' ω' v r ss H' s f rr nsl q => ?_⟩
  have e2 := e1.back2 ar nd hs s f
  refine k _ _ _ _ _ s ⟨_, e2, ?_⟩ q
  cases r with
  | dat d => exact rr
  | sl j => exact absurd rfl (nsl j)
  | nw sl =>
    refine ⟨rr.1, rr.2.mono (.refl _) fun a z => ⟨?_, rfl⟩⟩
    rw [List.length_map] at z
    exact outW_tag ar.length.symm z
section
variable {X : Cx} {CX : CXT} {kk n : Nat} {C f : Addr} {fd : FuncData} {ps : List Str} {S : DSp} {E : XK} {m : Str} {apos pos : Pos} {o e : Expr} {es : List Expr} {t : DTE} {u : DTA} {np : Nat}
theorem mth_ok (σ : Stt) (H : Hp) (Q : VK) (h : lift X.K np (dMth C m n S t u) σ H Q) : tMeth C m (toSp X.K n S) [] E (lift X.K np t) (liftA X.K np u) σ H Q := by
  obtain ⟨B, G, ρ, Qd, hn, eo, h, k⟩ := h
  refine ⟨B, G, ρ, _, hn, eo, h, fun G1 v r ρ1 H1 s1 f1 q1 => ?_⟩
  split at q1
  · rename_i C' fs hv
    obtain ⟨rfl, hm, q1⟩ := q1
    obtain rfl := stl_obj hv
    obtain ⟨ω, e1, rr⟩ := f1
    obtain ⟨a, dx, vs, rfl, hg, hh, rf⟩ := RdV.obj e1.gle (.inl rr)
    refine ⟨a, dx, vs, rfl, hh, rf.look_none hm, B, G1, ρ1, _, hn, ⟨ω, e1⟩, q1, fun G2 us rs ρ2 H2 s2 e2 ar q2 => ?_⟩
    obtain ⟨hl, nd, q2⟩ := q2
    split at q2
    · rename_i args hs
      obtain ⟨ω2, e2⟩ := e2
      rw [List.append_nil]
      refine sp_ok (np := np) (G0 := G) e2 (.cons (.dat (Rp.mono s2 rr)) ar) (rs := .dat (.obj C' fs) :: rs) hl nd (args := .fr (.obj C' fs) :: args) (by unfold slotsOf; rw [hs]; rfl) (Qd := Qd) ?_ fun G' v r ρ' H' s f q => k _ _ _ _ _ (s1.trans (s2.trans s)) f q
      have : (fun r ss => Qd r (backE ρ2 (Rs.dat (.obj C' fs) :: rs) ss)) = fun r (ss : List Sl) => Qd r (backE ρ2 rs ss.tail) := by
        funext r ss
        rw [backE_dat]
      rw [this]
      exact q2
    · exact q2.elim
  · exact q1.elim
theorem d_ometh {pl : Sem Bool} (he : PE X o (lift X.K np t)) (c : Cls X.K C) (hm : Meth X.K C m f) (F : FnOk X.prog X.w X.K X.mg X.base CX kk f fd ps (toSp X.K n S)) (hr : Room kk X.A) (hb : Binds X.K fd ps []) (hx : Passes CX X E) (ha : PA X (e :: es) (liftA X.K np u))
    (hst : starEach (e :: es) X.env = (false, eval e X.env) :: starEach es X.env := by rfl) (hpl : (backTo pos (starEach es X.env)).any (·.1) = false := by rfl)
    (ht : eval (.Call (.Attribute o m apos) (e :: es) [] pos) X.env = (do
      let ov ← eval o X.env
      standAt apos.atName
      let (f, first) ← holding [ov] (getMethod ov m pl)
      callWith pos f first (backTo pos (starEach (e :: es) X.env)) (backToKw pos (keywordEach [] X.env))) := by rfl) :
    PE X (.Call (.Attribute o m apos) (e :: es) [] pos) (lift X.K np (dMth C m n S t u)) :=
  (pe_meth (pl := pl) he c hm F hr hb .nil hx ha hst hpl ht).mo fun σ H Q h => mth_ok σ H Q h
end
end TL

/-! TS1: len(set(texts)) of any number of texts. -/
namespace TL
open PySem PySem.Spec PyProof.Rows L2

/-- the different ones, by their first place -/
def met (acc : List Str) : List Str → List Str
  | [] => acc
  | x :: r => met (if x ∈ acc then acc else acc ++ [x]) r
theorem met_snoc (x : Str) : ∀ (l acc : List Str), met acc (l ++ [x]) = if x ∈ met acc l then met acc l else met acc l ++ [x]
  | [], acc => rfl
  | y :: l, acc => met_snoc x l _
theorem met_len : ∀ (l acc : List Str), (met acc l).length ≤ acc.length + l.length
  | [], acc => Nat.le_refl _
  | y :: l, acc => by
    have := met_len l (if y ∈ acc then acc else acc ++ [y])
    show (met (if y ∈ acc then acc else acc ++ [y]) l).length ≤ acc.length + (l.length + 1)
    split at this
    · rename_i h; rw [if_pos h]; omega
    · rename_i h; rw [if_neg h]; rw [List.length_append, List.length_singleton] at this; omega
def distinct (xs : List Str) : Nat := (met [] xs).length
section
variable {prog : Program} {w : World} {A : Around} {R : Result → Shared → Prop} {I : Addr} {fp wr : List Addr} {G : Array GenState → Array GenState → Prop} {n : Nat} {P : Nat → Value → Prop} {St : Nat → Shared → Prop}
theorem setOf_stays {wr : List Addr} {s1 s2 : Shared} {S : Addr} {f : Str → Bool} {k : Nat} (hm : Moved wr G s1 s2) (no : S ∉ wr) (h : s1.heap.SetOf (PySem.strKind prog w) S f k) : s2.heap.SetOf (PySem.strKind prog w) S f k := by
  obtain ⟨ob, es, ep, tb, at_, more⟩ := h
  exact ⟨ob, es, ep, tb, hm.heap S _ no at_, more⟩
theorem set_next {h : Heap} {S : Addr} {m : List Str} {y : Str} (q : h.SetOf (PySem.strKind prog w) S (fun k => decide (k ∈ m) || decide (k = y)) (if decide (y ∈ m) = true then m.length else m.length + 1)) :
    h.SetOf (PySem.strKind prog w) S (fun k => decide (k ∈ if y ∈ m then m else m ++ [y])) (if y ∈ m then m else m ++ [y]).length := by
  by_cases c : y ∈ m
  · rw [if_pos (decide_eq_true c)] at q
    rw [if_pos c]
    refine SetOf_congr q (fun k => ?_) rfl
    by_cases z : k = y
    · subst z; rw [decide_eq_true c]; rfl
    · rw [decide_eq_false z, Bool.or_false]
  · rw [if_neg (by rw [decide_eq_false c]; exact Bool.false_ne_true)] at q
    rw [if_neg c]
    refine SetOf_congr q (fun k => ?_) (by rw [List.length_append]; rfl)
    by_cases z : k = y
    · subst z; simp
    · simp [z]
theorem fill_loop (Wk : WalksS prog w A.in1 I fp wr G n P St) (S : Addr) (off : S ∉ fp) (xs : List Str) (len : xs.length = n) (few : n + 1 < scanBound) (at_ : ∀ i v, P i v → ∃ t, v = .str (xs.getD i Str.empty) t) :
    ∀ (d i : Nat) (st : Shared), i + d = n → St i st → st.heap.SetOf (PySem.strKind prog w) S (fun k => decide (k ∈ met [] (xs.take i))) (met [] (xs.take i)).length →
      (∀ st2, Moved (S :: wr) G st st2 → st2.heap.SetOf (PySem.strKind prog w) S (fun k => decide (k ∈ met [] xs)) (met [] xs).length → R (.ok (.ret .none)) st2) →
      codeAny (model prog w) A (.builtin "set.update.loop" ⟨[.ref S, .ref I], []⟩) R st := by
  have no : S ∉ wr := fun z => off (Wk.sub _ z)
  intro d
  induction d with
  | zero =>
    intro i st e here have_ fin
    obtain rfl : i = n := e
    apply codeAny_builtin PyProof.Rows.F.entry_set_update_loop
    rw [Around.under_plainId PyProof.Rows.F.plain_set_update_loop]
    change wpAny _ A.in1 (pyNext (.ref I) >>= _) _ _ _
    apply wpAny_bind
    refine Wk.done st _ _ here fun st2 hm => ?_
    change wpAny _ A.in1 (ret Value.none) _ _ st2
    rw [List.take_of_length_le (by omega)] at have_
    exact wpAny_pure (fin st2 (hm.mono fun b hb => List.mem_cons_of_mem _ hb) (setOf_stays hm no have_))
  | succ d ih =>
    intro i st e here have_ fin
    have lt : i < n := by omega
    apply codeAny_builtin PyProof.Rows.F.entry_set_update_loop
    rw [Around.under_plainId PyProof.Rows.F.plain_set_update_loop]
    change wpAny _ A.in1 (pyNext (.ref I) >>= _) _ _ _
    apply wpAny_bind
    refine Wk.item i st _ _ lt here fun v st1 hv here1 hm => ?_
    obtain ⟨t, rfl⟩ := at_ i v hv
    have now := setOf_stays hm no have_
    change wpAny _ A.in1 (holding [Value.str (xs.getD i Str.empty) t] (setAdd S (.str (xs.getD i Str.empty) t)) >>= _) _ _ st1
    apply wpAny_bind
    apply wpAny_holding
    unfold setAdd
    apply wpAny_holding
    apply wpAny_bind
    refine (PySem.strKind prog w).pyHash (k := xs.getD i Str.empty) (strKind_is _ _ _ _) ?_
    have fewer : (met [] (xs.take i)).length + 1 < scanBound := by
      have := met_len (xs.take i) []
      rw [List.length_take] at this
      simp at this
      omega
    refine wpAny_setAddHashed_of (knd := PySem.strKind prog w) (s := { st1 with toks := st1.toks + 1 }) (strKind_is _ _ _ _) rfl now fewer fun h2 but now2 => ?_
    have tk : xs.take (i + 1) = xs.take i ++ [xs.getD i Str.empty] := by
      have hi : i < xs.length := by omega
      rw [List.take_add_one, List.getElem?_eq_getElem hi]
      show xs.take i ++ [xs[i]] = _
      rw [List.getD_eq_getElem?_getD, List.getElem?_eq_getElem hi]
      rfl
    have nxt : h2.SetOf (PySem.strKind prog w) S (fun k => decide (k ∈ met [] (xs.take (i + 1)))) (met [] (xs.take (i + 1))).length := by
      rw [tk, met_snoc]
      exact set_next now2
    have other : ∀ b, b ≠ S → ∀ o, st1.heap.get? b = some o → h2.get? b = some o := fun b hb o y => (but.2 b hb).trans y
    refine wpAny_pure ⟨plainId_quiet PyProof.Rows.F.plain_set_update_loop _, ih (i + 1) _ (by omega) (Wk.frame _ st1 _ _ here1 (Nat.le_succ _) fun b hb o y => other b (fun z => off (z ▸ hb)) o y) nxt fun st3 hm3 last => ?_⟩
    refine fin st3 (Moved.trans Wk.gtrans ((hm.mono fun b hb => List.mem_cons_of_mem _ hb).then_heap (Nat.le_succ _) fun b o hb y => ?_) hm3) last
    exact other b (fun z => hb (by rw [z]; exact List.mem_cons_self)) o y
end
end TL

/-! TS2: set(a tuple of texts); len of it. -/
namespace TL
open PySem PySem.Spec PyProof.Rows L2
section
variable {prog : Program} {w : World} {A : Around} {E : Value → Shared → Prop} {s : Shared}
/-- the new set, as it stands ahead of its filling -/
abbrev bareSet (led : Bool) : Obj := { cls := .type "set", dict := none, data := .set #[] 0 (.fresh 0 0 led) }
theorem set_of_tuple {l : Addr} {items : Array Value} {xs : List Str} {Q : Value → Shared → Prop} (calm : A.handled = none) (tup : s.heap.IsTuple l items) (its : PyProof.Rows.StrsAre items.toList xs) (few : xs.length + 1 < scanBound)
    (k : ∀ (h2 : Heap) (tk : Nat), h2.SetOf (PySem.strKind prog w) s.heap.objs.size (fun k => decide (k ∈ met [] xs)) (distinct xs) → (∀ b o, b < s.heap.objs.size → s.heap.get? b = some o → h2.get? b = some o) → Q (.ref s.heap.objs.size) { s with heap := h2, toks := tk }) :
    wpAny (model prog w) A (call (.type "set") [.ref l]) Q E s := by
  have size_ : xs.length = items.size := by rw [← StrsAre.len_eq its, Array.length_toList]
  obtain ⟨cl, rest, order_⟩ := PySem.F.called_set.mro
  have mk_ := PySem.F.called_set.made
  have sub_ := PySem.F.called_set.sub
  refine wpAny_call (codeAny_of_tree ?_)
  change wpAny _ _ (callAny (.type "set") _) _ _ _
  refine wpAny_pure ⟨Code.quiet_builtin _ (by decide +kernel), codeAny_builtin PySem.F.entry_type_call ?_⟩
  rw [Around.under_plain (weight_type_call_type "set" [.ref l] []) rfl]
  have a1 := PySem.F.called_set.notType
  have a2 := PySem.F.called_set.canCreate
  have a3 := PySem.F.typeCall_set_1 (.ref l)
  repeat any_goals first | assumption | wp_step
  refine codeAny_mono (code_set_new_1 (.ref l) (E := E) (Q₁ := fun new st => ∃ led : Bool, new = .ref s.heap.objs.size ∧ st = { s with heap := s.heap.push (bareSet led) }) fun led => ⟨led, rfl, rfl⟩) fun res st hr => ?_
  match res, hr with
  | .error ex, hr => exact hr
  | .ok .next, hr => exact hr.elim
  | .ok .brk, hr => exact hr.elim
  | .ok .cont, hr => exact hr.elim
  | .ok (.ret new), hr =>
    obtain ⟨led, rfl, rfl⟩ := hr
    have there : (s.heap.push (bareSet led)).get? s.heap.objs.size = some (bareSet led) := Heap.get?_push_size _ rfl
    have type_ : Shared.TypeIs { s with heap := s.heap.push (bareSet led) } (.ref s.heap.objs.size) "set" := ⟨_, there, rfl⟩
    have b1 := PySem.F.called_set.init.lookup
    have b2 := PySem.F.called_set.init.bind (.ref s.heap.objs.size)
    repeat any_goals first | assumption | wp_step
    refine codeAny_mono (codeAny_call_builtin (R := wants (fun r st2 => r = .none ∧ ∃ h2 tk, st2 = { s with heap := h2, toks := tk } ∧ h2.SetOf (PySem.strKind prog w) s.heap.objs.size (fun k => decide (k ∈ met [] xs)) (distinct xs) ∧
      (∀ b o, b < s.heap.objs.size → s.heap.get? b = some o → h2.get? b = some o)) E) PySem.F.called_set.init.plain PySem.F.entry_set_init (check_set_init_1 type_ ?_)) fun res2 st2 hr2 => ?_
    · obtain ⟨⟨ocl, odi, oda, osl⟩, found, c1, nn, c2⟩ := tup
      simp only at c1 c2
      subst c1; subst c2
      have found2 : (s.heap.push (bareSet led)).get? l = some { cls := .type "tuple", dict := odi, data := .seq items nn, slots := osl } := Heap.get?_push_of_some _ found
      have e1 := PySem.F.sub_tuple_set
      have e2 := PySem.F.sub_tuple_frozenset
      have e3 : (Value.type "tuple" == Value.type "dict") = false := by decide
      have tup2 : (s.heap.push (bareSet led)).IsTuple l items := ⟨_, found2, rfl, nn, rfl⟩
      unfold Builtin.«set.__init__» noKeywords Builtin.Frozenset.updateFrom
      generalize walked : pyIter = IT
      wp_walk
      subst walked
      refine wpAny_pyIter_tuple tup2 (wpAny_bind (wpAny_runValue ?_))
      have below : l < s.heap.objs.size := Heap.lt_size found
      have calm3 : A.in1.in1.in1.handled = none := by simp [calm]
      have sizeP : (s.heap.push (bareSet led)).objs.size = s.heap.objs.size + 1 := Heap.size_push _ _
      have apart : l ≠ (s.heap.push (bareSet led)).objs.size := by rw [sizeP]; exact Nat.ne_of_lt (Nat.lt_succ_of_lt below)
      have out_ : s.heap.objs.size ∉ [(s.heap.push (bareSet led)).objs.size, l] := by
        rw [sizeP]
        simp only [List.mem_cons, List.not_mem_nil, or_false, not_or]
        exact ⟨Nat.ne_of_lt (Nat.lt_succ_self _), Nat.ne_of_gt below⟩
      refine fill_loop ((Walks.tuple calm3 _ l apart items).toS) s.heap.objs.size out_ xs size_ (by rw [← size_]; exact few) (fun i v hv => SS.strs_at its i v (by rw [Array.getElem?_toList]; exact hv)) items.size 0 _ (Nat.zero_add _) ⟨⟨_, Heap.get?_push_size _ rfl, rfl, rfl⟩, (tup2.push _)⟩ ?_ ?_
      · have still : ((s.heap.push (bareSet led)).push { cls := .type "tuple_iterator", data := .fields #[.ref l, .int 0 0] }).get? s.heap.objs.size = some (bareSet led) := Heap.get?_push_of_some _ there
        exact SetOf_congr ((PyProof.Rows.setObjOf_fresh (knd := PySem.strKind prog w) led).setOf still (by unfold scanBound; omega)) (fun _ => rfl) rfl
      · rintro ⟨h3, g3, d3, t3, o3⟩ hm full
        obtain rfl : g3 = s.gens := hm.gens
        obtain rfl : d3 = s.drawn := hm.drawn
        obtain rfl : o3 = s.os := hm.os
        refine wpAny_pure ?_
        change wpAny _ _ (ret Value.none) _ _ _
        refine wpAny_pure ⟨rfl, h3, t3, rfl, full, fun b o hb y => hm.heap b o ?_ (Heap.get?_push_of_some _ (Heap.get?_push_of_some _ y))⟩
        rw [sizeP]
        simp only [List.mem_cons, List.not_mem_nil, or_false, not_or]
        exact ⟨Nat.ne_of_lt hb, Nat.ne_of_lt (Nat.lt_succ_of_lt hb)⟩
    · match res2, hr2 with
      | .error ex, hr2 => exact hr2
      | .ok .next, hr2 => exact hr2.elim
      | .ok .brk, hr2 => exact hr2.elim
      | .ok .cont, hr2 => exact hr2.elim
      | .ok (.ret r), hr2 =>
        obtain ⟨rfl, h3, t3, rfl, full, keep⟩ := hr2
        repeat any_goals first | assumption | wp_step
        exact k _ _ full keep
end
end TL

/-! TS3: len(set(t)), t a tuple of texts, over trees; constants of the module that are tuples of texts. -/
namespace TL
open PySem PySem.Spec PyProof.Rows L2
def dLenSet (t : DTE) : DTE := fun ρ Q => t ρ fun r ρ1 => match val ρ1 r with
  | some (.tup ys) => (match txs ys with
    | some xs => xs.length ≤ 4000 ∧ Q (.dat (.int (distinct xs : Nat))) ρ1
    | none => False)
  | _ => False
section
variable {X : Cx} {a : Expr} {ta : DTE} {np : Nat} {p1 p2 p3 p4 : Pos}
theorem texts_of : ∀ {ys : List Str} {us : List Value}, Vals (ys.map V.str) us → StrsAre us ys
  | [], _, .nil => .nil
  | y :: ys, _, .cons r t => by
    obtain ⟨k, rfl⟩ := r
    exact .cons y k (texts_of t)
theorem d_lenSet (calm : X.calm = true) (g1 : Gl X "len") (m1 : X.mg "len" = none) (g2 : Gl X "set") (m2 : X.mg "set" = none) (ha : PE X a (lift X.K np ta))
    (na : starEach [a] X.env = (false, eval a X.env) :: starEach [] X.env := by rfl) : PE X (.Call (.Name "len" p1) [.Call (.Name "set" p2) [a] [] p3] [] p4) (lift X.K np (dLenSet ta)) := by
  refine ⟨fun pins s σ H Q J h => ?_⟩
  obtain ⟨B, G, ρ, Qd, hn, eo, h, k⟩ := h
  refine Call_ (ld_blt J g1 m1 bt_len (PyProof.Rows.callWith_builtin1 (PyProof.Rows.args_cons ?_ rfl) rfl rfl))
  refine Call_ (ld_blt J g2 m2 bt_set (PyProof.Rows.callWith_type1 (PyProof.Rows.args_cons ?_ na) na rfl))
  have mid : lift X.K np ta σ H fun v H1 => ∃ (l : Addr) (xs : List Str) (G1 : Hp) (ρ1 : TL.Env), v = .ref l ∧ SqT X.K H1 l (xs.map V.str) ∧ xs.length ≤ 4000 ∧ Same G G1 ∧ EnvOk X.K B G1 ρ1 σ H1 ∧ Qd (.dat (.int (distinct xs : Nat))) ρ1 := by
    refine ⟨B, G, ρ, _, hn, eo, h, fun G1 v r ρ1 H1 s1 f1 q1 => ?_⟩
    obtain ⟨ω, e1, rr⟩ := f1
    split at q1
    · rename_i ys hv
      split at q1
      · rename_i xs hx
        obtain rfl := txs_eq hx
        obtain ⟨l, vs, rfl, hs, rl⟩ := (e1.rd rr hv).tup
        obtain rfl := rl.strs_eq
        exact ⟨l, xs, G1, ρ1, rfl, seqT e1.gle hs, q1.1, s1, ⟨ω, e1⟩, q1.2⟩
      · exact q1.elim
    · exact q1.elim
  refine thn (ha.run pins s σ H _ J mid) fun v st ⟨y, H1, J1, r1, q1⟩ => PyProof.Rows.args_nil ?_
  obtain ⟨l, xs, G1, ρ1, rfl, hs, few, s1, e1, q1⟩ := q1
  cases r1
  obtain ⟨its, rv, pl, hz⟩ := J1.tuple hs
  refine set_of_tuple (J1.ok.hd calm) pl (by simpa using texts_of rv) (by unfold scanBound; omega) fun h2 tk full keep => PyProof.Rows.args_nil ?_
  obtain ⟨ob, es, ep, tb, f1, f2, f3, f4, f5, f6, f7, f8⟩ := full
  have J2 : Inv X pins σ H1 { st with heap := h2, toks := tk } := J1.kept fun b o y => keep b o (Heap.lt_size y) y
  have small : distinct xs ≤ 4000 := by
    have := met_len xs []
    unfold distinct
    simp at this
    omega
  refine call_len_set f1 f2 f3 f7 (by rw [f8]; omega) ⟨.int (distinct xs : Nat), H1, J2.tok _, ⟨_, by rw [f8]⟩, ?_⟩
  exact k _ _ _ _ _ s1 (e1.dat (.int _)) q1
end
end TL

/-! TS4: a, b = [..], y where the first is a new list that is changed later. -/
namespace TL
open PySem PySem.Spec PyProof.Rows L2
section
variable {K : PySem.W.Frag} {B : Bs} {G : Hp} {ω : Own} {ρ : Env} {σ : Stt} {H : Hp}
/-- what none owns becomes a slot's -/
theorem EnvW.adopt (e : EnvW K B G ω ρ σ H) {i : Nat} {p : Addr} {vs : List V} {xs : List D} (hw : ω p = none) (hg : G p = none) (hp : H p = some (.lst vs)) (h0 : B.A0 p ∨ B.H0 p = none) (r : RpL K G vs xs) (hi : B.P.length ≤ i) :
    EnvW K B G (tagd ω p i) (ρ.set i (.ls xs)) (σ.set i (some (.ref p))) H := by
  refine ⟨e.gle, e.g0, e.keep, fun a j q => ?_, by rw [List.length_set, List.length_set]; exact e.len, fun j s q => ?_, fun j s w q o pp => ?_⟩
  · unfold tagd at q
    split at q
    · rename_i ha
      subst ha
      exact ⟨hg, by rw [hp]; simp, h0⟩
    · split at q
      · cases q
      · exact e.own a j q
  · by_cases hj : j = i
    · subst hj
      have hl : j < ρ.length := by have := (List.getElem?_eq_some_iff.mp q).1; rwa [List.length_set] at this
      rw [List.getElem?_set_self hl] at q
      cases q
      exact ⟨p, vs, List.getElem?_set_self (by rw [← e.len]; exact hl), tagd_same, hp, r⟩
    · rw [List.getElem?_set_ne (Ne.symm hj)] at q
      rw [List.getElem?_set_ne (Ne.symm hj)]
      refine (e.slot j s q).mono (.refl _) fun a z => ⟨?_, rfl⟩
      have ha : a ≠ p := fun w => by subst w; rw [hw] at z; cases z
      unfold tagd
      rw [if_neg ha, if_neg (fun w => by rw [z] at w; exact hj (Option.some.inj w))]
      exact z
  · by_cases hj : j = i
    · subst hj
      have : j < B.P.length := (List.getElem?_eq_some_iff.mp pp).1
      omega
    · rw [List.getElem?_set_ne (Ne.symm hj)] at q
      rw [List.getElem?_set_ne (Ne.symm hj)]
      exact e.pin j s w q o pp
end
/-- the second is data or new; the first a new list -/
def dPar2L (np i j : Nat) (t u : DTE) : DTS := fun D ρ => t ρ fun r ρ1 => match r with
  | .nw (.ls xs) => np ≤ i ∧ u ρ1 fun r2 ρ2 => (match r2 with
    | .dat d => D.nx ((ρ2.set i (.ls xs)).set j (.fr d))
    | .nw s => np ≤ j ∧ D.nx ((ρ2.set i (.ls xs)).set j s)
    | .sl _ => False)
  | _ => False
section
variable {X : Cx} {a b c : Expr} {ta tb tc : DTE} {np : Nat} {x y z : Str} {px py pz pt pos : Pos} {kt k2 : Nat} {pt2 : Pos}
theorem ds_par2L (i j : Nat) (hc : X.calm = true) (hN : X.N.Nodup) (ha : PE X a (lift X.K np ta)) (hb : PE X b (lift X.K np tb)) (hw : swappedStores [.Tuple [.Name x px, .Name y py] kt pt] (.Tuple [a, b] k2 pt2) X.env = pure (some [x, y]))
    (hi : X.N[i]? = some x := by rfl) (hj : X.N[j]? = some y := by rfl) (hij : i ≠ j := by decide) (hx : X.env.scope.names.lookup x = some .local := by rfl) (hy : X.env.scope.names.lookup y = some .local := by rfl)
    (hs : swapsWithSole [.Tuple [.Name x px, .Name y py] kt pt] (.Tuple [a, b] k2 pt2) pos.line X.env = pure false := by rfl)
    (h1 : starEach [a, b] X.env = (false, eval a X.env) :: starEach [b] X.env := by rfl) (h2 : starEach [b] X.env = (false, eval b X.env) :: starEach [] X.env := by rfl) :
    PS X (.Assign [.Tuple [.Name x px, .Name y py] kt pt] (.Tuple [a, b] k2 pt2) pos) (liftS X.K np (dPar2L np i j ta tb)) := by
  refine (ps_par hc hN hi hj hij hx hy (pa_cons ha (pa_cons hb pa_nil h2) h1) hw hs).mo fun D σ H h => ?_
  obtain ⟨B, G, ρ, Dd, hn, eo, h, k1, k2, k3, k4⟩ := h
  refine ⟨B, G, ρ, _, hn, eo, h, fun G1 v r ρ1 H1 s1 f1 q1 => ?_⟩
  split at q1
  · rename_i xs
    obtain ⟨ω1, e1, _, p, vs, ev, hp, hh, rr⟩ := f1
    cases ev
    obtain ⟨hni, q1⟩ := q1
    obtain ⟨g1, _, g3⟩ := e1.own p _ hp
    have e2 := e1.dropTag (Nat.le_refl _)
    have w2 : untag ω1 σ.length p = none := by unfold untag; rw [if_pos hp]
    refine ⟨reB B G1 (untag ω1 σ.length) ρ1.length H1, G1, ρ1, _, hn, ⟨_, e2.rebase⟩, q1, fun G2 u r2 ρ2 H2 s2 f2 q2 => ⟨.ref p, u, rfl, ?_⟩⟩
    obtain ⟨ω3, e3, r3⟩ := f2
    obtain ⟨z1, z2, z3⟩ := e3.still hh w2 g1
    have e4 := e2.back e3
    have e5 := e4.adopt (i := i) z2 z3 z1 g3 (rr.mono s2) (by rw [hn]; exact hni)
    cases r2 with
    | dat d =>
      have e6 := e5.setD (i := j) r3
      exact k1 _ _ _ _ (s1.trans s2) e6 q2
    | sl _ => exact q2.elim
    | nw s =>
      obtain ⟨o, r3⟩ := r3
      by_cases hil : i < σ.length
      · have r4 : SlOk X.K G2 H2 (fun a => tagd ω3 p i a = some (σ.set i (some (.ref p))).length) (some (some u)) s := r3.mono (.refl _) fun a w => by
          refine ⟨?_, rfl⟩
          rw [List.length_set]
          have hne : a ≠ p := fun y => by subst y; rw [z2] at w; cases w
          unfold tagd
          rw [if_neg hne, if_neg (fun y => by rw [w] at y; have := Option.some.inj y; omega)]
          exact w
        have e6 := e5.setN (i := j) o r4 (by rw [hn]; exact q2.1)
        exact k1 _ _ _ _ (s1.trans s2) e6 q2.2
      · -- the slot i lies off the list: nothing is stored there
        have l1 : σ.set i (some (.ref p)) = σ := List.set_eq_of_length_le (by omega)
        have l2 : ρ2.set i (.ls xs) = ρ2 := List.set_eq_of_length_le (by rw [e4.len]; omega)
        rw [l1]
        rw [l2] at q2
        have e6 := e4.setN (i := j) o r3 (by rw [hn]; exact q2.1)
        exact k1 _ _ _ _ (s1.trans s2) e6 q2.2
  · exact q1.elim
end
end TL
namespace TL
open PySem PySem.Spec PyProof.Rows L2
theorem ktup_size {xs : List Str} {its : Array Value} (w : Vals (xs.map V.str) its.toList) (h : xs.length ≤ 1000) : its.size ≤ sizeLine := by
  have e := w.length
  simp at e
  have : 1000 ≤ sizeLine := by rw [sizeLine_eq]; decide
  omega
end TL

/-! TD1: the law's source of draws over trees: what begun, mixed, take, pick promise, and that their bodies keep it. -/
namespace TL
open PySem PySem.Spec PyProof.Rows L2

theorem ite2' {c : Bool} {A B : Prop} (h1 : c = true → A) (h2 : c = false → B) : if c = true then A else B := by
  cases c with
  | true => exact iteT (h1 rfl)
  | false => exact iteF (h2 rfl)

theorem line_big : 15728640 ≤ sizeLine := by rw [sizeLine_eq]; decide
/-! ### promises -/
def Sp_begun : DSp := fun args Q => ∃ ns : List Int, args = [.fr (.scr ns)] ∧ ns.length ≤ 63 ∧ Q (.nw (.rs (.st 1000000000000))) [.un]
def Sp_mixed : DSp := fun args Q => ∃ L C r t b, args = [.rs (.stx L C r t (b + 1))] ∧ C.length ≤ 63 ∧ 0 ≤ t ∧ t + b ≤ 1000000000000 ∧ ∀ z, Q (.dat (.int z)) [.rs (.stx L C r (t + 1) b)]
def Sp_take : DSp := fun args Q => ∃ b n, args = [.rs (.st b), .fr (.int n)] ∧ 1 ≤ b ∧ 0 < n ∧ n < 1073741824 ∧ ∀ k b', 0 ≤ k → k < n → b ≤ b' + 1 → Q (.dat (.int k)) [.rs (.st b'), .un]
/-- what is drawn from -/
def itemsD : D → Option (List D)
  | .lst xs => some xs
  | .tup xs => some xs
  | .str z => if z.length ≤ sizeLine then some (z.cps.toList.map fun c => .str ⟨#[c]⟩) else none
  | _ => none
def Sp_pick : DSp := fun args Q => ∃ b d xs, args = [.rs (.st b), .fr d] ∧ itemsD d = some xs ∧ 1 ≤ b ∧ xs ≠ [] ∧ xs.length < 1073741824 ∧ ∀ x b', x ∈ xs → b ≤ b' + 1 → Q (.dat x) [.rs (.st b'), .un]

/-! ### bodies -/
def rd_begun : DTS := (dSeq (dSet 1 1 (dLc (iSeq ((dFrz (dVar 0)))) (hName 2) ((dTst (dBin gGe ((dVar 2)) ((dBin gPow (dC (.int 10)) (dC (.int 18))))))) ((dBin gSub ((dVar 2)) ((dBin gPow (dC (.int 10)) (dC (.int 18)))))) [2]))
      (dRet ((dStNew 1 0))))
theorem begun_loop {t : Int} {ρ0 : Env} {Q : Rs → Env → Prop} {s0 : Sl} : ∀ (ns : List Int) (acc : List Int) (o : Sl), (∀ Lg : List Int, Lg.length ≤ acc.length + ns.length → Q (.nw (.ls (Lg.map .int))) [s0, .un, frO ρ0[2]?]) → acc.length + ns.length ≤ 63 →
    dLcL (hName 2) (dTst (dBin gGe (dVar 2) (dBin gPow (dC (.int 10)) (dC (.int 18))))) (dBin gSub (dVar 2) (dBin gPow (dC (.int 10)) (dC (.int 18)))) [2] ρ0 (ns.map .int) (acc.map .int) [s0, .un, o] Q
  | [], acc, o, h, _ => h acc (by simp)
  | n :: ns, acc, o, h, hl => by
    refine ⟨⟨by decide, by decide, by decide⟩, ite2' (fun e => ⟨⟨by decide, by decide, by decide⟩, trivial, ?_⟩) (fun e => ?_)⟩
    · refine ⟨by rw [List.length_map]; have := line_big; simp at hl; omega, ?_⟩
      have := begun_loop (t := t) (ρ0 := ρ0) (Q := Q) (s0 := s0) ns (acc ++ [n - 10 ^ 18]) (.fr (.int n)) (fun Lg hL => h Lg (by simp at hL ⊢; omega)) (by simp at hl ⊢; omega)
      rw [List.map_append] at this
      exact this
    · exact begun_loop (t := t) (ρ0 := ρ0) (Q := Q) (s0 := s0) ns acc (.fr (.int n)) (fun Lg hL => h Lg (by simp at hL ⊢; omega)) (by simp at hl ⊢; omega)
theorem kd_begun : Keeps Sp_begun 1 3 rd_begun := by
  rintro args Q _ ⟨ns, rfl, hn, h⟩
  refine begun_loop (t := 0) (ρ0 := [.fr (.scr ns), .un, .un]) (s0 := .fr (.scr ns)) ns [] .un (fun Lg hL => ⟨Nat.le_refl _, Lg, rfl, ?_, hn, h⟩) (by simp; omega)
  simp at hL
  omega

def rd_pick : DTS := (dRet ((dBin gIx ((dVar 1)) ((dCall 2 Sp_take (dCons ((dVar 0)) (dCons ((dCB gLen (dCons ((dVar 1)) dNil))) dNil)))))))
theorem atI_mem {α : Type} {xs : List α} {k : Int} (h0 : 0 ≤ k) (h1 : k < xs.length) : ∃ x, atI xs k = some x ∧ x ∈ xs := by
  have hk : k.toNat < xs.length := by omega
  refine ⟨xs[k.toNat], ?_, List.getElem_mem _⟩
  have := atI_nat (xs := xs) (j := k.toNat) (List.getElem?_eq_getElem hk)
  rwa [Int.toNat_of_nonneg h0] at this
theorem W2_mk {o p : Option D} {x y : D} {P : D → D → Prop} (h1 : o = some x) (h2 : p = some y) (h : P x y) : W2 o p P := by subst h1; subst h2; exact h
theorem W1_mk {o : Option D} {x : D} {P : D → Prop} (h1 : o = some x) (h : P x) : W1 o P := by subst h1; exact h
theorem gIx_lst {xs : List D} {k : Int} {x : D} {P : Rs → Prop} (e : atI xs k = some x) (h : P (.dat x)) : gIx (.lst xs) (.int k) P := by unfold gIx; simp only [e]; exact h
theorem gIx_tup {xs : List D} {k : Int} {x : D} {P : Rs → Prop} (e : atI xs k = some x) (h : P (.dat x)) : gIx (.tup xs) (.int k) P := by unfold gIx; simp only [e]; exact h
theorem gIx_str {z : Str} {k : Int} {c : Nat} {P : Rs → Prop} (e : atI z.cps.toList k = some c) (hz : z.length ≤ sizeLine) (h : P (.dat (.str ⟨#[c]⟩))) : gIx (.str z) (.int k) P := by unfold gIx; simp only [e]; exact ⟨hz, h⟩
theorem kd_pick : Keeps Sp_pick 2 2 rd_pick := by
  rintro args Q hargs ⟨b, d, xs, rfl, hd, hb, hne, hlen, h⟩
  clear hargs
  have hpos : 0 < xs.length := List.length_pos_iff.mpr hne
  unfold itemsD at hd
  split at hd
  · cases hd
    refine ⟨rfl, rfl, b, _, rfl, hb, by omega, by omega, fun k b' h0 h1 h2 => ?_⟩
    obtain ⟨x, e, m⟩ := atI_mem h0 h1
    exact W2_mk rfl rfl (gIx_lst e (h x b' m h2))
  · cases hd
    refine ⟨rfl, rfl, b, _, rfl, hb, by omega, by omega, fun k b' h0 h1 h2 => ?_⟩
    obtain ⟨x, e, m⟩ := atI_mem h0 h1
    exact W2_mk rfl rfl (gIx_tup e (h x b' m h2))
  · rename_i z
    split at hd
    · rename_i hz
      cases hd
      rw [List.length_map] at hlen hpos
      have hl : z.cps.toList.length = z.length := Array.length_toList
      refine ⟨hz, rfl, rfl, b, _, rfl, hb, by omega, by omega, fun k b' h0 h1 h2 => ?_⟩
      obtain ⟨x, e, m⟩ := atI_mem (xs := z.cps.toList) h0 (by rw [hl]; exact h1)
      exact W2_mk rfl rfl (gIx_str e hz (h _ b' (List.mem_map.mpr ⟨x, m, rfl⟩) h2))
    · cases hd
  · cases hd
def rd_take : DTS := (dDraw 0 (dSeq (dIf ((dTst (dBin (gEq false) ((dStRest 0)) (dC (.int 0))))) (dStSetRest 0 ((dIfE ((dStAny 0)) ((dStPop 0)) ((dCall 1 Sp_mixed (dCons ((dVar 0)) dNil)))))) dNext)
      (dSeq (dSet 2 2 ((dBin gMod ((dCB gInt (dCons ((dStRest 0)) dNil))) ((dVar 1)))))
      (dSeq (dStSetRest 0 ((dBin gDiv ((dStRest 0)) ((dVar 1)))))
      (dRet ((dVar 2)))))))
theorem kd_take : Keeps Sp_take 2 3 rd_take := by
  rintro args Q _ ⟨b, n, rfl, hb, h0, h1, h⟩
  refine ⟨b, rfl, fun L C r t l1 l2 l3 l4 => ?_⟩
  have rest : ∀ (L' : List Int) (r' t' : Int) (b' : Nat), b ≤ b' + 1 → dSeq (dSet 2 2 ((dBin gMod ((dCB gInt (dCons ((dStRest 0)) dNil))) ((dVar 1))))) (dSeq (dStSetRest 0 ((dBin gDiv ((dStRest 0)) ((dVar 1))))) (dRet ((dVar 2))))
      { nx := shut1 0 (dEnd 2 Q).nx, rt := fun x => match x with | .dat d => shut1 0 ((dEnd 2 Q).rt (.dat d)) | _ => fun _ => False, bk := shut1 0 (dEnd 2 Q).bk, ct := shut1 0 (dEnd 2 Q).ct } [.rs (.stx L' C r' t' b'), .fr (.int n), .un] := fun L' r' t' b' hb' =>
    ⟨h0, ⟨h0, h1⟩, h _ _ (Int.emod_nonneg _ (by omega)) (Int.emod_lt_of_pos _ h0) hb'⟩
  refine ite2' (fun e => ?_) (fun e => rest L r t b (by omega))
  cases L with
  | nil =>
    obtain ⟨b0, rfl⟩ : ∃ b0, b = b0 + 1 := ⟨b - 1, by omega⟩
    exact ⟨rfl, rfl, [], C, r, t, b0, rfl, l2, l3, by omega, fun z => rest [] z (t + 1) b0 (by omega)⟩
  | cons x L => exact rest L x t b (by omega)

def rd_mixed : DTS := (dSeq (dStSetTurn 0 ((dBin gAdd ((dStTurn 0)) (dC (.int 1)))))
      (dSeq (dSet 1 1 (dC (.int 0)))
      (dSeq (dFor (iSeq ((dLst (dCons (dC (.int 2147483629)) (dCons (dC (.int 2147483587)) (dCons (dC (.int 2147483579)) (dCons (dC (.int 2147483563)) (dCons (dC (.int 2147483549)) (dCons (dC (.int 2147483543)) dNil))))))))) (hName 2) (dSeq (dSet 1 3 ((dBin gAdd ((dBin gMul (dC (.int 104729)) ((dStTurn 0)))) ((dBin gDiv ((dVar 2)) (dC (.int 7)))))))
      (dSeq (dFor (iSeq ((dStCells 0))) (hName 4) (dSet 1 3 ((dBin gMod ((dCB gInt (dCons ((dBin gAdd ((dBin gMul ((dVar 3)) (dC (.int 48271)))) ((dVar 4)))) dNil))) ((dVar 2))))))
      (dSet 1 1 ((dBin gAdd ((dBin gMul ((dVar 1)) (dC (.int 2147483647)))) ((dBin gMod ((dCB gInt (dCons ((dBin gPow ((dVar 3)) (dC (.int 5)))) dNil))) ((dVar 2))))))))))
      (dRet ((dVar 1))))))
theorem mixed_in {E : DEnds} {s0 s1 : Sl} {p : Int} (hp : 0 < p) (hp2 : p < 4611686018427387904) : ∀ (ns : List Int) (bl : Int) (o : Sl), 0 ≤ bl → bl < 4611686018427387904 → (∀ bl' o', 0 ≤ bl' → bl' < 4611686018427387904 → E.nx [s0, s1, .fr (.int p), .fr (.int bl'), o']) →
    dForL (hName 4) (dSet 1 3 ((dBin gMod ((dCB gInt (dCons ((dBin gAdd ((dBin gMul ((dVar 3)) (dC (.int 48271)))) ((dVar 4)))) dNil))) ((dVar 2))))) E (ns.map .int) [s0, s1, .fr (.int p), .fr (.int bl), o]
  | [], bl, o, h0, h1, h => h bl o h0 h1
  | n :: ns, bl, o, h0, h1, h => ⟨.inr (by decide), hp, mixed_in hp hp2 ns _ _ (Int.emod_nonneg _ (by omega)) (Int.lt_trans (Int.emod_lt_of_pos _ hp) hp2) h⟩
theorem mixed_out {E : DEnds} {L C : List Int} {r t : Int} {b : Nat} (ht : 0 ≤ t) (ht2 : t ≤ 1000000000001) : ∀ (ps : List Int) (z : Int) (o2 o3 o4 : Sl), (∀ p ∈ ps, 0 < p ∧ p < 4294967296) → (∀ z o2 o3 o4, E.nx [.rs (.stx L C r t b), .fr (.int z), o2, o3, o4]) →
    dForL (hName 2) (dSeq (dSet 1 3 ((dBin gAdd ((dBin gMul (dC (.int 104729)) ((dStTurn 0)))) ((dBin gDiv ((dVar 2)) (dC (.int 7)))))))
      (dSeq (dFor (iSeq ((dStCells 0))) (hName 4) (dSet 1 3 ((dBin gMod ((dCB gInt (dCons ((dBin gAdd ((dBin gMul ((dVar 3)) (dC (.int 48271)))) ((dVar 4)))) dNil))) ((dVar 2))))))
      (dSet 1 1 ((dBin gAdd ((dBin gMul ((dVar 1)) (dC (.int 2147483647)))) ((dBin gMod ((dCB gInt (dCons ((dBin gPow ((dVar 3)) (dC (.int 5)))) dNil))) ((dVar 2))))))))) E (ps.map .int) [.rs (.stx L C r t b), .fr (.int z), o2, o3, o4]
  | [], z, o2, o3, o4, _, h => h z o2 o3 o4
  | p :: ps, z, o2, o3, o4, hps, h => by
    obtain ⟨p0, p1⟩ := hps p List.mem_cons_self
    refine ⟨.inl (by decide), ⟨by decide, by decide⟩, ?_⟩
    refine mixed_in (s0 := .rs (.stx L C r t b)) (s1 := .fr (.int z)) p0 (by omega) C (104729 * t + p / 7) o4 (by have : 0 ≤ p / 7 := Int.ediv_nonneg (by omega) (by omega); omega) (by have : p / 7 ≤ p := Int.ediv_le_self _ (by omega); omega) fun bl o' b0 b1 => ?_
    exact ⟨.inr (by decide), ⟨by decide, by decide, by omega⟩, p0, mixed_out ht ht2 ps _ _ _ _ (fun q hq => hps q (List.mem_cons_of_mem _ hq)) h⟩
theorem kd_mixed : Keeps Sp_mixed 1 5 rd_mixed := by
  rintro args Q hargs ⟨L, C, r, t, b, rfl, hC, ht, ht2, h⟩
  clear hargs
  refine ⟨b, rfl, rfl, by have := line_big; show 6 ≤ sizeLine; omega, ?_⟩
  refine mixed_out (L := L) (C := C) (r := r) (t := t + 1) (b := b) (by omega) (by omega) [2147483629, 2147483587, 2147483579, 2147483563, 2147483549, 2147483543] 0 .un .un .un ?_ (fun z _ _ _ => h z)
  intro p hp
  simp only [List.mem_cons, List.not_mem_nil, or_false] at hp
  rcases hp with rfl | rfl | rfl | rfl | rfl | rfl <;> exact ⟨by decide, by decide⟩
end TL

/-! TD2: values that are shown: sizes. -/
namespace TL
open PySem PySem.Spec PyProof.Rows L2

def okS (x : Str) : Bool := x.cps.all (· < 1114112)
def okI (N : Nat) (i : Int) : Bool := decide (i.natAbs ≤ N)
def topN : Nat := 10 ^ 149
def okKey (N : Nat) : Key → Bool
  | .inl i => okI N i
  | .inr x => okS x
mutual
def okD (N : Nat) : D → Bool
  | .non => true
  | .bl _ => true
  | .int i => okI N i
  | .str x => okS x
  | .tup xs => okL N xs
  | .lst xs => okL N xs
  | .dct kvs => okK N kvs
  | .obj _ _ => false
  | .ref _ => false
  | .ty _ => false
  | .scr _ => false
def okL (N : Nat) : List D → Bool
  | [] => true
  | x :: xs => okD N x && okL N xs
def okK (N : Nat) : List (Key × D) → Bool
  | [] => true
  | (k, v) :: r => okKey N k && (okD N v && okK N r)
end
theorem okI_log {N : Nat} (hN : N ≤ topN) {i : Int} (h : okI N i = true) : i.natAbs.log2 < 1920 := by
  have h1 : i.natAbs < 10 ^ 150 := Nat.lt_of_le_of_lt (Nat.le_trans (of_decide_eq_true h) hN) (by decide)
  by_cases h0 : i.natAbs = 0
  · rw [h0]; decide
  · rw [Nat.log2_lt h0]
    exact Nat.lt_of_lt_of_le h1 (by decide)
mutual
theorem okD_plain {N : Nat} : ∀ d : D, okD N d = true → plain d = true
  | .non, _ => rfl
  | .bl _, _ => rfl
  | .int _, _ => rfl
  | .str _, _ => rfl
  | .tup xs, h => okL_plain xs h
  | .lst xs, h => okL_plain xs h
  | .dct kvs, h => okK_plain kvs h
  | .obj _ _, h => by cases h
  | .ref _, h => by cases h
  | .ty _, h => by cases h
  | .scr _, h => by cases h
theorem okL_plain {N : Nat} : ∀ xs : List D, okL N xs = true → plainL xs = true
  | [], _ => rfl
  | x :: xs, h => by
    have h' : okD N x = true ∧ okL N xs = true := by simpa [okL] using h
    show (plain x && plainL xs) = true
    rw [okD_plain x h'.1, okL_plain xs h'.2]; rfl
theorem okK_plain {N : Nat} : ∀ xs : List (Key × D), okK N xs = true → plainK xs = true
  | [], _ => rfl
  | (k, v) :: xs, h => by
    have h' : okKey N k = true ∧ okD N v = true ∧ okK N xs = true := by simpa [okK] using h
    show (plain v && plainK xs) = true
    rw [okD_plain v h'.2.1, okK_plain xs h'.2.2]; rfl
end

theorem okI_short {N : Nat} (hN : N ≤ topN) {i : Int} (h : okI N i = true) : (PyData.shown (.int i)).length ≤ 160 := by
  have h1 : i.natAbs < 10 ^ 150 := Nat.lt_of_le_of_lt (Nat.le_trans (of_decide_eq_true h) hN) (by decide)
  rw [PyData.shown_int]
  have := int_text_length_le10 (k := 150) (by decide) h1
  show (Str.ofString (toString i)).length ≤ 160
  rw [PySem.ofString_length]
  omega
theorem okS_short {x : Str} (h : okS x = true) : (x.cps.toList.all fun c => decide (c < 16 ^ 8)) = true := by
  unfold okS at h
  rw [List.all_eq_true]
  intro c hc
  have := (Array.all_eq_true_iff_forall_mem.mp h) c (Array.mem_toList_iff.mp hc)
  have h2 : c < 1114112 := by simpa using this
  exact decide_eq_true (by have : (16 : Nat) ^ 8 = 4294967296 := by decide
                           omega)
theorem okKey_short {N : Nat} (hN : N ≤ topN) {k : Key} (h : okKey N k = true) : (kD k).leavesShort 160 = true ∧ (kD k).showable = true := by
  cases k with
  | inl i => exact ⟨by show decide _ = true; exact decide_eq_true (okI_short hN h), by show decide _ = true; exact decide_eq_true (okI_log hN h)⟩
  | inr x => exact ⟨okS_short h, rfl⟩
mutual
theorem okD_fit {N : Nat} (hN : N ≤ topN) : ∀ d : D, okD N d = true → (py d).leavesShort 160 = true ∧ (py d).showable = true
  | .non, _ => ⟨rfl, rfl⟩
  | .bl _, _ => ⟨rfl, rfl⟩
  | .int i, h => ⟨by show decide _ = true; exact decide_eq_true (okI_short hN h), by show decide _ = true; exact decide_eq_true (okI_log hN h)⟩
  | .str x, h => ⟨okS_short h, rfl⟩
  | .tup xs, h => okL_fit hN xs h
  | .lst xs, h => okL_fit hN xs h
  | .dct kvs, h => okK_fit hN kvs h
  | .obj _ _, h => by cases h
  | .ref _, h => by cases h
  | .ty _, h => by cases h
  | .scr _, h => by cases h
theorem okL_fit {N : Nat} (hN : N ≤ topN) : ∀ xs : List D, okL N xs = true → PyData.leavesShortAll 160 (pyL xs) = true ∧ PyData.showableAll (pyL xs) = true
  | [], _ => ⟨rfl, rfl⟩
  | x :: xs, h => by
    have h' : okD N x = true ∧ okL N xs = true := by simpa [okL] using h
    have h1 := okD_fit hN x h'.1
    have h2 := okL_fit hN xs h'.2
    exact ⟨by show (_ && _) = true; rw [h1.1, h2.1]; rfl, by show (_ && _) = true; rw [h1.2, h2.2]; rfl⟩
theorem okK_fit {N : Nat} (hN : N ≤ topN) : ∀ xs : List (Key × D), okK N xs = true → PyData.leavesShortKv 160 (pyK xs) = true ∧ PyData.showableKv (pyK xs) = true
  | [], _ => ⟨rfl, rfl⟩
  | (k, v) :: xs, h => by
    have h' : okKey N k = true ∧ okD N v = true ∧ okK N xs = true := by simpa [okK] using h
    have h0 := okKey_short hN h'.1
    have h1 := okD_fit hN v h'.2.1
    have h2 := okK_fit hN xs h'.2.2
    exact ⟨by show (_ && _ && _) = true; rw [h0.1, h1.1, h2.1]; rfl, by show (_ && _ && _) = true; rw [h0.2, h1.2, h2.2]; rfl⟩
end
def wt (d : D) : Nat := (py d).weight
def dp (d : D) : Nat := (py d).depth
def wtL (xs : List D) : Nat := PyData.weightAll (pyL xs)
def dpL (xs : List D) : Nat := PyData.depthAll (pyL xs)
structure Fine (N w m : Nat) (d : D) : Prop where
  ok : okD N d = true
  lw : wt d ≤ w
  ld : dp d ≤ m
structure FineL (N w m : Nat) (xs : List D) : Prop where
  ok : okL N xs = true
  lw : wtL xs ≤ w
  ld : dpL xs ≤ m
theorem Fine.mono {N w m w' m' : Nat} {d : D} (h : Fine N w m d) (h1 : w ≤ w') (h2 : m ≤ m') : Fine N w' m' d := ⟨h.ok, Nat.le_trans h.lw h1, Nat.le_trans h.ld h2⟩
theorem FineL.mono {N w m w' m' : Nat} {d : List D} (h : FineL N w m d) (h1 : w ≤ w') (h2 : m ≤ m') : FineL N w' m' d := ⟨h.ok, Nat.le_trans h.lw h1, Nat.le_trans h.ld h2⟩
theorem Fine.plain {N w m : Nat} {d : D} (h : Fine N w m d) : plain d = true := okD_plain d h.ok
theorem Fine.show_ {N w m : Nat} {d : D} (h : Fine N w m d) (hN : N ≤ topN) (hw : w ≤ 100000) (hm : m ≤ 50) : ShowOk d := by
  refine ⟨h.plain, (okD_fit hN d h.ok).2, ?_, Nat.le_trans h.ld hm⟩
  have h1 := PyData.shown_le 160 (by decide) (py d) (okD_fit hN d h.ok).1
  have h2 : (py d).weight ≤ 100000 := Nat.le_trans h.lw hw
  have h3 : (160 + 2) * (py d).weight ≤ 162 * 100000 := Nat.mul_le_mul_left _ h2
  rw [sizeLine_eq]
  omega
theorem Fine.tup {N w m : Nat} {xs : List D} (h : FineL N w m xs) : Fine N w (m + 1) (.tup xs) := ⟨h.ok, h.lw, Nat.succ_le_succ h.ld⟩
theorem Fine.lst {N w m : Nat} {xs : List D} (h : FineL N w m xs) : Fine N w (m + 1) (.lst xs) := ⟨h.ok, h.lw, Nat.succ_le_succ h.ld⟩
theorem Fine.tup' {N w m : Nat} {xs : List D} (h : Fine N w m (.tup xs)) : ∃ m', m = m' + 1 ∧ FineL N w m' xs := by
  have : dpL xs + 1 ≤ m := h.ld
  exact ⟨m - 1, by omega, h.ok, h.lw, by omega⟩
theorem Fine.lst' {N w m : Nat} {xs : List D} (h : Fine N w m (.lst xs)) : ∃ m', m = m' + 1 ∧ FineL N w m' xs := by
  have : dpL xs + 1 ≤ m := h.ld
  exact ⟨m - 1, by omega, h.ok, h.lw, by omega⟩
/-! lists of such values -/
theorem okL_iff {N : Nat} : ∀ {xs : List D}, okL N xs = true ↔ ∀ x ∈ xs, okD N x = true
  | [] => by simp [okL]
  | x :: xs => by
    have := okL_iff (N := N) (xs := xs)
    simp [okL, this]
theorem wtL_eq : ∀ xs : List D, wtL xs = (xs.map fun d => wt d + 1).sum
  | [] => rfl
  | x :: xs => by
    show PyData.weight (py x) + 1 + wtL xs = _
    rw [wtL_eq xs, List.map_cons, List.sum_cons]; rfl
theorem dpL_le : ∀ {xs : List D} {m : Nat}, dpL xs ≤ m ↔ ∀ x ∈ xs, dp x ≤ m
  | [], m => by simp [dpL, pyL, PyData.depthAll]
  | x :: xs, m => by
    have := dpL_le (xs := xs) (m := m)
    show max (dp x) (dpL xs) ≤ m ↔ _
    rw [Nat.max_le, this]
    simp
theorem wtL_append (xs ys : List D) : wtL (xs ++ ys) = wtL xs + wtL ys := by rw [wtL_eq, wtL_eq, wtL_eq, List.map_append, List.sum_append]
theorem wtL_cons (x : D) (ys : List D) : wtL (x :: ys) = wt x + 1 + wtL ys := rfl
theorem wtL_mem {x : D} : ∀ {xs : List D}, x ∈ xs → wt x + 1 ≤ wtL xs
  | y :: ys, h => by
    rw [wtL_cons]
    rcases List.mem_cons.mp h with rfl | h
    · omega
    · have := wtL_mem h
      omega
theorem wtL_length : ∀ xs : List D, xs.length ≤ wtL xs
  | [] => Nat.le_refl _
  | x :: xs => by
    rw [wtL_cons, List.length_cons]
    have := wtL_length xs
    omega
theorem FineL.mem {N w m : Nat} {xs : List D} (h : FineL N w m xs) {x : D} (hx : x ∈ xs) : Fine N w m x := ⟨okL_iff.mp h.ok x hx, by have := wtL_mem hx; have := h.lw; omega, dpL_le.mp h.ld x hx⟩
theorem FineL.memW {N w m : Nat} {xs : List D} (h : FineL N w m xs) {x : D} (hx : x ∈ xs) : wt x + 1 ≤ w := by have := wtL_mem hx; have := h.lw; omega
theorem FineL.of {N w m : Nat} {xs : List D} (h1 : ∀ x ∈ xs, okD N x = true ∧ TL.dp x ≤ m) (h2 : wtL xs ≤ w) : FineL N w m xs := ⟨okL_iff.mpr fun x hx => (h1 x hx).1, h2, dpL_le.mpr fun x hx => (h1 x hx).2⟩
theorem sub_sum {xs ys : List Nat} (h : ys.Sublist xs) : ys.sum ≤ xs.sum := by
  induction h with
  | slnil => exact Nat.le_refl _
  | cons a _ ih => rw [List.sum_cons]; omega
  | cons_cons a _ ih => rw [List.sum_cons, List.sum_cons]; omega
theorem FineL.sub {N w m : Nat} {xs ys : List D} (h : FineL N w m xs) (hs : ys.Sublist xs) : FineL N w m ys := by
  refine .of (fun x hx => ⟨okL_iff.mp h.ok x (hs.subset hx), dpL_le.mp h.ld x (hs.subset hx)⟩) (Nat.le_trans ?_ h.lw)
  rw [wtL_eq, wtL_eq]
  exact sub_sum (hs.map _)
theorem FineL.append {N w w' m : Nat} {xs ys : List D} (h : FineL N w m xs) (h' : FineL N w' m ys) : FineL N (w + w') m (xs ++ ys) := by
  refine .of (fun x hx => ?_) (by rw [wtL_append]; exact Nat.add_le_add h.lw h'.lw)
  rcases List.mem_append.mp hx with z | z
  · exact ⟨okL_iff.mp h.ok x z, dpL_le.mp h.ld x z⟩
  · exact ⟨okL_iff.mp h'.ok x z, dpL_le.mp h'.ld x z⟩
theorem FineL.cons {N w w' m : Nat} {x : D} {ys : List D} (h : Fine N w m x) (h' : FineL N w' m ys) : FineL N (w + 1 + w') m (x :: ys) := by
  refine .of (fun y hy => ?_) (by rw [wtL_cons]; have := h.lw; have := h'.lw; omega)
  rcases List.mem_cons.mp hy with rfl | z
  · exact ⟨h.ok, h.ld⟩
  · exact ⟨okL_iff.mp h'.ok y z, dpL_le.mp h'.ld y z⟩
theorem FineL.nil {N w m : Nat} : FineL N w m [] := ⟨rfl, Nat.zero_le _, Nat.zero_le _⟩
theorem FineL.rev {N w m : Nat} {xs : List D} (h : FineL N w m xs) : FineL N w m xs.reverse := by
  refine .of (fun x hx => ⟨okL_iff.mp h.ok x (List.mem_reverse.mp hx), dpL_le.mp h.ld x (List.mem_reverse.mp hx)⟩) (Nat.le_trans (Nat.le_of_eq ?_) h.lw)
  rw [wtL_eq, wtL_eq, List.map_reverse, List.sum_reverse]
theorem wtL_set (y : D) : ∀ (xs : List D) (i : Nat), wtL (xs.set i y) ≤ wtL xs + wt y + 1
  | [], _ => by simp [wtL, pyL, PyData.weightAll]
  | x :: xs, 0 => by show wt y + 1 + wtL xs ≤ wt x + 1 + wtL xs + wt y + 1; omega
  | x :: xs, i + 1 => by
    have := wtL_set y xs i
    show wt x + 1 + wtL (xs.set i y) ≤ wt x + 1 + wtL xs + wt y + 1
    omega
theorem FineL.set {N w w' m : Nat} {xs : List D} {y : D} (h : FineL N w m xs) (hy : Fine N w' m y) (i : Nat) : FineL N (w + w' + 1) m (xs.set i y) := by
  refine .of (fun x hx => ?_) ?_
  · rcases List.mem_or_eq_of_mem_set hx with z | rfl
    · exact ⟨okL_iff.mp h.ok x z, dpL_le.mp h.ld x z⟩
    · exact ⟨hy.ok, hy.ld⟩
  · have := wtL_set y xs i
    have := h.lw
    have := hy.lw
    omega
theorem Fine.len_str {N w m : Nat} {x : Str} (h : Fine N w m (.str x)) : x.length ≤ w := h.lw
end TL

/-! TD3: drawn words. -/
namespace TL
open PySem PySem.Spec PyProof.Rows L2

def letsS : Str := "abcdefghijklmnopqrstuvwxyz"
def lets : List Nat := letsS.cps.toList
theorem lets_len : lets.length = 26 := by decide +kernel
theorem lets_nodup : lets.Nodup := by decide +kernel
def wdB (z : Str) : Bool := decide (1 ≤ z.length) && (decide (z.length ≤ 8) && z.cps.toList.all fun c => decide (c ∈ lets))
def Wd (z : Str) : Prop := wdB z = true
theorem Wd.of {z : Str} (h1 : 1 ≤ z.length) (h2 : z.length ≤ 8) (h3 : ∀ c ∈ z.cps.toList, c ∈ lets) : Wd z := by
  unfold Wd wdB
  simp only [Bool.and_eq_true, decide_eq_true_eq, List.all_eq_true]
  exact ⟨h1, h2, h3⟩
theorem Wd.all {z : Str} (h : Wd z) : 1 ≤ z.length ∧ z.length ≤ 8 ∧ ∀ c ∈ z.cps.toList, c ∈ lets := by
  unfold Wd wdB at h
  simpa only [Bool.and_eq_true, decide_eq_true_eq, List.all_eq_true] using h
def poolW : List Str := Txt.split "x y do turn check none there going again rough own other keeper wants" " "
theorem pool_wd : (poolW ++ ([("zzzzzzzz" : Str), "a", "b", "words", "rule"] : List Str)).all wdB = true := by decide +kernel
theorem pool_len : poolW.length ≤ 1000 := by decide +kernel

theorem okS_wd {z : Str} (h : Wd z) : okS z = true := by
  unfold okS
  rw [Array.all_eq_true_iff_forall_mem]
  intro c hc
  have h1 := h.all.2.2 c (Array.mem_toList_iff.mpr hc)
  have h2 : ∀ c ∈ lets, c < 123 := by decide +kernel
  have := h2 c h1
  simpa using (by omega : c < 1114112)
theorem fine_str {z : Str} {N w m : Nat} (h : okS z = true) (hl : z.length ≤ w) : Fine N w m (.str z) := ⟨h, hl, Nat.zero_le _⟩
theorem Wd.fine {z : Str} (h : Wd z) {N w m : Nat} (hw : 8 ≤ w) : Fine N w m (.str z) := fine_str (okS_wd h) (Nat.le_trans h.all.2.1 hw)
theorem strLen {z : Str} : z.cps.toList.length = z.length := Array.length_toList
theorem wd_one {c : Nat} (h : c ∈ lets) : Wd ⟨#[c]⟩ := .of (Nat.le_refl _) (by show 1 ≤ 8; decide) (fun d hd => by
  have : d = c := by simpa using hd
  subst this
  exact h)
theorem join_cps : ∀ cs : List Nat, (Str.join "" (cs.map fun c => (⟨#[c]⟩ : Str))).cps.toList = cs
  | [] => rfl
  | [c] => rfl
  | c :: d :: r => by
    have ih := join_cps (d :: r)
    show ((⟨#[c]⟩ : Str) ++ "" ++ Str.join "" ((d :: r).map fun c => (⟨#[c]⟩ : Str))).cps.toList = _
    show ((#[c] ++ (#[] : Array Nat)) ++ (Str.join "" ((d :: r).map fun c => (⟨#[c]⟩ : Str))).cps).toList = _
    rw [Array.toList_append, ih]
    rfl
theorem join_wd {cs : List Nat} (h1 : 1 ≤ cs.length) (h2 : cs.length ≤ 8) (h3 : ∀ c ∈ cs, c ∈ lets) : Wd (Txt.join "" (cs.map fun c => (⟨#[c]⟩ : Str))) := by
  have e : Txt.join "" (cs.map fun c => (⟨#[c]⟩ : Str)) = Str.join "" (cs.map fun c => (⟨#[c]⟩ : Str)) := StrLaws.glued_eq_join _ _
  rw [e]
  have l : (Str.join "" (cs.map fun c => (⟨#[c]⟩ : Str))).length = cs.length := by rw [← strLen, join_cps]
  exact .of (by omega) (by omega) (by rw [join_cps]; exact h3)
def cut7 (z : Str) : Str := cutS z none (some 7)
theorem cut7_cps (z : Str) : (cut7 z).cps.toList = z.cps.toList.take 7 := by
  unfold cut7 cutS
  show ((z.cps.toList.drop (HT.sIx z.length 0 none)).take (HT.sIx z.length z.length (some ((7 : Nat) : Int)) - HT.sIx z.length 0 none)) = _
  rw [HT.sIx_none, HT.sIx_nat, List.drop_zero, Nat.sub_zero]
  by_cases h : 7 ≤ z.length
  · rw [Nat.min_eq_left h]
  · rw [Nat.min_eq_right (by omega), ← strLen, List.take_length, List.take_of_length_le (by rw [strLen]; omega)]
theorem app_cps (a b : Str) : (a ++ b).cps.toList = a.cps.toList ++ b.cps.toList := by
  show (a.cps ++ b.cps).toList = _
  rw [Array.toList_append]
/-- the words near a word -/
def nearW (z : Str) : List Str := z :: lets.map fun c => cut7 z ++ ⟨#[c]⟩
theorem near_wd {z : Str} (h : Wd z) : ∀ y ∈ nearW z, Wd y := by
  intro y hy
  rcases List.mem_cons.mp hy with rfl | hy
  · exact h
  · obtain ⟨c, hc, rfl⟩ := List.mem_map.mp hy
    have e := app_cps (cut7 z) ⟨#[c]⟩
    rw [cut7_cps] at e
    have l : (cut7 z ++ (⟨#[c]⟩ : Str)).length = (z.cps.toList.take 7).length + 1 := by
      rw [← strLen, e, List.length_append]; rfl
    rw [List.length_take] at l
    refine .of (by omega) (by omega) (fun d hd => ?_)
    rw [e] at hd
    rcases List.mem_append.mp hd with hd | hd
    · exact h.all.2.2 d (List.mem_of_mem_take hd)
    · have : d = c := by simpa using hd
      subst this
      exact hc
theorem str_ext {a b : Str} (h : a.cps.toList = b.cps.toList) : a = b := by
  obtain ⟨a⟩ := a
  obtain ⟨b⟩ := b
  exact congrArg Str.mk (Array.toList_inj.mp h)
theorem near_nodup (z : Str) : (lets.map fun c => cut7 z ++ (⟨#[c]⟩ : Str)).Nodup := by
  refine List.Pairwise.map _ ?_ lets_nodup
  intro a b hab h
  have e : (cut7 z ++ (⟨#[a]⟩ : Str)).cps.toList = (cut7 z ++ (⟨#[b]⟩ : Str)).cps.toList := congrArg (fun s => s.cps.toList) h
  rw [app_cps, app_cps] at e
  have := List.append_cancel_left e
  exact hab (by simpa using this)
/-- one of them is new -/
theorem near_new (z : Str) (ws : List Str) (h : ws.length < 26) : ∃ y ∈ nearW z, y ∉ ws := by
  refine Classical.byContradiction fun n => ?_
  have sub : ∀ y ∈ (lets.map fun c => cut7 z ++ (⟨#[c]⟩ : Str)), y ∈ ws := fun y hy => Classical.byContradiction fun m => n ⟨y, List.mem_cons_of_mem _ hy, m⟩
  have := (List.nodup_iff_count.mp (near_nodup z))
  have hl : (lets.map fun c => cut7 z ++ (⟨#[c]⟩ : Str)).length ≤ ws.length := (near_nodup z).length_le_of_subset sub
  rw [List.length_map, lets_len] at hl
  omega
end TL

/-! TD4: the drawing of words. -/
namespace TL
open PySem PySem.Spec PyProof.Rows L2

def chD (c : Nat) : D := .str ⟨#[c]⟩
theorem items_str {z : Str} (h : z.length ≤ sizeLine) : itemsD (.str z) = some (z.cps.toList.map chD) := if_pos h
theorem letsS_len : letsS.length = 26 := by decide +kernel
theorem items_lets {Z : Str} (hZ : Z.cps.toList = lets) : itemsD (.str Z) = some (lets.map chD) := by
  rw [items_str (by rw [← strLen, hZ, lets_len]; have := line_big; omega), hZ]
theorem fin_big {n : Nat} (h : n ≤ 1000) : n < sizeLine := by have := line_big; omega
section
variable {Q : Rs → TL.Env → Prop} {ρ0 : TL.Env} {s0 m s2 pl fd k w j n l o : Sl}
theorem wl_join {Z : Str} (hZ : Z.cps.toList = lets) : ∀ (ds : List D) (cs : List Nat) (b : Nat) (j : Sl), ds.length ≤ b → cs.length + ds.length ≤ 8 → (∀ c ∈ cs, c ∈ lets) →
    (∀ (cs' : List Nat) (b' : Nat), cs'.length = cs.length + ds.length → (∀ c ∈ cs', c ∈ lets) → b ≤ b' + ds.length → Q (.nw (.ls (cs'.map chD))) [.rs (.st b'), m, .fr (.str Z), pl, fd, k, w, frO ρ0[7]?, n, l, o]) →
    dLcL (hName 7) dYes (dCall 2 Sp_pick (dCons (dVar 0) (dCons (dFrz (dVar 2)) dNil))) [7] ρ0 ds (cs.map chD) [.rs (.st b), m, .fr (.str Z), pl, fd, k, w, j, n, l, o] Q
  | [], cs, b, j, _, _, hc, h => h cs b rfl hc (Nat.le_refl _)
  | d :: ds, cs, b, j, hb, hl, hc, h => by
    refine ⟨rfl, rfl, b, .str Z, lets.map chD, rfl, items_lets hZ, ?_, ?_, ?_, fun x b' hx hb' => ?_⟩
    · simp at hb; omega
    · intro z; have := congrArg List.length z; rw [List.length_map, lets_len] at this; cases this
    · rw [List.length_map, lets_len]; decide
    · obtain ⟨c, hc', rfl⟩ := List.mem_map.mp hx
      refine ⟨fin_big (by rw [List.length_map]; simp at hl; omega), ?_⟩
      have := wl_join hZ ds (cs ++ [c]) b' (.fr d) (by simp at hb; omega) (by simp at hl ⊢; omega) (fun x hx => by
        rcases List.mem_append.mp hx with z | z
        · exact hc x z
        · have : x = c := by simpa using z
          subst this
          exact hc') (fun cs' b2 h1 h2 h3 => h cs' b2 (by simp at h1 ⊢; omega) h2 (by simp at h3 ⊢; omega))
      rw [List.map_append] at this
      exact this
theorem wl_near {z : Str} (hz : z.length ≤ 8) : ∀ (cs : List Nat) (acc : List Str) (l : Sl), acc.length + cs.length ≤ 1000 →
    Q (.nw (.ls ((acc ++ cs.map fun c => cut7 z ++ (⟨#[c]⟩ : Str)).map .str))) [s0, m, s2, pl, fd, k, .fr (.str z), j, n, frO ρ0[9]?, o] →
    dLcL (hName 9) dYes (dBin gAdd (dSlice (dVar 6) dNoP (dPart (dC (.int 7)))) (dVar 9)) [9] ρ0 (cs.map chD) (acc.map .str) [s0, m, s2, pl, fd, k, .fr (.str z), j, n, l, o] Q
  | [], acc, l, _, h => by
    have h' : Q (.nw (.ls (acc.map .str))) [s0, m, s2, pl, fd, k, .fr (.str z), j, n, frO ρ0[9]?, o] := by simpa using h
    exact h'
  | c :: cs, acc, l, hl, h => by
    have l7 : (cut7 z).length ≤ 7 := by rw [← strLen, cut7_cps, List.length_take]; omega
    refine ⟨by have := line_big; omega, ⟨by have := line_big; show (cut7 z).length + 1 ≤ sizeLine; omega, ?_⟩⟩
    refine ⟨fin_big (by rw [List.length_map]; simp at hl; omega), ?_⟩
    have := wl_near hz cs (acc ++ [cut7 z ++ (⟨#[c]⟩ : Str)]) (.fr (chD c)) (by simp at hl ⊢; omega) (by simpa using h)
    rw [List.map_append] at this
    exact this
theorem inV_str (y : Str) : ∀ ws : List Str, inV (.str y) (ws.map V.str) = decide (y ∈ ws)
  | [] => rfl
  | w :: ws => by
    have ih := inV_str y ws
    unfold inV at ih ⊢
    rw [List.map_cons, List.any_cons, ih]
    show ((w == y) || decide (y ∈ ws)) = _
    by_cases e : w = y
    · subst e; simp
    · have e2 : ¬ y = w := fun z => e z.symm
      rw [beq_eq_false_iff_ne.mpr e]
      simp [e2]
theorem gIn_lst {neg : Bool} {y : Str} {ws : List Str} {P : Rs → Prop} (h : P (.dat (.bl (neg ^^ decide (y ∈ ws))))) : gIn neg (.str y) (.lst (ws.map .str)) P := by
  unfold gIn
  show (match fvs (ws.map D.str) with | some bs => P (.dat (.bl (neg ^^ inV (.str y) bs))) | none => False)
  rw [fvs_strs]
  show P (.dat (.bl (neg ^^ inV (.str y) (ws.map V.str))))
  rw [inV_str]
  exact h
theorem tst_in {ρ : TL.Env} {R : Bool → TL.Env → Prop} {y : Str} {ws : List Str} (h1 : ρ[10]? = some (.fr (.str y))) (h4 : ρ[4]? = some (.ls (ws.map .str))) (h : R (true ^^ decide (y ∈ ws)) ρ) : dTst (dBin (gIn true) (dVar 10) (dVar 4)) ρ R := by
  unfold dTst dBin dVar
  simp only [h1, h4]
  have e1 : val ρ (stl (.dat (.str y))) = some (.str y) := rfl
  have e2 : val ρ (.sl 4) = some (.lst (ws.map .str)) := by
    show (match ρ[4]? with | some (.ls xs) => some (D.lst xs) | some (.dc xs) => some (.dct xs) | _ => none) = _
    rw [h4]
  exact W2_mk e1 e2 (gIn_lst h)
theorem wl_new {ws : List Str} : ∀ (ys acc : List Str) (o : Sl), acc.length + ys.length ≤ 1000 →
    Q (.nw (.ls ((acc ++ ys.filter fun y => !decide (y ∈ ws)).map .str))) [s0, m, s2, pl, .ls (ws.map .str), k, w, j, n, l, frO ρ0[10]?] →
    dLcL (hName 10) (dTst (dBin (gIn true) (dVar 10) (dVar 4))) (dFrz (dVar 10)) [10] ρ0 (ys.map .str) (acc.map .str) [s0, m, s2, pl, .ls (ws.map .str), k, w, j, n, l, o] Q
  | [], acc, o, _, h => by
    have h' : Q (.nw (.ls (acc.map .str))) [s0, m, s2, pl, .ls (ws.map .str), k, w, j, n, l, frO ρ0[10]?] := by simpa using h
    exact h'
  | y :: ys, acc, o, hl, h => by
    show dTst (dBin (gIn true) (dVar 10) (dVar 4)) [s0, m, s2, pl, .ls (ws.map .str), k, w, j, n, l, .fr (.str y)] fun b ρ2 => if b = true then dFrz (dVar 10) ρ2 fun r ρ3 => (match stl r with
      | .dat x => (acc.map D.str).length < sizeLine ∧ dLcL (hName 10) (dTst (dBin (gIn true) (dVar 10) (dVar 4))) (dFrz (dVar 10)) [10] ρ0 (ys.map .str) (acc.map .str ++ [x]) ρ3 Q
      | _ => False)
      else dLcL (hName 10) (dTst (dBin (gIn true) (dVar 10) (dVar 4))) (dFrz (dVar 10)) [10] ρ0 (ys.map .str) (acc.map .str) ρ2 Q
    refine tst_in (y := y) (ws := ws) rfl rfl ?_
    refine ite2' (c := (true ^^ decide (y ∈ ws))) (fun e => ?_) (fun e => ?_)
    · refine ⟨fin_big (by rw [List.length_map]; simp at hl; omega), ?_⟩
      have ef : (y :: ys).filter (fun y => !decide (y ∈ ws)) = y :: ys.filter fun y => !decide (y ∈ ws) := List.filter_cons_of_pos (by rw [Bool.true_xor] at e; exact e)
      rw [ef] at h
      have := wl_new (ws := ws) ys (acc ++ [y]) (.fr (.str y)) (by simp at hl ⊢; omega) (by simpa using h)
      rw [List.map_append] at this
      exact this
    · have ef : (y :: ys).filter (fun y => !decide (y ∈ ws)) = ys.filter fun y => !decide (y ∈ ws) := List.filter_cons_of_neg (by rw [Bool.true_xor] at e; rw [e]; simp)
      rw [ef] at h
      exact wl_new (ws := ws) ys acc (.fr (.str y)) (by simp at hl ⊢; omega) h
end
section
variable {Q : Rs → TL.Env → Prop} {s0 m s2 pl fd k w j n l o : Sl}
theorem lc_new {ws : List Str} {ys : List Str} (hl : ys.length ≤ 1000) (h : Q (.nw (.ls ((ys.filter fun y => !decide (y ∈ ws)).map .str))) [s0, m, s2, pl, .ls (ws.map .str), k, w, j, .fr (.lst (ys.map .str)), l, frO (some o)]) :
    dLc (iSeq (dFrz (dVar 8))) (hName 10) (dTst (dBin (gIn true) (dVar 10) (dVar 4))) (dFrz (dVar 10)) [10] [s0, m, s2, pl, .ls (ws.map .str), k, w, j, .ls (ys.map .str), l, o] Q :=
  wl_new (Q := Q) (ρ0 := [s0, m, s2, pl, .ls (ws.map .str), k, w, j, .fr (.lst (ys.map .str)), l, o]) (s0 := s0) (m := m) (s2 := s2) (pl := pl) (k := k) (w := w) (j := j) (n := .fr (.lst (ys.map .str))) (l := l) (ws := ws) ys [] o (by simpa using hl) h
theorem lc_near {Z z : Str} (hZ : Z.cps.toList = lets) (hz : z.length ≤ 8) (h : Q (.nw (.ls ((lets.map fun c => cut7 z ++ (⟨#[c]⟩ : Str)).map .str))) [s0, m, .fr (.str Z), pl, fd, k, .fr (.str z), j, n, frO (some l), o]) :
    dLc (TL.iStr (dVar 2)) (hName 9) dYes (dBin gAdd (dSlice (dVar 6) dNoP (dPart (dC (.int 7)))) (dVar 9)) [9] [s0, m, .fr (.str Z), pl, fd, k, .fr (.str z), j, n, l, o] Q :=
  wl_near (Q := Q) (ρ0 := [s0, m, .fr (.str Z), pl, fd, k, .fr (.str z), j, n, l, o]) (s0 := s0) (m := m) (s2 := .fr (.str Z)) (pl := pl) (fd := fd) (k := k) (j := j) (n := n) (o := o) hz Z.cps.toList [] l (by rw [hZ, lets_len]; decide) (by rw [hZ]; exact h)
end

/-! ### one word -/
def rd_app : DTS := dDrop (dMethF 4 mAppend (dCons (dBin gIx (dLc (iSeq (dFrz (dVar 8))) (hName 10) (dTst (dBin (gIn true) (dVar 10) (dVar 4))) (dFrz (dVar 10)) [10]) (dC (.int 0))) dNil))
def rd_tail : DTS := dSeq (dSet 2 8 (dBin gAdd (dLst (dCons (dFrz (dVar 6)) dNil)) (dLc (TL.iStr (dVar 2)) (hName 9) dYes (dBin gAdd (dSlice (dVar 6) dNoP (dPart (dC (.int 7)))) (dVar 9)) [9]))) rd_app
section
variable {E : DEnds} {m k w j n l o : Sl} {pl : Sl} {ws : List Str}
theorem head_new (z : Str) (hz : Wd z) (ws : List Str) (hw : ws.length < 26) : ∃ x r, (nearW z).filter (fun y => !decide (y ∈ ws)) = x :: r ∧ Wd x ∧ x ∉ ws := by
  obtain ⟨y, hy, hn⟩ := near_new z ws hw
  have hf : ∃ x r, (nearW z).filter (fun y => !decide (y ∈ ws)) = x :: r := by
    cases e : (nearW z).filter (fun y => !decide (y ∈ ws)) with
    | nil =>
      have : y ∈ (nearW z).filter (fun y => !decide (y ∈ ws)) := List.mem_filter.mpr ⟨hy, by simpa using hn⟩
      rw [e] at this
      cases this
    | cons x r => exact ⟨x, r, rfl⟩
  obtain ⟨x, r, hx⟩ := hf
  have hm : x ∈ (nearW z).filter (fun y => !decide (y ∈ ws)) := by rw [hx]; exact List.mem_cons_self
  obtain ⟨m1, m2⟩ := List.mem_filter.mp hm
  exact ⟨x, r, hx, near_wd hz x m1, by simpa using m2⟩
theorem app_ok {Z z : Str} {b : Nat} (hz : Wd z) (hw : ws.length < 26) (h : ∀ (y : Str) (n l o : Sl), Wd y → y ∉ ws → E.nx [.rs (.st b), m, .fr (.str Z), pl, .ls (ws.map .str ++ [.str y]), k, .fr (.str z), j, n, l, o]) :
    rd_app E [.rs (.st b), m, .fr (.str Z), pl, .ls (ws.map .str), k, .fr (.str z), j, .ls ((nearW z).map .str), l, o] := by
  obtain ⟨x, r, hx, h1, h2⟩ := head_new z hz ws hw
  refine ⟨⟨_, rfl⟩, ?_⟩
  refine lc_new (ws := ws) (ys := nearW z) (by unfold nearW; rw [List.length_cons, List.length_map, lets_len]; decide) ?_
  rw [hx]
  dsimp only [dC]
  exact W2_mk rfl rfl (gIx_lst (atI_nat (j := 0) rfl) ⟨by rw [List.length_map]; exact fin_big (by omega), h x _ _ _ h1 h2⟩)
theorem tail_ok {Z z : Str} (hZ : Z.cps.toList = lets) {b : Nat} (hz : Wd z) (hw : ws.length < 26) (h : ∀ (y : Str) (n l o : Sl), Wd y → y ∉ ws → E.nx [.rs (.st b), m, .fr (.str Z), pl, .ls (ws.map .str ++ [.str y]), k, .fr (.str z), j, n, l, o]) :
    rd_tail E [.rs (.st b), m, .fr (.str Z), pl, .ls (ws.map .str), k, .fr (.str z), j, n, l, o] := by
  refine ⟨by have := line_big; show 1 ≤ sizeLine; omega, ?_⟩
  refine lc_near (z := z) hZ hz.all.2.1 ?_
  refine ⟨?_, by decide, ?_⟩
  · simp [lets_len]
    have := line_big
    omega
  · exact app_ok (z := z) hz hw h
end
end TL

/-! TD5: the drawing of words: the whole. -/
namespace TL
open PySem PySem.Spec PyProof.Rows L2

def oneS (c : Nat) : Str := ⟨#[c]⟩
theorem gJoin_ch {cs : List Nat} {P : Rs → Prop} (hl : cs.length ≤ 1000) (h : P (.dat (.str (Txt.join "" (cs.map oneS))))) : gJoin (.str "") (.lst (cs.map chD)) P := by
  have e : cs.map chD = (cs.map oneS).map D.str := by rw [List.map_map]; rfl
  have es : ∀ cs : List Nat, ((cs.map oneS).map (·.length)).sum = cs.length := fun cs => by
    induction cs with
    | nil => rfl
    | cons c cs ih => rw [List.map_cons, List.map_cons, List.sum_cons, ih, List.length_cons]; show 1 + _ = _; omega
  rw [e]
  unfold gJoin
  simp only [txs_map]
  refine ⟨?_, h⟩
  rw [es]
  show cs.length + (cs.map oneS).length * 0 ≤ 16777216
  omega
def rd_join : DTE := dM1 gJoin (dC (.str "")) (dLc (iRange1 (dCons (dBin gAdd (dC (.int 1)) (dCall 2 Sp_take (dCons (dVar 0) (dCons (dC (.int 8)) dNil)))) dNil)) (hName 7) dYes (dCall 2 Sp_pick (dCons (dVar 0) (dCons (dFrz (dVar 2)) dNil))) [7])
def rd_word : DTS := dSeq (dSet 2 6 (dFrz (dCall 2 Sp_pick (dCons (dVar 0) (dCons (dFrz (dVar 3)) dNil))))) (dSeq (dIf (dTst (dBin (gEq false) (dCall 2 Sp_take (dCons (dVar 0) (dCons (dC (.int 3)) dNil))) (dC (.int 0)))) (dSet 2 6 rd_join) dNext) rd_tail)
section
variable {Q : Rs → TL.Env → Prop} {E : DEnds} {m k w j n l o fd : Sl} {pl : Sl} {ws : List Str}
theorem rangeD_len (lo : Int) (n : Nat) : (rangeD lo n).length = n := by unfold rangeD; rw [List.length_map, List.length_range]
theorem join_ok {Z : Str} (hZ : Z.cps.toList = lets) {b : Nat} (hb : 9 ≤ b) (h : ∀ (z : Str) (b' : Nat) (j : Sl), Wd z → b ≤ b' + 9 → Q (.dat (.str z)) [.rs (.st b'), m, .fr (.str Z), pl, fd, k, w, j, n, l, o]) :
    rd_join [.rs (.st b), m, .fr (.str Z), pl, fd, k, w, j, n, l, o] Q := by
  refine ⟨⟨_, rfl⟩, rfl, rfl, b, 8, rfl, by omega, by decide, by decide, fun i b1 h0 h1 h2 => ?_⟩
  refine ⟨by have : (2 : Int) ^ 62 = 4611686018427387904 := by decide
             omega, by have : (2 : Int) ^ 62 = 4611686018427387904 := by decide
                       omega, ?_⟩
  refine wl_join hZ (rangeD 0 (1 + i).toNat) [] b1 j (by rw [rangeD_len]; omega) (by rw [rangeD_len]; show 0 + _ ≤ 8; omega) (fun c hc => by cases hc) (fun cs b2 e1 e2 e3 => ?_)
  rw [rangeD_len] at e1 e3
  have l1 : cs.length = (1 + i).toNat := by simpa using e1
  refine W1_mk (x := .lst (cs.map chD)) rfl ?_
  exact gJoin_ch (by omega) (h _ b2 _ (join_wd (by omega) (by omega) e2) (by omega))
theorem word_ok {Z : Str} (hZ : Z.cps.toList = lets) {ps : List Str} (hps : ∀ z ∈ ps, Wd z) (hne : ps ≠ []) (hpl : ps.length ≤ 10000) {b : Nat} (hb : 11 ≤ b) (hp : pl = .ls (ps.map .str) ∨ pl = .fr (.lst (ps.map .str))) (hw : ws.length < 26)
    (h : ∀ (y : Str) (b' : Nat) (w j n l o : Sl), Wd y → y ∉ ws → b ≤ b' + 11 → E.nx [.rs (.st b'), m, .fr (.str Z), .fr (.lst (ps.map .str)), .ls (ws.map .str ++ [.str y]), k, w, j, n, l, o]) :
    rd_word E [.rs (.st b), m, .fr (.str Z), pl, .ls (ws.map .str), k, w, j, n, l, o] := by
  have rest : ∀ (x : D) (b1 : Nat), x ∈ ps.map D.str → b ≤ b1 + 1 → dSeq (dIf (dTst (dBin (gEq false) (dCall 2 Sp_take (dCons (dVar 0) (dCons (dC (.int 3)) dNil))) (dC (.int 0)))) (dSet 2 6 rd_join) dNext) rd_tail E
      [.rs (.st b1), m, .fr (.str Z), .fr (.lst (ps.map .str)), .ls (ws.map .str), k, .fr x, j, n, l, o] := by
    intro x b1 hx h1
    obtain ⟨z, hz, rfl⟩ := List.mem_map.mp hx
    refine ⟨rfl, rfl, b1, 3, rfl, by omega, by decide, by decide, fun i b2 h0 h2 h3 => ?_⟩
    refine ite2' (c := false ^^ decide (V.int i = V.int 0)) (fun e => ?_) (fun e => ?_)
    · exact join_ok hZ (by omega) fun z b3 j hz h4 => tail_ok hZ hz hw fun y n l o hy hn => h y b3 _ _ _ _ _ hy hn (by omega)
    · exact tail_ok hZ (hps z hz) hw fun y n l o hy hn => h y b2 _ _ _ _ _ hy hn (by omega)
  have hne' : ps.map D.str ≠ [] := fun z => hne (List.map_eq_nil_iff.mp z)
  rcases hp with rfl | rfl
  · exact ⟨rfl, rfl, b, .lst (ps.map .str), ps.map .str, rfl, rfl, by omega, hne', by rw [List.length_map]; omega, fun x b1 hx h1 => rest x b1 hx h1⟩
  · exact ⟨rfl, rfl, b, .lst (ps.map .str), ps.map .str, rfl, rfl, by omega, hne', by rw [List.length_map]; omega, fun x b1 hx h1 => rest x b1 hx h1⟩
theorem words_loop {Z : Str} (hZ : Z.cps.toList = lets) {ps : List Str} (hps : ∀ z ∈ ps, Wd z) (hne : ps ≠ []) (hpl : ps.length ≤ 10000) : ∀ (ds : List D) (ws : List Str) (b : Nat) (pl k w j n l o : Sl), ws.length + ds.length ≤ 20 → 11 * ds.length ≤ b → (pl = .ls (ps.map .str) ∨ pl = .fr (.lst (ps.map .str))) →
    (∀ z ∈ ws, Wd z) → ws.Nodup →
    (∀ (ws' : List Str) (b' : Nat) (pl k w j n l o : Sl), ws'.length = ws.length + ds.length → (∀ z ∈ ws', Wd z) → ws'.Nodup → b ≤ b' + 11 * ds.length → E.nx [.rs (.st b'), m, .fr (.str Z), pl, .ls (ws'.map .str), k, w, j, n, l, o]) →
    dForL (hName 5) rd_word E ds [.rs (.st b), m, .fr (.str Z), pl, .ls (ws.map .str), k, w, j, n, l, o]
  | [], ws, b, pl, k, w, j, n, l, o, _, _, _, h1, h2, h => h ws b pl k w j n l o rfl h1 h2 (Nat.le_refl _)
  | d :: ds, ws, b, pl, k, w, j, n, l, o, hl, hb, hp, h1, h2, h => by
    refine word_ok (E := { nx := dForL (hName 5) rd_word E ds, rt := E.rt, bk := E.nx, ct := dForL (hName 5) rd_word E ds }) (k := .fr d) hZ hps hne hpl (by simp at hb; omega) hp (by simp at hl; omega) (fun y b' w j n l o hy hn hb' => ?_)
    have em : ws.map D.str ++ [.str y] = (ws ++ [y]).map D.str := by rw [List.map_append]; rfl
    show dForL (hName 5) rd_word E ds [.rs (.st b'), m, .fr (.str Z), .fr (.lst (ps.map .str)), .ls (ws.map .str ++ [.str y]), .fr d, w, j, n, l, o]
    rw [em]
    refine words_loop hZ hps hne hpl ds (ws ++ [y]) b' _ _ _ _ _ _ _ (by simp at hl ⊢; omega) (by simp at hb ⊢; omega) (.inr rfl) (fun z hz => ?_) ?_ (fun ws' b2 pl k w j n l o e1 e2 e3 e4 => h ws' b2 pl k w j n l o (by simp at e1 ⊢; omega) e2 e3 (by simp at e4 ⊢; omega))
    · rcases List.mem_append.mp hz with z' | z'
      · exact h1 z z'
      · have : z = y := by simpa using z'
        subst this
        exact hy
    · rw [List.nodup_append]
      refine ⟨h2, by simp, fun a ha c hc => ?_⟩
      have : c = y := by simpa using hc
      subst this
      exact fun z => hn (z ▸ ha)
end
def Sp_words : DSp := fun args Q => ∃ (b i : Nat), args = [.rs (.st b), .fr (.int i)] ∧ i ≤ 20 ∧ 11 * i ≤ b ∧ ∀ (ws : List Str) (b' : Nat), ws.length = i → (∀ z ∈ ws, Wd z) → ws.Nodup → b ≤ b' + 11 * i → Q (.nw (.ls (ws.map .str))) [.rs (.st b'), .un]
def rd_words : DTS := (dSeq (dSet 2 2 (dC (.str "abcdefghijklmnopqrstuvwxyz")))
      (dSeq (dSet 2 3 ((dM1 gSplit (dC (.str "x y do turn check none there going again rough own other keeper wants")) (dC (.str " ")))))
      (dSeq (dSet 2 3 ((dBin gAdd ((dVar 3)) ((dLst (dCons (dC (.str "zzzzzzzz")) (dCons (dC (.str "a")) (dCons (dC (.str "b")) (dCons (dC (.str "words")) (dCons (dC (.str "rule")) dNil))))))))))
      (dSeq (dSet 2 4 ((dLst dNil)))
      (dSeq (dFor (iRange1 (dCons ((dVar 1)) dNil)) (hName 5) rd_word)
      (dRet ((dVar 4))))))))
theorem words_body {Z : Str} (hZ : Z.cps.toList = lets) {P : List D} {ps : List Str} (hP : P = ps.map .str) (hps : ∀ z ∈ ps, Wd z) (hne : ps ≠ []) (hpl : ps.length ≤ 10000) {Q : Rs → List Sl → Prop} {b i : Nat} (hi : i ≤ 20) (hb : 11 * i ≤ b)
    (h : ∀ (ws : List Str) (b' : Nat), ws.length = i → (∀ z ∈ ws, Wd z) → ws.Nodup → b ≤ b' + 11 * i → Q (.nw (.ls (ws.map .str))) [.rs (.st b'), .un]) :
    dSeq (dSet 2 4 ((dLst dNil))) (dSeq (dFor (iRange1 (dCons ((dVar 1)) dNil)) (hName 5) rd_word) (dRet ((dVar 4)))) (dEnd 2 Q) [.rs (.st b), .fr (.int i), .fr (.str Z), .ls P, .un, .un, .un, .un, .un, .un, .un] := by
  subst hP
  refine ⟨Nat.zero_le _, by decide, ?_, ?_, ?_⟩
  · have : (2 : Int) ^ 62 = 4611686018427387904 := by decide
    omega
  · have : (2 : Int) ^ 62 = 4611686018427387904 := by decide
    omega
  · refine words_loop hZ hps hne hpl (rangeD 0 (i : Int).toNat) [] b _ _ _ _ _ _ _ (by rw [rangeD_len]; show 0 + _ ≤ 20; omega) (by rw [rangeD_len]; omega) (.inl rfl) (fun z hz => by cases hz) List.nodup_nil (fun ws b' pl k w j n l o e1 e2 e3 e4 => ?_)
    rw [rangeD_len] at e1 e4
    exact ⟨by decide, _, rfl, rfl, h ws b' (by simp at e1; omega) e2 e3 (by omega)⟩
theorem letsZ : ("abcdefghijklmnopqrstuvwxyz" : Str).cps.toList = lets := rfl
theorem kd_words : Keeps Sp_words 2 11 rd_words := by
  rintro args Q h0 ⟨b, i, rfl, hi, hb, h⟩
  clear h0
  refine ⟨⟨_, rfl⟩, by decide, ?_, by decide, ?_, ?_, by decide, ?_⟩
  · have h1 : ("x y do turn check none there going again rough own other keeper wants" : Str).length = 69 := by decide +kernel
    have := line_big
    show ("x y do turn check none there going again rough own other keeper wants" : Str).length + 2 ≤ sizeLine
    omega
  · have := line_big
    show 5 ≤ sizeLine
    omega
  · have := line_big
    have h1 := pool_len
    show (poolW.map D.str).length + 5 ≤ sizeLine
    rw [List.length_map]
    omega
  · refine words_body (P := poolW.map D.str ++ [.str "zzzzzzzz", .str "a", .str "b", .str "words", .str "rule"]) (ps := poolW ++ ([("zzzzzzzz" : Str), "a", "b", "words", "rule"] : List Str)) letsZ (by rw [List.map_append]; rfl) (fun z hz => ?_) (by simp) ?_ hi hb h
    · exact List.all_eq_true.mp pool_wd z hz
    · have := pool_len
      rw [List.length_append]
      show poolW.length + 5 ≤ 10000
      omega
end TL

/-! TD6: predicates and values that many laws share. -/
namespace TL
open PySem PySem.Spec PyProof.Rows L2
def isNum : D → Bool
  | .int _ => true
  | _ => false
def isBl : D → Bool
  | .bl _ => true
  | _ => false
def geI (k : Int) : D → Bool
  | .int i => decide (k ≤ i)
  | _ => false
def isWord : D → Bool
  | .str x => decide (1 ≤ x.length) && decide (x.length ≤ 8) && x.cps.toList.all fun c => decide (c ∈ lets)
  | _ => false
/-- a value that is looked at -/
def Lk (d : D) : Prop := Fine topN 100000 50 d
def Sp_is_word : DSp := fun args Q => ∃ d, args = [.fr d] ∧ Lk d ∧ Q (.dat (.bl (isWord d))) [.un]
def rd_is_word : DTS := (dSeq (dIf ((dOrT ((dNotT ((dTst ((dCB gIsi (dCons ((dVar 0)) (dCons ((dC (.ty "str"))) dNil)))))))) ((dNotT ((dTst (dChain gLe gLe (dC (.int 1)) ((dCB gLen (dCons ((dVar 0)) dNil))) ((dC (.int 8)))))))))) (dRet (dC (.bl false))) dNext)
      (dRet ((dCB gAll (dCons ((dLc (iStr ((dVar 0))) (hName 1) (dYes) ((dBin (gIn false) ((dVar 1)) ((dC (.str "abcdefghijklmnopqrstuvwxyz"))))) [1])) dNil)))))
theorem lk_len {x : Str} (h : Lk (.str x)) : x.length ≤ sizeLine := by
  have := h.len_str
  have := line_big
  omega
theorem word_loop {Q : Rs → TL.Env → Prop} {s0 : Sl} {ρ0 : TL.Env} : ∀ (cs : List Nat) (acc : List Bool) (o : Sl), acc.length + cs.length ≤ 8 →
    Q (.nw (.ls ((acc ++ cs.map fun c => (false ^^ strIn ⟨#[c]⟩ "abcdefghijklmnopqrstuvwxyz")).map .bl))) [s0, frO ρ0[1]?] →
    dLcL (hName 1) dYes (dBin (gIn false) (dVar 1) (dC (.str "abcdefghijklmnopqrstuvwxyz"))) [1] ρ0 (cs.map fun c => .str ⟨#[c]⟩) (acc.map .bl) [s0, o] Q
  | [], acc, o, _, h => by
    have h' : Q (.nw (.ls (acc.map .bl))) [s0, frO ρ0[1]?] := by simpa using h
    exact h'
  | c :: cs, acc, o, hl, h => by
    refine ⟨by rw [List.length_map]; have := line_big; simp at hl; omega, ?_⟩
    have := word_loop (Q := Q) (s0 := s0) (ρ0 := ρ0) cs (acc ++ [(false ^^ strIn ⟨#[c]⟩ "abcdefghijklmnopqrstuvwxyz")]) (.fr (.str ⟨#[c]⟩)) (by simp at hl ⊢; omega) (by simpa using h)
    rw [List.map_append] at this
    exact this
theorem all_lets (cs : List Nat) : (cs.map fun c => (false ^^ strIn ⟨#[c]⟩ "abcdefghijklmnopqrstuvwxyz")).all id = cs.all fun c => decide (c ∈ lets) := by
  rw [List.all_map]
  congr 1
  funext c
  show (false ^^ strIn ⟨#[c]⟩ "abcdefghijklmnopqrstuvwxyz") = _
  rw [Bool.false_xor, strIn_one]
  rfl
theorem sz0 : 0 ≤ sizeLine := Nat.zero_le _
theorem kd_is_word : Keeps Sp_is_word 1 2 rd_is_word := by
  rintro args Q h0 ⟨d, rfl, hd, h⟩
  clear h0
  have ok := hd.ok
  cases d with
  | str x =>
    have hl := lk_len hd
    have e : (x.cps.toList.length : Int) = x.length := by rw [Array.length_toList]; rfl
    simp [rd_is_word, dSeq, dIf, dOrT, dNotT, dTst, dRet, dCB, dCons, dVar, dC, dNil, vals, val, stl, WL, WB, gIsi, tyN, isT, subT, tyOk, fin1, dEnd, TL.ownsOf, own', List.range, List.range.loop, Sl.own, dChain, W2, gLen, gLe, gOrd, hl, dNext, dLc]
    by_cases h1 : 1 ≤ x.length
    · by_cases h2 : x.length ≤ 8
      · have g1 : (1 : Int) ≤ x.length := by omega
        have g2 : ¬ (8 : Int) < x.length := by omega
        simp only [g1, g2, decide_true, if_false]
        refine word_loop x.cps.toList [] .un (by rw [Array.length_toList]; show 0 + x.length ≤ 8; omega) ?_
        show (match bls (([] ++ x.cps.toList.map fun c => (false ^^ strIn ⟨#[c]⟩ "abcdefghijklmnopqrstuvwxyz")).map .bl) with | some bs => _ | none => False)
        rw [bls_map]
        have e2 : isWord (.str x) = (x.cps.toList.map fun c => (false ^^ strIn ⟨#[c]⟩ "abcdefghijklmnopqrstuvwxyz")).all id := by
          rw [all_lets]
          show (decide (1 ≤ x.length) && decide (x.length ≤ 8) && _) = _
          rw [decide_eq_true h1, decide_eq_true h2]
          rfl
        rw [e2] at h
        exact h
      · have g1 : (1 : Int) ≤ x.length := by omega
        have g2 : (8 : Int) < x.length := by omega
        simp only [g1, g2, decide_true, if_true]
        have e2 : isWord (.str x) = false := by
          show (decide (1 ≤ x.length) && decide (x.length ≤ 8) && _) = _
          rw [decide_eq_false h2, Bool.and_false]
          rfl
        rw [e2] at h
        exact h
    · have g1 : ¬ (1 : Int) ≤ x.length := by omega
      simp only [g1, decide_false]
      have e2 : isWord (.str x) = false := by
        show (decide (1 ≤ x.length) && decide (x.length ≤ 8) && _) = _
        rw [decide_eq_false h1]
        rfl
      rw [e2] at h
      exact h
  | obj _ _ => cases ok
  | ref _ => cases ok
  | ty _ => cases ok
  | scr _ => cases ok
  | _ =>
    simp [rd_is_word, dSeq, dIf, dOrT, dNotT, dTst, dRet, dCB, dCons, dVar, dC, dNil, vals, val, stl, WL, WB, gIsi, tyN, isT, subT, tyOk, fin1, dEnd, TL.ownsOf, own', List.range, List.range.loop, Sl.own]
    exact h

/-- what stands apart from () -/
theorem eq_unit {d : D} {P : Rs → Prop} (hd : Lk d) (ht : ∀ xs, d ≠ .tup xs) (h : P (.dat (.bl false))) : gEq false d (.tup []) P := by
  have ok := hd.ok
  cases d with
  | tup xs => exact absurd rfl (ht xs)
  | lst xs => exact ⟨rfl, h⟩
  | dct kvs => exact ⟨rfl, h⟩
  | non => exact ⟨by decide, by decide, h⟩
  | bl b => exact ⟨by cases b <;> decide, by decide, h⟩
  | int i => exact ⟨rfl, by decide, h⟩
  | str x =>
    refine ⟨?_, by decide, h⟩
    have : okS x = true := ok
    show (true && (PyData.canLay0 (.str x) && decide (PyData.depth (.str x) ≤ 64))) = true
    have e : PyData.canLay0 (.str x) = true := by
      unfold PyData.canLay0
      exact this
    rw [e]
    rfl
  | obj _ _ => cases ok
  | ref _ => cases ok
  | ty _ => cases ok
  | scr _ => cases ok
theorem lk_mem {xs : List D} (h : Lk (.tup xs)) {x : D} (hx : x ∈ xs) : Lk x := by
  obtain ⟨m, e, f⟩ := h.tup'
  exact (f.mem hx).mono (Nat.le_refl _) (by omega)
theorem isT_no {d : D} (ht : ∀ xs, d ≠ .tup xs) : isT "tuple" d = false := by
  cases d with
  | tup xs => exact absurd rfl (ht xs)
  | _ => first | rfl | decide | (show subT _ _ = false; decide)
theorem tyN_some {d : D} (h : Lk d) : (tyN d).isSome = true := by
  have ok := h.ok
  cases d <;> first | rfl | cases ok
theorem isT_bl (d : D) : isT "bool" d = isBl d := by
  cases d <;> first | rfl | (show subT _ _ = _; decide)
theorem tyOk_t : tyOk "tuple" = true := by decide
theorem tyOk_b : tyOk "bool" = true := by decide
theorem isT_tup (xs : List D) : isT "tuple" (.tup xs) = true := by show subT _ _ = _; decide
theorem num_int {a : D} (h : isNum a = true) : ∃ i, a = .int i := by
  cases a <;> first | exact ⟨_, rfl⟩ | cases h
def rd_law_is_word : DTS := (dSeq (dIf ((dOrT ((dNotT ((dTst ((dCB gIsi (dCons ((dVar 0)) (dCons ((dC (.ty "str"))) dNil)))))))) ((dNotT ((dTst (dChain gLe gLe (dC (.int 1)) ((dCB gLen (dCons ((dVar 0)) dNil))) (dC (.int 8))))))))) (dRet (dC (.bl false))) dNext)
      (dRet ((dBin (gEq false) ((dLc (iStr ((dVar 0))) (hName 1) ((dTst (dBin (gIn true) ((dVar 1)) (dC (.str "abcdefghijklmnopqrstuvwxyz"))))) ((dFrz (dVar 1))) [1])) ((dLst dNil))))))
def badC : List Nat → List D
  | [] => []
  | c :: cs => if (true ^^ strIn ⟨#[c]⟩ "abcdefghijklmnopqrstuvwxyz") = true then .str ⟨#[c]⟩ :: badC cs else badC cs
theorem word_loop2 {Q : Rs → TL.Env → Prop} {s0 : Sl} {ρ0 : TL.Env} : ∀ (cs : List Nat) (acc : List D) (o : Sl), acc.length + cs.length ≤ 8 → Q (.nw (.ls (acc ++ badC cs))) [s0, frO ρ0[1]?] →
    dLcL (hName 1) (dTst (dBin (gIn true) (dVar 1) (dC (.str "abcdefghijklmnopqrstuvwxyz")))) (dFrz (dVar 1)) [1] ρ0 (cs.map fun c => .str ⟨#[c]⟩) acc [s0, o] Q
  | [], acc, o, hl, h => by
    have h' : Q (.nw (.ls acc)) [s0, frO ρ0[1]?] := by simpa [badC] using h
    exact h'
  | c :: cs, acc, o, hl, h => by
    refine ite2' (c := (true ^^ strIn ⟨#[c]⟩ "abcdefghijklmnopqrstuvwxyz")) (fun e => ?_) (fun e => ?_)
    · refine ⟨by have := line_big; simp at hl; omega, ?_⟩
      refine word_loop2 cs (acc ++ [.str ⟨#[c]⟩]) (.fr (.str ⟨#[c]⟩)) (by simp at hl ⊢; omega) ?_
      have eb : badC (c :: cs) = .str ⟨#[c]⟩ :: badC cs := if_pos e
      rw [eb] at h
      simpa using h
    · refine word_loop2 cs acc (.fr (.str ⟨#[c]⟩)) (by simp at hl ⊢; omega) ?_
      have eb : badC (c :: cs) = badC cs := if_neg (by rw [e]; simp)
      rw [eb] at h
      exact h
theorem badC_empty (cs : List Nat) : (badC cs).isEmpty = cs.all fun c => decide (c ∈ lets) := by
  induction cs with
  | nil => rfl
  | cons c cs ih =>
    have hc : strIn ⟨#[c]⟩ "abcdefghijklmnopqrstuvwxyz" = decide (c ∈ lets) := strIn_one c _
    rw [List.all_cons, ← hc]
    cases e : strIn ⟨#[c]⟩ "abcdefghijklmnopqrstuvwxyz" with
    | true =>
      have eb : badC (c :: cs) = badC cs := if_neg (by rw [e]; simp)
      rw [eb, ih]
      rfl
    | false =>
      have eb : badC (c :: cs) = .str ⟨#[c]⟩ :: badC cs := if_pos (by rw [e]; rfl)
      rw [eb]
      rfl
theorem kd_law_is_word : Keeps Sp_is_word 1 2 rd_law_is_word := by
  rintro args Q h0 ⟨d, rfl, hd, h⟩
  clear h0
  have ok := hd.ok
  cases d with
  | str x =>
    have hl := lk_len hd
    simp [rd_law_is_word, dSeq, dIf, dOrT, dNotT, dTst, dRet, dCB, dCons, dVar, dC, dNil, vals, val, stl, WL, WB, gIsi, tyN, isT, subT, tyOk, fin1, dEnd, TL.ownsOf, own', List.range, List.range.loop, Sl.own, dChain, W2, gLen, gLe, gOrd, hl, dNext]
    by_cases h1 : 1 ≤ x.length
    · by_cases h2 : x.length ≤ 8
      · have g1 : (1 : Int) ≤ x.length := by omega
        have g2 : ¬ (8 : Int) < x.length := by omega
        simp only [g1, g2, decide_true, if_false]
        have e2 : isWord (.str x) = (badC x.cps.toList).isEmpty := by
          rw [badC_empty]
          show (decide (1 ≤ x.length) && decide (x.length ≤ 8) && _) = _
          rw [decide_eq_true h1, decide_eq_true h2]
          rfl
        rw [e2] at h
        refine word_loop2 x.cps.toList [] .un (by rw [Array.length_toList]; show 0 + x.length ≤ 8; omega) ⟨sz0, ?_⟩
        have h2 : Q (.dat (.bl (false ^^ ([] ++ badC x.cps.toList).isEmpty))) [.un] := by
          rw [Bool.false_xor]
          exact h
        exact h2
      · have g1 : (1 : Int) ≤ x.length := by omega
        have g2 : (8 : Int) < x.length := by omega
        simp only [g1, g2, decide_true, if_true]
        have e2 : isWord (.str x) = false := by
          show (decide (1 ≤ x.length) && decide (x.length ≤ 8) && _) = _
          rw [decide_eq_false h2, Bool.and_false]
          rfl
        rw [e2] at h
        exact h
    · have g1 : ¬ (1 : Int) ≤ x.length := by omega
      simp only [g1, decide_false]
      have e2 : isWord (.str x) = false := by
        show (decide (1 ≤ x.length) && decide (x.length ≤ 8) && _) = _
        rw [decide_eq_false h1]
        rfl
      rw [e2] at h
      exact h
  | obj _ _ => cases ok
  | ref _ => cases ok
  | ty _ => cases ok
  | scr _ => cases ok
  | _ =>
    simp [rd_law_is_word, dSeq, dIf, dOrT, dNotT, dTst, dRet, dCB, dCons, dVar, dC, dNil, vals, val, stl, WL, WB, gIsi, tyN, isT, subT, tyOk, fin1, dEnd, TL.ownsOf, own', List.range, List.range.loop, Sl.own]
    exact h

def fineB (N w m : Nat) (d : D) : Bool := okD N d && (decide (wt d ≤ w) && decide (dp d ≤ m))
theorem fine_of {N w m : Nat} {d : D} (h : fineB N w m d = true) : Fine N w m d := by
  unfold fineB at h
  simp only [Bool.and_eq_true, decide_eq_true_eq] at h
  exact ⟨h.1, h.2.1, h.2.2⟩
def Sp_any : DSp := fun args Q => ∃ b, args = [.rs (.st b)] ∧ 1 ≤ b ∧ ∀ d b', Fine (10 ^ 70) 1000 2 d → b ≤ b' + 1 → Q (.dat d) [.rs (.st b')]
def anyA : List D := [.non, .bl true, .bl false, .int 0, .int 1, .int (-1), .int 5, .int (10 ^ (40 : Int).toNat), .str "", .str "a", .str "x", .str "A", .str "ab c", .str "abcdefghi", .tup [], .lst [], .dct []]
def anyB : List D := [.tup [.str "x"], .lst [.str "x"], .tup [.tup []], .tup [.int 1, .str "x"], .tup [.str "x", .bl false, .bl false], .dct [(Sum.inr "x", .int 1)], .str "x\n", .tup [.str "make"], .str "there"]
theorem any_fine : (anyA ++ anyB).all (fineB (10 ^ 70) 1000 2) = true := by decide +kernel
def rd_any : DTS := (dSeq (dSet 1 1 ((dLst (dCons (dC .non) (dCons (dC (.bl true)) (dCons (dC (.bl false)) (dCons (dC (.int 0)) (dCons (dC (.int 1)) (dCons ((dUn gNeg (dC (.int 1)))) (dCons (dC (.int 5)) (dCons ((dBin gPow (dC (.int 10)) (dC (.int 40)))) (dCons (dC (.str "")) (dCons (dC (.str "a")) (dCons (dC (.str "x")) (dCons (dC (.str "A")) (dCons (dC (.str "ab c")) (dCons (dC (.str "abcdefghi")) (dCons ((dTup dNil)) (dCons ((dLst dNil)) (dCons (dDNew) dNil))))))))))))))))))))
      (dSeq (dSet 1 1 ((dBin gAdd ((dVar 1)) ((dLst (dCons ((dTup (dCons (dC (.str "x")) dNil))) (dCons ((dLst (dCons (dC (.str "x")) dNil))) (dCons ((dTup (dCons ((dTup dNil)) dNil))) (dCons ((dTup (dCons (dC (.int 1)) (dCons (dC (.str "x")) dNil)))) (dCons ((dTup (dCons (dC (.str "x")) (dCons (dC (.bl false)) (dCons (dC (.bl false)) dNil))))) (dCons ((dDisp [Sum.inr ("x" : Str)] [dC (.int 1)])) (dCons (dC (.str "x\n")) (dCons ((dTup (dCons (dC (.str "make")) dNil))) (dCons (dC (.str "there")) dNil))))))))))))))
      (dRet ((dCall 2 Sp_pick (dCons ((dVar 0)) (dCons ((dFrz (dVar 1))) dNil)))))))
theorem sz {n : Nat} (h : n ≤ 1000) : n ≤ sizeLine := Nat.le_of_lt (fin_big h)
theorem cp (i j : Int) (h0 : 0 ≤ j) (h1 : j ≤ 1000) (h2 : i = 10) : CPow i j := ⟨h0, by omega, by subst h2; decide⟩
theorem kd_any : Keeps Sp_any 1 2 rd_any := by
  rintro args Q h0 ⟨b, rfl, hb, h⟩
  clear h0
  refine ⟨cp 10 40 (by decide) (by decide) rfl, sz0, sz0, sz (by decide), by decide, ?_⟩
  refine ⟨sz (by decide), sz (by decide), sz0, sz (by decide), sz (by decide), sz (by decide), sz (by decide), sz (by decide), sz (by decide), by decide, ?_⟩
  refine ⟨rfl, rfl, b, .lst (anyA ++ anyB), anyA ++ anyB, rfl, rfl, hb, by simp [anyA], by decide, fun x b' hx hb' => ?_⟩
  exact h x b' (fine_of (List.all_eq_true.mp any_fine x hx)) hb'

theorem fine_bl {N w m : Nat} (b : Bool) : Fine N w m (.bl b) := ⟨rfl, Nat.zero_le _, Nat.zero_le _⟩
theorem fine_unit {N w m : Nat} : Fine N w (m + 1) (.tup []) := Fine.tup .nil
theorem wne {ws : List Str} (h : ws ≠ []) : ws.map D.str ≠ [] := fun z => h (List.map_eq_nil_iff.mp z)
theorem okI_mono {N N' : Nat} {i : Int} (h : okI N i = true) (hN : N ≤ N') : okI N' i = true := decide_eq_true (Nat.le_trans (of_decide_eq_true h) hN)
theorem wt_int {N : Nat} {i : Int} (hN : N ≤ topN) (h : okI N i = true) : wt (.int i) ≤ 600 := by
  show (if i == 0 then 0 else i.natAbs.log2 + 1) ≤ 600
  split
  · omega
  · rename_i h0
    have h0 : i.natAbs ≠ 0 := by simpa using h0
    have h1 : i.natAbs < 2 ^ 599 := Nat.lt_of_le_of_lt (Nat.le_trans (of_decide_eq_true h) hN) (by decide)
    have := (Nat.log2_lt h0).mpr h1
    omega
theorem fine_int {N w m : Nat} {i : Int} (hN : N ≤ topN) (h : okI N i = true) (hw : 600 ≤ w) : Fine N w m (.int i) := ⟨h, Nat.le_trans (wt_int hN h) hw, Nat.zero_le _⟩
mutual
theorem okD_mono {N N' : Nat} (hN : N ≤ N') : ∀ d : D, okD N d = true → okD N' d = true
  | .non, _ => rfl
  | .bl _, _ => rfl
  | .int i, h => okI_mono h hN
  | .str x, h => h
  | .tup xs, h => okL_mono hN xs h
  | .lst xs, h => okL_mono hN xs h
  | .dct kvs, h => okK_mono hN kvs h
  | .obj _ _, h => by cases h
  | .ref _, h => by cases h
  | .ty _, h => by cases h
  | .scr _, h => by cases h
theorem okL_mono {N N' : Nat} (hN : N ≤ N') : ∀ xs : List D, okL N xs = true → okL N' xs = true
  | [], _ => rfl
  | x :: xs, h => by
    have h' : okD N x = true ∧ okL N xs = true := by simpa [okL] using h
    show (okD N' x && okL N' xs) = true
    rw [okD_mono hN x h'.1, okL_mono hN xs h'.2]; rfl
theorem okK_mono {N N' : Nat} (hN : N ≤ N') : ∀ xs : List (Key × D), okK N xs = true → okK N' xs = true
  | [], _ => rfl
  | (k, v) :: xs, h => by
    have h' : okKey N k = true ∧ okD N v = true ∧ okK N xs = true := by simpa [okK] using h
    have hk : okKey N' k = true := by
      cases k with
      | inl i => exact okI_mono h'.1 hN
      | inr x => exact h'.1
    show (okKey N' k && (okD N' v && okK N' xs)) = true
    rw [hk, okD_mono hN v h'.2.1, okK_mono hN xs h'.2.2]; rfl
end
theorem Fine.big {N N' w m : Nat} {d : D} (h : Fine N w m d) (hN : N ≤ N') : Fine N' w m d := ⟨okD_mono hN d h.ok, h.lw, h.ld⟩
theorem FineL.big {N N' w m : Nat} {d : List D} (h : FineL N w m d) (hN : N ≤ N') : FineL N' w m d := ⟨okL_mono hN d h.ok, h.lw, h.ld⟩
theorem lk_of {N w m : Nat} {d : D} (h : Fine N w m d) (hN : N ≤ topN) (hw : w ≤ 100000) (hm : m ≤ 50) : Lk d := (h.big hN).mono hw hm
theorem cons_frz {ρ : TL.Env} {R : List Rs → TL.Env → Prop} {i : Nat} {d : D} {ts : DTA} (h : ρ[i]? = some (.fr d)) (k : ts ρ fun rs ρ2 => R (.dat d :: rs) ρ2) : dCons (dFrz (dVar i)) ts ρ R := by
  unfold dCons dFrz dVar
  simp only [h]
  exact k
theorem cons_rs {ρ : TL.Env} {R : List Rs → TL.Env → Prop} {i : Nat} {r : Res} {ts : DTA} (h : ρ[i]? = some (.rs r)) (k : ts ρ fun rs ρ2 => R (.sl i :: rs) ρ2) : dCons (dVar i) ts ρ R := by
  unfold dCons dVar
  simp only [h]
  exact k
theorem ix_own {ρ : TL.Env} {R : Rs → TL.Env → Prop} {i j : Nat} {xs : List D} {k : Int} {x : D} (hi : ρ[i]? = some (.ls xs)) (hj : ρ[j]? = some (.fr (.int k))) (e : atI xs k = some x) (h : R (.dat x) ρ) : dBin gIx (dVar i) (dVar j) ρ R := by
  unfold dBin dVar
  simp only [hi, hj]
  have e1 : val ρ (stl (.sl i)) = some (.lst xs) := by
    show (match ρ[i]? with | some (.ls xs) => some (D.lst xs) | some (.dc xs) => some (.dct xs) | _ => none) = _
    rw [hi]
  exact W2_mk e1 rfl (gIx_lst e h)
theorem seqIx {n : Nat} {k : Int} (h0 : 0 ≤ k) (h1 : k < n) : seqIndex? k n = some k.toNat := seqIndex_of h0 h1
theorem ixN_of {n : Nat} {k : Int} (h0 : 0 ≤ k) (h1 : k < n) : ixN n k = some k.toNat := by unfold ixN; rw [if_pos h0, if_pos h1]
theorem cut_sub (xs : List D) (lo hi : Option Int) : (cutD xs lo hi).Sublist xs := (List.take_sublist _ _).trans (List.drop_sublist _ _)
theorem wtL_set' (y : D) : ∀ (xs : List D) (i : Nat) (x : D), xs[i]? = some x → wtL (xs.set i y) + wt x = wtL xs + wt y
  | [], _, _, h => by simp at h
  | z :: xs, 0, x, h => by
    have : z = x := by simpa using h
    subst this
    show wt y + 1 + wtL xs + wt z = wt z + 1 + wtL xs + wt y
    omega
  | z :: xs, i + 1, x, h => by
    have := wtL_set' y xs i x (by simpa using h)
    show wt z + 1 + wtL (xs.set i y) + wt x = wt z + 1 + wtL xs + wt y
    omega
theorem dne (x : V) : (true ^^ decide (x = x)) = false := by simp
theorem okS_iff {z : Str} : okS z = true ↔ ∀ c ∈ z.cps.toList, c < 1114112 := by
  unfold okS
  rw [Array.all_eq_true_iff_forall_mem]
  simp
theorem okS_app {a b : Str} (ha : okS a = true) (hb : okS b = true) : okS (a ++ b) = true := by
  rw [okS_iff] at ha hb ⊢
  intro c hc
  rw [app_cps] at hc
  rcases List.mem_append.mp hc with z | z
  · exact ha c z
  · exact hb c z
theorem len_app (a b : Str) : (a ++ b).length = a.length + b.length := by rw [← strLen, app_cps, List.length_append, strLen, strLen]
theorem upper_wd {z : Str} (h : Wd z) : okS (Txt.upper z) = true ∧ (Txt.upper z).length ≤ 8 := by
  have h2 : ∀ c ∈ lets, c < 128 := by decide +kernel
  have e : Txt.upper z = ⟨z.cps.map PyProof.Rows.up1⟩ := PyProof.Rows.upper_ascii (x := z) fun c hc => h2 c (h.all.2.2 c hc)
  rw [e]
  constructor
  · rw [okS_iff]
    intro c hc
    have hc : c ∈ (z.cps.map PyProof.Rows.up1).toList := hc
    rw [Array.toList_map] at hc
    obtain ⟨d, hd, rfl⟩ := List.mem_map.mp hc
    have := h2 d (h.all.2.2 d hd)
    unfold PyProof.Rows.up1
    split <;> omega
  · have : (⟨z.cps.map PyProof.Rows.up1⟩ : Str).length = z.length := by rw [← strLen, ← strLen]; show (z.cps.map PyProof.Rows.up1).toList.length = _; rw [Array.toList_map, List.length_map]
    rw [this]
    exact h.all.2.1
theorem lk_str {z : Str} (h : okS z = true) (hl : z.length ≤ 1000) : Lk (.str z) := fine_str h (by omega)
theorem show_bl2 (v : Bool) : ShowOk (.lst [.bl v, .bl v]) := (Fine.lst (FineL.cons (N := 0) (fine_bl (w := 0) v) (FineL.cons (fine_bl (w := 0) v) (FineL.nil (w := 0) (m := 0))))).show_ (by decide) (by decide) (by decide)
end TL

/-! TN1: list comprehensions with any number of for clauses, each clause's loop once. -/
namespace TL
open PySem PySem.Spec PyProof.Rows L2

/-- a clause's turn, another clause within -/
def TurnOut (e : Expr) (d : Nat) (t0 : Expr) (p0 : Pos) (ifs0 : List Expr) (i1 : Expr) : Prop := ∀ (it acc : Value) (env : PySem.Env), compTurn e d it acc env = (do
  standAt p0
  match ← pyNext it with
  | none => pure (.done .next)
  | some v =>
    letOwnedTupleGo t0 it v
    assign t0 env v
    let mut ok := true
    for c in ifs0 do
      if ok then ok ← isTrue c env (eval c env)
    if ok then
      let x ← eval i1 env
      standAt i1.pos
      let x ← foldedSetIterable i1 env x
      let _ ← runOwn (.compStart e (d + 1) (← holding [x] (pyIter x)) acc env) env
    again (.compLoop e d it acc env))
/-- the last clause's turn -/
def TurnIn (e : Expr) (d : Nat) (t0 : Expr) (p0 : Pos) (ifs0 : List Expr) (elt : Expr) : Prop := ∀ (it acc : Value) (env : PySem.Env), compTurn e d it acc env = (do
  standAt p0
  match ← pyNext it with
  | none => pure (.done .next)
  | some v =>
    letOwnedTupleGo t0 it v
    assign t0 env v
    let mut ok := true
    for c in ifs0 do
      if ok then ok ← isTrue c env (eval c env)
    if ok then
      (do let _ ← call (.builtin "list.append") [acc, ← eval elt env])
    again (.compLoop e d it acc env))
abbrev BRun := Value → (Shared → Prop) → Shared → Prop
def brOut (prog : Program) (w : World) (A : Around) (e : Expr) (d : Nat) (i1 : Expr) (env : PySem.Env) : BRun := fun acc R s => wpAny (model prog w) A (eval i1 env) (fun x s4 => wpAny (model prog w) A (pyIter x) (fun it1 s5 =>
  codeAny (model prog w) A (.compStart e (d + 1) it1 acc env) (fun r s' => match r with
    | .ok _ => R s'
    | .error _ => False) s5) (fun _ _ => False) s4) (fun _ _ => False) s
def brIn (prog : Program) (w : World) (A : Around) (elt : Expr) (env : PySem.Env) : BRun := fun acc R s => wpAny (model prog w) A (eval elt env) (fun x s4 =>
  wpAny (model prog w) A (call (.builtin "list.append") [acc, x]) (fun _ s5 => R s5) (fun _ _ => False) s4) (fun _ _ => False) s
/-- a clause's loop, its body given -/
def LoopOk (prog : Program) (w : World) (A : Around) (e : Expr) (d : Nat) (t0 : Expr) (ifs0 : List Expr) (env : PySem.Env) (br : BRun) : Prop := ∀ (acc it : Value) (R : Result → Shared → Prop) (I : Nat → Shared → Prop),
  (∀ n s, I n s → wpAny (model prog w) A (pyNext it) (fun r s1 => match r with
      | none => R (.ok .next) s1
      | some v => wpAny (model prog w) A (letOwnedTupleGo t0 it v) (fun _ s1' => wpAny (model prog w) A (assign t0 env v) (fun _ s2 =>
          wpAny (model prog w) A (forIn ifs0 true fun c r => if r = true then do let ok ← isTrue c env (eval c env); pure (ForInStep.yield ok) else pure (ForInStep.yield r)) (fun ok s3 =>
            if ok = true then br acc (fun s' => ∃ m, m < n ∧ I m s') s3 else ∃ m, m < n ∧ I m s3) (fun _ _ => False) s2) (fun _ _ => False) s1') (fun _ _ => False) s1) (fun _ _ => False) s) →
  ∀ (n : Nat) (s : Shared), I n s → codeAny (model prog w) A (.compLoop e d it acc env) R s

section
variable {prog : Program} {w : World} {A : Around} {s : Shared} {el elt t0 i0 t1 i1 : Expr} {gs : List Comprehension} {scope : Scope} {pos : Pos} {ifs0 ifs1 : List Expr} {p0 : Pos} {d : Nat} {env : PySem.Env}
theorem fl {α : Type} {t : Sem α} {Q Q' : α → Shared → Prop} {M : Model} {E : Value → Shared → Prop} {s : Shared} (h : wpAny M A t Q (fun _ _ => False) s) (hQ : ∀ a s, Q a s → Q' a s) : wpAny M A t Q' E s := thnF h hQ
theorem loop_out (ht : TurnOut (.ListComp el gs scope pos) d t0 p0 ifs0 i1) (hs : ∀ x, foldedSetIterable i1 env x = pure x) : LoopOk prog w A (.ListComp el gs scope pos) d t0 ifs0 env (brOut prog w A (.ListComp el gs scope pos) d i1 env) := by
  intro acc it R I turn n s h
  refine codeAny_loop rfl I (fun n s hI => ?_) n h
  show wpAny _ A ((compTurn (.ListComp el gs scope pos) d it acc env).onRaise (fun x => do noteFrame x env; theTreesLotGoes x)) _ _ s
  refine wpAny_noted ?_
  rw [ht]
  refine wpAny_bind (wpAny_standAt (wpAny_bind (fl (turn n s hI) fun r s₁ h₁ => ?_)))
  cases r with
  | none => exact wpAny_pure h₁
  | some v =>
    refine wpAny_bind (fl h₁ fun _ s₁' h₁' => ?_)
    refine wpAny_bind (fl h₁' fun _ s₂ h₂ => wpAny_bind (fl h₂ fun ok s₃ h₃ => ?_))
    cases ok with
    | false => exact wpAny_pure ⟨rfl, h₃⟩
    | true =>
      refine wpAny_bind (fl (show wpAny _ _ (eval i1 env) _ _ _ from h₃) fun x s₄ h₄ => ?_)
      refine wpAny_bind (wpAny_standAt (wpAny_bind (wpAny_of_eq (hs x) (wpAny_bind (wpAny_holding (fl h₄ fun it1 s₅ h₅ => ?_))))))
      refine wpAny_bind (wpAny_runOwn ?_)
      rw [Around.mark_none]
      refine codeAny_mono h₅ fun r s' hr => ?_
      cases r with
      | ok f =>
        first
          | exact wpAny_pure ⟨rfl, hr⟩
          | exact wpAny_bind (wpAny_pure (wpAny_pure ⟨rfl, hr⟩))
      | error e => exact hr.elim
theorem loop_in (ht : TurnIn (.ListComp el gs scope pos) d t0 p0 ifs0 elt) : LoopOk prog w A (.ListComp el gs scope pos) d t0 ifs0 env (brIn prog w A elt env) := by
  intro acc it R I turn n s h
  refine codeAny_loop rfl I (fun n s hI => ?_) n h
  show wpAny _ A ((compTurn (.ListComp el gs scope pos) d it acc env).onRaise (fun x => do noteFrame x env; theTreesLotGoes x)) _ _ s
  refine wpAny_noted ?_
  rw [ht]
  refine wpAny_bind (wpAny_standAt (wpAny_bind (fl (turn n s hI) fun r s₁ h₁ => ?_)))
  cases r with
  | none => exact wpAny_pure h₁
  | some v =>
    refine wpAny_bind (fl h₁ fun _ s₁' h₁' => ?_)
    refine wpAny_bind (fl h₁' fun _ s₂ h₂ => wpAny_bind (fl h₂ fun ok s₃ h₃ => ?_))
    cases ok with
    | false => exact wpAny_pure ⟨rfl, h₃⟩
    | true =>
      exact wpAny_bind (wpAny_bind (fl (show wpAny _ _ (eval elt env) _ _ _ from h₃) fun x s₄ h₄ => wpAny_bind (fl h₄ fun _ s₅ h₅ => wpAny_pure (wpAny_pure ⟨rfl, h₅⟩))))
/-- a clause behind the first begins -/
theorem start_ok {it acc : Value} {R : Result → Shared → Prop} (hc : gs[d]? = some ⟨t1, i1, ifs1, 0⟩) (h0 : codeAny (model prog w) A (.compLoop (.ListComp el gs scope pos) d it acc env) R s)
    (h : wpAny (model prog w) A (pyIter it) (fun it' s' => codeAny (model prog w) A (.compLoop (.ListComp el gs scope pos) d it' acc env) R s') (notedBy (model prog w) A env fun x s' => R (.error x) s') s) :
    codeAny (model prog w) A (.compStart (.ListComp el gs scope pos) d it acc env) R s := by
  refine codeAny_of_tree ?_
  show wpAny _ _ ((compStart (.ListComp el gs scope pos) d it acc env).onRaise (fun x => do noteFrame x env; standAt theWindowsPlace)) _ _ s
  refine wpAny_notedAt ?_
  unfold compStart clausesOf
  dsimp only
  rw [hc]
  show wpAny _ _ (ask >>= _) _ _ s
  refine wpAny_bind (wpAny_askSetting (wpAny_ite ?_))
  split
  · first
      | exact wpAny_bind (wpAny_pure (wpAny_pure (And.intro rfl h0)))
      | exact wpAny_pure (And.intro rfl h0)
  · first
      | exact wpAny_bind (wpAny_rule (wpAny_bind (wpAny_standAt (wpAny_bind (wpAny_mono h (fun it' s' h' => wpAny_pure (And.intro rfl h')) fun _ _ x => x)))))
      | (refine wpAny_bind (wpAny_rule ?_); show wpAny _ _ (standAt i1.pos >>= _) _ _ s; exact wpAny_bind (wpAny_standAt (wpAny_bind (wpAny_mono h (fun it' s' h' => wpAny_pure (And.intro rfl h')) fun _ _ x => x))))
end
end TL

/-! TN2: clauses' bodies in a block; the comprehension. -/
namespace TL
open PySem PySem.Spec PyProof.Rows L2
abbrev TBd := Addr → L2.St → Hp → (Hp → Prop) → Prop
/-- a clause's body, run: R is reached wherever Nx holds; the slots vs are forgotten -/
structure PBody (X : Cx) (vs : List Nat) (br : BRun) (tb : TBd) : Prop where
  run : ∀ (D : Addr) (pins : List (Addr × Obj)) (s : Shared) (σ : L2.St) (H : Hp) (Nx : Hp → Prop) (R : Shared → Prop), Inv X pins σ H s → tb D σ H Nx → (∀ s' H', Inv X pins (wipe σ vs) H' s' → Nx H' → R s') → br (.ref D) R s
def tLast (te : TE) : TBd := fun D σ H Nx => te σ H fun y H' => ∃ acc, H' D = some (.lst acc) ∧ acc.length < sizeLine ∧ Nx (upd H' D (.lst (acc ++ [y])))
def tInner (wi : TI) (g : TG) (tt : TT) (tb : TBd) (vs : List Nat) : TBd := fun D σ H Nx => wi σ H fun J H4 => ∃ W : Nat → Nat → Hp → Prop, (∃ m, W 0 m H4) ∧ ∀ j k H, W j k H →
  (J.stop j H ∧ Nx H) ∨ (J.go j H ∧ ∃ Nx1 : Hp → Prop, (∀ H', Nx1 H' → ∃ k', k' < k ∧ W (j + 1) k' H') ∧ ∀ x H', J.yld j H x H' → g x (wipe σ vs) H' fun σ3 H5 => wipe σ3 vs = wipe σ vs ∧ tt σ3 H5 fun b H6 =>
    if b = true then tb D σ3 H6 Nx1 else Nx1 H6)
section
variable {X : Cx} {elt tg iter el : Expr} {ifs : List Expr} {gs : List Comprehension} {scope : Scope} {pos : Pos} {te : TE} {wi : TI} {g : TG} {tt : TT} {tb : TBd} {vs vs1 : List Nat} {br : BRun} {d : Nat}
theorem pb_last (hx : X.xe = fun _ _ => False) (he : PE X elt te) : PBody X [] (brIn X.prog X.w X.A elt X.env) (tLast te) := by
  refine ⟨fun D pins s σ H Nx R I h k => ?_⟩
  have q := he.run pins s σ H _ I h
  rw [hx] at q
  unfold brIn
  refine thnF q fun z s17 ⟨yv, H17, I17, r17, acc, hD17, hz17, nx⟩ => ?_
  exact L2.app_ok I17 hD17 hz17 r17 fun s18 I18 => k _ _ I18 nx
theorem pb_for (hx : X.xe = fun _ _ => False) (hc : X.calm = true) (lo : LoopOk X.prog X.w X.A (.ListComp el gs scope pos) (d + 1) tg ifs X.env br) (hgs : gs[d + 1]? = some ⟨tg, iter, ifs, 0⟩) (hi : PI X tg iter wi) (hg : PG X tg g) (ht : PTs X ifs tt)
    (hb : PBody X vs1 br tb) (hv : ∀ i ∈ vs1, i ∈ vs) : PBody X vs (brOut X.prog X.w X.A (.ListComp el gs scope pos) d iter X.env) (tInner wi g tt tb vs) := by
  refine ⟨fun D pins s σ H Nx R I h kR => ?_⟩
  have q := hi.run pins s σ H _ I h
  rw [hx] at q
  unfold brOut
  refine thnF q fun xv s10 q1 => thnF q1 fun itv s11 h11 => ?_
  obtain ⟨it1, fp1, tn1, J1, H11, e1, I11, T1, st11, f11, W1, ⟨m1, w1⟩, turn1⟩ := h11
  subst e1
  have stat1 : ∀ {H' : Hp}, (∀ b ∈ fp1, H' b = none) → ∀ b ∈ fp1, FpOk X pins H' b := fun hn b hb => ⟨hn b hb, (f11 b hb).2⟩
  have loop1 : codeAny (model X.prog X.w) X.A (.compLoop (.ListComp el gs scope pos) (d + 1) (.ref it1) (.ref D) X.env) (fun r s' => match r with
      | .ok _ => R s'
      | .error _ => False) s11 := by
    refine lo (.ref D) (.ref it1) _ (fun k s' => ∃ j H', Inv X pins (wipe σ vs) H' s' ∧ tn1 j s'.heap ∧ (∀ b ∈ fp1, H' b = none) ∧ W1 j k H') ?_ m1 s11 ⟨0, H11, I11.weak (wipe_length _ _) (fun j v e => (wipe_some e).1), st11, fun b hb => (f11 b hb).1, w1⟩
    rintro k s12 ⟨j, H12, I12, st12, n12, w12⟩
    rcases turn1 j k H12 w12 with ⟨stop1, nx1⟩ | ⟨go1, Nx1, hNx1, step1⟩
    · refine thnF (T1.done X rfl rfl rfl hc j _ s12 (wipe σ vs) H12 (fun _ _ => False) I12 (stat1 n12) st12 stop1) fun r s13 ⟨hr, I13⟩ => ?_
      subst hr
      exact kR _ _ I13 nx1
    · refine thnF (T1.item X rfl rfl rfl hc j _ s12 (wipe σ vs) H12 (fun _ _ => False) I12 (stat1 n12) st12 go1) fun r s13 ⟨u1, hr, h13⟩ => ?_
      subst hr
      refine thnF h13 fun _ s14 ⟨x1, H14, I14, r14, y14, st14, n14⟩ => ?_
      have I14' := I14.pinned (stat1 n14) (T1.obj _ _ st14)
      have q2 := hg.run _ s14 (wipe σ vs) H14 x1 u1 _ I14' r14 (step1 x1 H14 y14)
      rw [hx] at q2
      refine thnF q2 fun _ s15 ⟨σ15, H15, I15, hw15, q15⟩ => ?_
      have q3 := ht.run _ s15 σ15 H15 _ I15 q15
      rw [hx] at q3
      refine thnF q3 fun b1 s16 ⟨H16, I16, q16⟩ => ?_
      have fin1 : ∀ {σ' : L2.St} {s' : Shared} {H' : Hp}, Inv X (pins ++ pinsAt fp1 s14.heap) σ' H' s' → (wipe σ vs).length = σ'.length → (∀ (j : Nat) v, (wipe σ vs)[j]? = some (some v) → σ'[j]? = some (some v)) → Nx1 H' → ∃ m, m < k ∧ ∃ j H', Inv X pins (wipe σ vs) H' s' ∧ tn1 j s'.heap ∧ (∀ b ∈ fp1, H' b = none) ∧ W1 j m H' := fun {σ' s' H'} I' hl hk nx => by
        obtain ⟨m', hm, w'⟩ := hNx1 H' nx
        have pin' : ∀ b ∈ fp1, ∀ o, s14.heap.get? b = some o → s'.heap.get? b = some o ∧ H' b = none := fun b hb o e =>
          let z := I'.pin (b, o) (List.mem_append_right _ (List.mem_append_right _ (mem_pinsAt hb e)))
          ⟨z.1, z.2.1⟩
        refine ⟨m', hm, j + 1, H', I'.unpinned.weak hl hk, T1.keep _ _ _ st14 fun b hb o e => (pin' b hb o e).1, fun b hb => ?_, w'⟩
        obtain ⟨o, e, _⟩ := T1.obj _ _ st14 b hb
        exact (pin' b hb o e).2
      have hl15 : (wipe σ vs).length = σ15.length := by rw [← hw15, wipe_length]
      have hk15 : ∀ (j : Nat) v, (wipe σ vs)[j]? = some (some v) → σ15[j]? = some (some v) ∧ j ∉ vs := fun j v e => by
        rw [← hw15] at e
        exact wipe_some e
      cases b1 with
      | false =>
        simp only [Bool.false_eq_true, if_false] at q16 ⊢
        exact fin1 I16 hl15 (fun j v e => (hk15 j v e).1) q16
      | true =>
        simp only [if_true] at q16 ⊢
        refine hb.run D _ s16 σ15 H16 Nx1 _ I16 q16 fun s' H' I' nx => fin1 I' (hl15.trans (wipe_length _ _).symm) (fun j v e => ?_) nx
        obtain ⟨e1, e2⟩ := hk15 j v e
        rw [wipe_out fun z => e2 (hv j z)]
        exact e1
  exact start_ok (d := d + 1) hgs loop1 (T1.self X.A 0 _ _ _ st11 loop1)

/-- [elt for tg in iter if .. for ..]: the first clause -/
def tLcN (wi : TI) (g : TG) (tt : TT) (tb : TBd) (vs : List Nat) : TE := fun σ H Q => wi σ H fun J H1 => ∀ D, H1 D = none → ∃ W : Nat → Nat → Hp → Prop, (∃ m, W 0 m (upd H1 D (.lst []))) ∧ ∀ i m H, W i m H →
  (J.stop i H ∧ Q (.ref D) H) ∨ (J.go i H ∧ ∃ Nx : Hp → Prop, (∀ H', Nx H' → ∃ m', m' < m ∧ W (i + 1) m' H') ∧ ∀ x H', J.yld i H x H' → g x (wipe σ vs) H' fun σ2 H2 => wipe σ2 vs = wipe σ vs ∧ tt σ2 H2 fun b H3 =>
    if b = true then tb D σ2 H3 Nx else Nx H3)
theorem lcN_core {pins : List (Addr × Obj)} {s : Shared} {σ : L2.St} {H : Hp} {Q : VK} {rest : List Comprehension} {own : List (Str × Nat)} {pos' : Pos} {use : Option (Value → Sem Unit)} {Qf : Value → Shared → Prop} {brf : PySem.Env → BRun}
    (hc : X.calm = true) (hN : X.N.Nodup) (I : Inv X pins σ H s) (hi : PI X tg iter wi) (ok : BlkOk X.N X.env.scope scope own) (hv : ∀ i ∈ vs1, i ∈ own.map (·.2))
    (lo : ∀ (env : PySem.Env), LoopOk X.prog X.w X.A (.ListComp el (⟨tg, iter, ifs, 0⟩ :: rest) scope pos) 0 tg ifs env (brf env))
    (hg : ∀ (s : Shared) (H : Hp) (C : Addr) (cl : List (Str × Addr)) (fp : List Addr), PG (X.blk s H scope (compEnvC scope cl C X.env) fp) tg g) (ht : ∀ (s : Shared) (H : Hp) (C : Addr) (cl : List (Str × Addr)) (fp : List Addr), PTs (X.blk s H scope (compEnvC scope cl C X.env) fp) ifs tt)
    (hb : ∀ (s : Shared) (H : Hp) (C : Addr) (cl : List (Str × Addr)) (fp : List Addr), PBody (X.blk s H scope (compEnvC scope cl C X.env) fp) vs1 (brf (compEnvC scope cl C X.env)) tb)
    (hs : ∀ x, foldedSetIterable iter X.env x = pure x)
    (h : tLcN wi g tt tb (own.map (·.2)) σ H Q)
    (hRR : ∀ D C s' m H', Inv X pins σ H' s' → Q (.ref D) H' → s'.heap.Ns C m → FpOk X pins H' C → compPost (model X.prog X.w) X.A X.xe use Qf (.ref D) C (.ok .next) s') :
    wpAny (model X.prog X.w) X.A (comprehension (.ListComp el (⟨tg, iter, ifs, 0⟩ :: rest) scope pos) scope X.env pos' (newList []) false (eval iter X.env) use) Qf X.xe s := by
  have hfree : ∀ y ∈ scope.names, y.2 = .free → ∃ c, X.env.cells.lookup y.1 = some c := fun y hy e => by
    rcases ok.free y hy e with k | k
    · exact I.ok.has _ (.inl k)
    · exact I.ok.has _ (.inr k)
  refine wpAny_comprehension_free (use := use) rfl hs (closure_ok hfree) ok.kind (fun y hy e => by rw [ok.uniq y hy, e])
    (thn (hi.run pins s σ H _ I h) fun xv s1 hx => thn hx fun itv s2 h2 => ?_)
  obtain ⟨it, fp, tn, J, H2, e, I2, T, st2, f2, q⟩ := h2
  subst e
  refine wpAny_newObj_type (newEnv_comp ?_) (by show 0 ≤ sizeLine; decide)
  generalize hD : s2.heap.objs.size = D
  have hDn : H2 D = none := I2.hok.fresh (Nat.le_of_eq hD)
  obtain ⟨W, ⟨m0, w0⟩, turn⟩ := q D hDn
  generalize hs3 : ({ s2 with heap := s2.heap.push { cls := .type "list", data := .seq ([] : List Value).toArray } } : Shared) = s3
  have I3 : Inv X pins σ (upd H2 D (.lst [])) s3 := by
    rw [← hs3]
    refine I2.laid (t' := s2.toks) (fun b o e => Heap.get?_push_of_some _ e) (Nat.le_of_eq hD) ⟨Nat.zero_le _, [], 0, .nil, ?_⟩
    rw [← hD]
    exact Heap.get?_push_size _ rfl
  have h3 : s3.heap = s2.heap.push { cls := .type "list", data := .seq ([] : List Value).toArray } := by rw [← hs3]
  have f3 : ∀ b ∈ fp, FpOk X pins (upd H2 D (.lst [])) b ∧ b < s3.heap.objs.size := fun b hb => by
    have hlt : b < s2.heap.objs.size := by
      obtain ⟨o, e, _⟩ := T.obj _ _ st2 b hb
      exact Heap.lt_size e
    refine ⟨⟨?_, (f2 b hb).2⟩, by rw [h3, Heap.size_push]; exact Nat.lt_succ_of_lt hlt⟩
    rw [upd_ne (by rw [← hD]; exact Nat.ne_of_lt hlt)]
    exact (f2 b hb).1
  have st3 : tn 0 s3.heap := T.keep _ _ _ st2 fun b _ o e => by rw [h3]; exact Heap.get?_push_of_some _ e
  have I4 := block_start I3 ok hN f3
  have pg := hg s3 (upd H2 D (.lst [])) s3.heap.objs.size (cellsFrom (s3.heap.objs.size + 1) scope.names (cloFrom X.env.cells scope.names [])) fp
  have pt := ht s3 (upd H2 D (.lst [])) s3.heap.objs.size (cellsFrom (s3.heap.objs.size + 1) scope.names (cloFrom X.env.cells scope.names [])) fp
  have pb := hb s3 (upd H2 D (.lst [])) s3.heap.objs.size (cellsFrom (s3.heap.objs.size + 1) scope.names (cloFrom X.env.cells scope.names [])) fp
  show codeAny _ _ (.compStart (.ListComp el (⟨tg, iter, ifs, 0⟩ :: rest) scope pos) 0 (.ref it) (.ref D) (compEnvC scope (cellsFrom (s3.heap.objs.size + 1) scope.names (cloFrom X.env.cells scope.names [])) s3.heap.objs.size X.env)) (compPost (model X.prog X.w) X.A X.xe use Qf (.ref D) s3.heap.objs.size) { s3 with heap := pushCells (s3.heap.push { cls := .type "dict", data := .dict #[] }) scope.names }
  have nfp : ∀ b ∈ fp, (upd H2 D (.lst [])) b = none := fun b hb => (f3 b hb).1.1
  generalize hce : compEnvC scope (cellsFrom (s3.heap.objs.size + 1) scope.names (cloFrom X.env.cells scope.names [])) s3.heap.objs.size X.env = ce at I4 pg pt pb ⊢
  have cL : ce.locals = s3.heap.objs.size := by subst hce; rfl
  generalize hH3 : upd H2 D (.lst []) = H3 at I3 I4 pg pt pb w0 nfp f3
  generalize hs4 : ({ s3 with heap := pushCells (s3.heap.push { cls := .type "dict", data := .dict #[] }) scope.names } : Shared) = s4 at I4 ⊢
  have st4 : tn 0 s4.heap := T.keep _ _ _ st3 fun b _ o e => by rw [← hs4]; exact pushCells_keeps _ _ _ _ (Heap.get?_push_of_some _ e)
  have stat : ∀ {σ' : L2.St} {H' : Hp} {s' : Shared}, Inv (X.blk s3 H3 scope ce fp) [] σ' H' s' → (∀ b ∈ fp, H' b = none) → ∀ b ∈ fp, FpOk (X.blk s3 H3 scope ce fp) [] H' b := fun {σ' H' s'} I' hn b hb =>
    ⟨hn b hb, (I'.ok.exf b hb).1, I'.ok.exfs b hb, .inl hb, fun x c e => (I'.ok.exf b hb).2 x c e, fun p hp => absurd (show p ∈ ([] : List (Addr × Obj)) ++ [] from hp) (by simp)⟩
  have loop : codeAny (model X.prog X.w) X.A (.compLoop (.ListComp el (⟨tg, iter, ifs, 0⟩ :: rest) scope pos) 0 (.ref it) (.ref D) ce) (compPost (model X.prog X.w) X.A X.xe use Qf (.ref D) s3.heap.objs.size) s4 := by
    refine lo ce (.ref D) (.ref it) _ (fun n s' => ∃ i H', Inv (X.blk s3 H3 scope ce fp) [] (wipe σ (own.map (·.2))) H' s' ∧ tn i s'.heap ∧ (∀ b ∈ fp, H' b = none) ∧ W i n H') ?_ m0 s4 ⟨0, H3, I4, st4, nfp, w0⟩
    rintro n s5 ⟨i, H5, I5, st5, n5, w5⟩
    rcases turn i n H5 w5 with ⟨stop, qq⟩ | ⟨go, Nx, hNx, step⟩
    · have td := T.done (X.blk s3 H3 scope ce fp) rfl rfl rfl hc i [] s5 _ H5 (fun _ _ => False) I5 (stat I5 n5) st5 stop
      refine thnF td fun r s6 ⟨hr, I6⟩ => ?_
      subst hr
      have I7 : Inv X pins σ H5 s6 := I3.call' (ch := fp) I6.os I6.base I6.hok I6.bare fun b hb => ⟨(f3 b hb).1.2.2.2.1, (f3 b hb).1.2.1, (f3 b hb).1.2.2.2.2.1, (f3 b hb).1.2.2.2.2.2⟩
      have nC : H5 s3.heap.objs.size = none := by
        have z : H5 ce.locals = none := I6.free
        rw [cL] at z
        exact z
      obtain ⟨m, hn, _⟩ := I6.loc
      have hn : s6.heap.Ns ce.locals m := hn
      rw [cL] at hn
      exact hRR D s3.heap.objs.size s6 m H5 I7 qq hn (I3.fpOk (Nat.le_refl _) nC)
    · have ti := T.item (X.blk s3 H3 scope ce fp) rfl rfl rfl hc i [] s5 _ H5 (fun _ _ => False) I5 (stat I5 n5) st5 go
      refine thnF ti fun r s6 ⟨u, hr, h6⟩ => ?_
      subst hr
      refine thnF h6 fun _ s7 ⟨x, H7, I7, r7, y7, st7, n7⟩ => ?_
      have I7' := I7.pinned (stat I7 n7) (T.obj _ _ st7)
      refine thnF (pg.run _ s7 _ H7 x u _ I7' r7 (step x H7 y7)) fun _ s8 ⟨σ8, H8, I8, hw8, q8⟩ => ?_
      refine thnF (pt.run _ s8 σ8 H8 _ I8 q8) fun b s9 ⟨H9, I9, q9⟩ => ?_
      have fin : ∀ {σ9 : L2.St} {s' : Shared} {H' : Hp}, Inv (X.blk s3 H3 scope ce fp) ([] ++ pinsAt fp s7.heap) σ9 H' s' → (wipe σ (own.map (·.2))).length = σ9.length → (∀ (j : Nat) v, (wipe σ (own.map (·.2)))[j]? = some (some v) → σ9[j]? = some (some v)) → Nx H' →
          ∃ m, m < n ∧ ∃ i H', Inv (X.blk s3 H3 scope ce fp) [] (wipe σ (own.map (·.2))) H' s' ∧ tn i s'.heap ∧ (∀ b ∈ fp, H' b = none) ∧ W i m H' := fun {σ9 s' H'} I' hl hk nx => by
        obtain ⟨m', hm, w'⟩ := hNx H' nx
        have pin' : ∀ b ∈ fp, ∀ o, s7.heap.get? b = some o → s'.heap.get? b = some o ∧ H' b = none := fun b hb o e =>
          let z := I'.pin (b, o) (List.mem_append_right _ (List.mem_append_right _ (mem_pinsAt hb e)))
          ⟨z.1, z.2.1⟩
        refine ⟨m', hm, i + 1, H', (I'.unpinned (pins := [])).weak hl hk, T.keep _ _ _ st7 fun b hb o e => (pin' b hb o e).1, fun b hb => ?_, w'⟩
        obtain ⟨o, e, _⟩ := T.obj _ _ st7 b hb
        exact (pin' b hb o e).2
      have hl8 : (wipe σ (own.map (·.2))).length = σ8.length := by rw [← hw8, wipe_length]
      have hk8 : ∀ (j : Nat) v, (wipe σ (own.map (·.2)))[j]? = some (some v) → σ8[j]? = some (some v) ∧ j ∉ own.map (·.2) := fun j v e => by
        rw [← hw8] at e
        exact wipe_some e
      cases b with
      | false =>
        simp only [Bool.false_eq_true, if_false] at q9 ⊢
        exact fin I9 hl8 (fun j v e => (hk8 j v e).1) q9
      | true =>
        simp only [if_true] at q9 ⊢
        refine pb.run D _ s9 σ8 H9 Nx _ I9 q9 fun s' H' I' nx => fin I' (hl8.trans (wipe_length _ _).symm) (fun j v e => ?_) nx
        obtain ⟨e1, e2⟩ := hk8 j v e
        rw [wipe_out fun z => e2 (hv j z)]
        exact e1
  exact codeAny_compStart_list loop (T.self X.A 0 _ _ _ st4 loop)
theorem pe_lcN {rest : List Comprehension} {own : List (Str × Nat)} {brf : PySem.Env → BRun}
    (hc : X.calm = true) (hN : X.N.Nodup) (hi : PI X tg iter wi) (ok : BlkOk X.N X.env.scope scope own) (hv : ∀ i ∈ vs1, i ∈ own.map (·.2))
    (lo : ∀ (env : PySem.Env), LoopOk X.prog X.w X.A (.ListComp el (⟨tg, iter, ifs, 0⟩ :: rest) scope pos) 0 tg ifs env (brf env))
    (hg : ∀ (s : Shared) (H : Hp) (C : Addr) (cl : List (Str × Addr)) (fp : List Addr), PG (X.blk s H scope (compEnvC scope cl C X.env) fp) tg g) (ht : ∀ (s : Shared) (H : Hp) (C : Addr) (cl : List (Str × Addr)) (fp : List Addr), PTs (X.blk s H scope (compEnvC scope cl C X.env) fp) ifs tt)
    (hb : ∀ (s : Shared) (H : Hp) (C : Addr) (cl : List (Str × Addr)) (fp : List Addr), PBody (X.blk s H scope (compEnvC scope cl C X.env) fp) vs1 (brf (compEnvC scope cl C X.env)) tb)
    (hs : ∀ x, foldedSetIterable iter X.env x = pure x := by intro _; rfl) :
    PE X (.ListComp el (⟨tg, iter, ifs, 0⟩ :: rest) scope pos) (tLcN wi g tt tb (own.map (·.2))) := by
  refine ⟨fun pins s σ H Q I h => ?_⟩
  rw [eval_ListComp]
  refine lcN_core hc hN I hi ok hv lo hg ht hb hs h fun D C s' m H' I' q hn f => ⟨m, hn, fun h'' sb => ?_⟩
  obtain ⟨f0, f1, f2, f3, f4, f5⟩ := f
  exact ⟨.ref D, H', I'.turned (t' := s'.toks) (fun b o hb e => (sb.2 b hb).trans e) f0 f1 f3 f4 f5, rfl, q⟩
end
/-- the equations, where the clauses are written -/
theorem turn_out2_0 {el t0 t1 i0 i1 : Expr} {f0 f1 : List Expr} {scope : Scope} {pos : Pos} : TurnOut (.ListComp el [⟨t0, i0, f0, 0⟩, ⟨t1, i1, f1, 0⟩] scope pos) 0 t0 i0.pos f0 i1 := fun _ _ _ => rfl
theorem turn_in2 {el t0 t1 i0 i1 : Expr} {f0 f1 : List Expr} {scope : Scope} {pos : Pos} : TurnIn (.ListComp el [⟨t0, i0, f0, 0⟩, ⟨t1, i1, f1, 0⟩] scope pos) 1 t1 i1.pos f1 el := fun _ _ _ => rfl
theorem turn_out3_0 {el t0 t1 t2 i0 i1 i2 : Expr} {f0 f1 f2 : List Expr} {scope : Scope} {pos : Pos} : TurnOut (.ListComp el [⟨t0, i0, f0, 0⟩, ⟨t1, i1, f1, 0⟩, ⟨t2, i2, f2, 0⟩] scope pos) 0 t0 i0.pos f0 i1 := fun _ _ _ => rfl
theorem turn_out3_1 {el t0 t1 t2 i0 i1 i2 : Expr} {f0 f1 f2 : List Expr} {scope : Scope} {pos : Pos} : TurnOut (.ListComp el [⟨t0, i0, f0, 0⟩, ⟨t1, i1, f1, 0⟩, ⟨t2, i2, f2, 0⟩] scope pos) 1 t1 i1.pos f1 i2 := fun _ _ _ => rfl
theorem turn_in3 {el t0 t1 t2 i0 i1 i2 : Expr} {f0 f1 f2 : List Expr} {scope : Scope} {pos : Pos} : TurnIn (.ListComp el [⟨t0, i0, f0, 0⟩, ⟨t1, i1, f1, 0⟩, ⟨t2, i2, f2, 0⟩] scope pos) 2 t2 i2.pos f2 el := fun _ _ _ => rfl
theorem turn_out4_0 {el t0 t1 t2 t3 i0 i1 i2 i3 : Expr} {f0 f1 f2 f3 : List Expr} {scope : Scope} {pos : Pos} : TurnOut (.ListComp el [⟨t0, i0, f0, 0⟩, ⟨t1, i1, f1, 0⟩, ⟨t2, i2, f2, 0⟩, ⟨t3, i3, f3, 0⟩] scope pos) 0 t0 i0.pos f0 i1 := fun _ _ _ => rfl
theorem turn_out4_1 {el t0 t1 t2 t3 i0 i1 i2 i3 : Expr} {f0 f1 f2 f3 : List Expr} {scope : Scope} {pos : Pos} : TurnOut (.ListComp el [⟨t0, i0, f0, 0⟩, ⟨t1, i1, f1, 0⟩, ⟨t2, i2, f2, 0⟩, ⟨t3, i3, f3, 0⟩] scope pos) 1 t1 i1.pos f1 i2 := fun _ _ _ => rfl
theorem turn_out4_2 {el t0 t1 t2 t3 i0 i1 i2 i3 : Expr} {f0 f1 f2 f3 : List Expr} {scope : Scope} {pos : Pos} : TurnOut (.ListComp el [⟨t0, i0, f0, 0⟩, ⟨t1, i1, f1, 0⟩, ⟨t2, i2, f2, 0⟩, ⟨t3, i3, f3, 0⟩] scope pos) 2 t2 i2.pos f2 i3 := fun _ _ _ => rfl
theorem turn_in4 {el t0 t1 t2 t3 i0 i1 i2 i3 : Expr} {f0 f1 f2 f3 : List Expr} {scope : Scope} {pos : Pos} : TurnIn (.ListComp el [⟨t0, i0, f0, 0⟩, ⟨t1, i1, f1, 0⟩, ⟨t2, i2, f2, 0⟩, ⟨t3, i3, f3, 0⟩] scope pos) 3 t3 i3.pos f3 el := fun _ _ _ => rfl
end TL

/-! TN3: list comprehensions with several clauses over trees. -/
namespace TL
open PySem PySem.Spec PyProof.Rows L2
abbrev DTB := List D → Env → (List D → Env → Prop) → Prop
def bLast (te : DTE) : DTB := fun acc ρ Q => te ρ fun r ρ1 => match stl r with
  | .dat x => acc.length < sizeLine ∧ Q (acc ++ [x]) ρ1
  | _ => False
def bLoop (g : DTG) (tt : DTT) (tb : DTB) (vs : List Nat) : List D → List D → Env → (List D → Env → Prop) → Prop
  | [], acc, ρ, Q => Q acc (wipeE ρ vs)
  | d :: ds, acc, ρ, Q => g d (wipeE ρ vs) fun ρ1 => tt ρ1 fun b ρ2 => if b = true then tb acc ρ2 fun acc' ρ3 => bLoop g tt tb vs ds acc' ρ3 Q else bLoop g tt tb vs ds acc ρ2 Q
def bFor (ti : DTI) (g : DTG) (tt : DTT) (tb : DTB) (vs : List Nat) : DTB := fun acc ρ Q => ti ρ fun ds ρ1 => bLoop g tt tb vs ds acc ρ1 Q
def dLcN (ti : DTI) (g : DTG) (tt : DTT) (tb : DTB) (vs : List Nat) : DTE := fun ρ Q => ti ρ fun ds ρ1 => bLoop g tt tb vs ds [] ρ1 fun acc ρ2 => Q (.nw (.ls acc)) (resto ρ1 ρ2 vs)

/-- the environment beside the list D that none owns -/
structure Dk (K : PySem.W.Frag) (B : Bs) (G : Hp) (ω : Own) (ρ : Env) (σ : Stt) (H : Hp) (D : Addr) (wa : List V) (acc : List TL.D) : Prop where
  e : EnvW K B G ω ρ σ H
  w : ω D = none
  g : G D = none
  h : H D = some (.lst wa)
  r : RpL K G wa acc
  d0 : B.A0 D ∨ B.H0 D = none
def liftB (K : PySem.W.Frag) (np : Nat) (vs : List Nat) (tb : DTB) : TBd := fun D σ H Nx => ∃ B G ω ρ acc wa Qd, B.P.length = np ∧ Dk K B G ω ρ σ H D wa acc ∧ tb acc ρ Qd ∧
  ∀ G' ω' ρ' acc' wa' H', Same G G' → Dk K B G' ω' ρ' (L2.wipe σ vs) H' D wa' acc' → Qd acc' ρ' → Nx H'
theorem wipe_wipe {σ : Stt} {vs1 vs : List Nat} (hv : ∀ j ∈ vs1, j ∈ vs) : L2.wipe (L2.wipe σ vs1) vs = L2.wipe σ vs := by
  apply List.ext_getElem?
  intro j
  rw [wipe_get, wipe_length, wipe_get, wipe_get]
  by_cases h : j ∈ vs
  · by_cases hl : j < σ.length
    · rw [if_pos ⟨h, hl⟩, if_pos ⟨h, hl⟩]
    · rw [if_neg (fun z => hl z.2), if_neg (fun z => hl z.2), if_neg (fun z => hl z.2)]
  · rw [if_neg (fun z => h z.1), if_neg (fun z => h (hv j z.1)), if_neg (fun z => h z.1)]
theorem Off.wipe3 {σ σ4 : Stt} {ws vs : List Nat} (hw : ∀ j ∈ ws, j ∈ vs) (o : Off ws (L2.wipe σ vs) σ4) : L2.wipe σ4 vs = L2.wipe σ vs := by
  rw [(o.mono hw).wipe, wipe_wipe fun _ z => z]
section
variable {K : PySem.W.Frag} {B : Bs} {G : Hp} {ω : Own} {ρ : Env} {σ : Stt} {H : Hp} {D : Addr} {wa : List V} {acc : List TL.D} {np : Nat}
theorem Dk.lift {t : DTE} {Qd : Rs → Env → Prop} {Q : VK} (hn : B.P.length = np) (k0 : Dk K B G ω ρ σ H D wa acc) (q : t ρ Qd)
    (kk : ∀ G' ω' v r ρ' H', Same G G' → Dk K B G' ω' ρ' σ H' D wa acc → RsOk K G' H' ω' σ v (stl r) → Qd r ρ' → Q v H') : TL.lift K np t σ H Q :=
  ⟨reB B G ω ρ.length H, G, ρ, Qd, hn, ⟨_, k0.e.rebase⟩, q, fun G' v r ρ' H' s f qd => by
    obtain ⟨G2, s2, f2⟩ := f.stl
    obtain ⟨ω', e', rr⟩ := f2
    obtain ⟨z1, z2, z3⟩ := e'.still k0.h k0.w k0.g
    exact kk _ _ _ _ _ _ (s.trans s2) ⟨k0.e.back e', z2, z3, z1, k0.r.mono (s.trans s2), k0.d0⟩ rr qd⟩
theorem Dk.liftT {t : DTT} {Qd : Bool → Env → Prop} {Q : Bool → Hp → Prop} (hn : B.P.length = np) (k0 : Dk K B G ω ρ σ H D wa acc) (q : t ρ Qd)
    (kk : ∀ G' ω' b ρ' H', Same G G' → Dk K B G' ω' ρ' σ H' D wa acc → Qd b ρ' → Q b H') : TL.liftT K np t σ H Q :=
  ⟨reB B G ω ρ.length H, G, ρ, Qd, hn, ⟨_, k0.e.rebase⟩, q, fun G' b ρ' H' s f qd => by
    obtain ⟨ω', e'⟩ := f
    obtain ⟨z1, z2, z3⟩ := e'.still k0.h k0.w k0.g
    exact kk _ _ _ _ _ s ⟨k0.e.back e', z2, z3, z1, k0.r.mono s, k0.d0⟩ qd⟩
theorem Dk.liftI {t : DTI} {Qd : List TL.D → Env → Prop} {Q : It → Hp → Prop} (hn : B.P.length = np) (k0 : Dk K B G ω ρ σ H D wa acc) (q : t ρ Qd)
    (kk : ∀ G' ω' ds ρ' H' J, Same G G' → Dk K B G' ω' ρ' σ H' D wa acc → ItD K J G' ds → Qd ds ρ' → Q J H') : TL.liftI K np t σ H Q :=
  ⟨reB B G ω ρ.length H, G, ρ, Qd, hn, ⟨_, k0.e.rebase⟩, q, fun G' ds ρ' H' J s f it qd => by
    obtain ⟨ω', e'⟩ := f
    obtain ⟨z1, z2, z3⟩ := e'.still k0.h k0.w k0.g
    exact kk _ _ _ _ _ _ s ⟨k0.e.back e', z2, z3, z1, k0.r.mono s, k0.d0⟩ it qd⟩
theorem Dk.liftG {ws : List Nat} {t : DTG} {v : V} {d : TL.D} {Qd : Env → Prop} {Q : Stt → Hp → Prop} (hn : B.P.length = np) (k0 : Dk K B G ω ρ σ H D wa acc) (r : Rp K G v d) (q : t d ρ Qd)
    (kk : ∀ ω' ρ' σ', Dk K B G ω' ρ' σ' H D wa acc → Off ws σ σ' → Qd ρ' → Q σ' H) : TL.liftG K np ws t v σ H Q :=
  ⟨reB B G ω ρ.length H, G, ρ, d, Qd, hn, ⟨_, k0.e.rebase⟩, r, q, fun ρ' σ' f o qd => by
    obtain ⟨ω', e'⟩ := f
    obtain ⟨z1, z2, z3⟩ := e'.still k0.h k0.w k0.g
    exact kk _ _ _ ⟨k0.e.back e', z2, z3, z1, k0.r, k0.d0⟩ o qd⟩
theorem Dk.wipe2 {σ0 : Stt} {vs : List Nat} (k : Dk K B G ω ρ σ H D wa acc) (o : L2.wipe σ vs = L2.wipe σ0 vs) : Dk K B G ω (wipeE ρ vs) (L2.wipe σ0 vs) H D wa acc := ⟨k.e.wipe2 o, k.w, k.g, k.h, k.r, k.d0⟩
/-- a turn -/
theorem Dk.turn {ws vs vs1 : List Nat} {g : DTG} {tt : DTT} {tb : DTB} {ds : List TL.D} {x : V} {d : TL.D} {Qd : List TL.D → Env → Prop} {Nx : Hp → Prop} {σ0 : Stt} (hn : B.P.length = np) (hw : ∀ j ∈ ws, j ∈ vs) (hv : ∀ j ∈ vs1, j ∈ vs)
    (k0 : Dk K B G ω (wipeE ρ vs) (L2.wipe σ0 vs) H D wa acc) (r : Rp K G x d) (q : bLoop g tt tb vs (d :: ds) acc ρ Qd)
    (kk : ∀ G' ω' ρ' acc' wa' H', Same G G' → Dk K B G' ω' (wipeE ρ' vs) (L2.wipe σ0 vs) H' D wa' acc' → bLoop g tt tb vs ds acc' ρ' Qd → Nx H') :
    TL.liftG K np ws g x (L2.wipe σ0 vs) H fun σ2 H4 => L2.wipe σ2 vs = L2.wipe σ0 vs ∧ TL.liftT K np tt σ2 H4 fun b H5 => if b = true then liftB K np vs1 tb D σ2 H5 Nx else Nx H5 := by
  refine k0.liftG hn r q fun ω4 ρ4 σ4 k4 o4 q4 => ?_
  have ow := Off.wipe3 hw o4
  refine ⟨ow, k4.liftT hn q4 fun G5 ω5 b ρ5 H5 s5 k5 q5 => ?_⟩
  cases b with
  | false => exact iteF (kk _ _ _ _ _ _ s5 (k5.wipe2 ow) q5)
  | true =>
    refine iteT ⟨B, G5, ω5, ρ5, acc, wa, _, hn, k5, q5, fun G6 ω6 ρ6 acc6 wa6 H6 s6 k6 q6 => ?_⟩
    exact kk _ _ _ _ _ _ (s5.trans s6) (k6.wipe2 (by rw [wipe_wipe hv]; exact ow)) q6
theorem Dk.newT {p : Addr} {vs : List V} {ds : List TL.D} (k : Dk K B G ω ρ σ H D wa acc) (h : H p = none) (r : RpL K G vs ds) :
    Same G (upd G p (.tup vs)) ∧ Dk K B (upd G p (.tup vs)) ω ρ σ (upd H p (.tup vs)) D wa acc ∧ Rp K (upd G p (.tup vs)) (.ref p) (.tup ds) := by
  obtain ⟨sg, e2⟩ := k.e.newG (o := .tup vs) h
  have ne : D ≠ p := fun z => by subst z; rw [k.h] at h; cases h
  exact ⟨sg, ⟨e2, k.w, by rw [upd_ne ne]; exact k.g, by rw [upd_ne ne]; exact k.h, k.r.mono sg, k.d0⟩, .tup (.inl (.inl upd_same)) (r.mono sg)⟩
end
section
variable {X : Cx} {elt tg iter el : Expr} {ifs : List Expr} {gs rest : List Comprehension} {scope : Scope} {own : List (Str × Nat)} {pos : Pos} {te : DTE} {ti : DTI} {g : DTG} {tt : DTT} {tb : DTB} {ws vs vs1 : List Nat} {br : BRun} {brf : PySem.Env → BRun} {d np : Nat}
theorem PBody.mo {t t' : TBd} (h : PBody X vs br t) (m : ∀ D σ H Nx, t' D σ H Nx → t D σ H Nx) : PBody X vs br t' := ⟨fun D pins s σ H Nx R I q => h.run D pins s σ H Nx R I (m _ _ _ _ q)⟩
theorem db_last (hx : X.xe = fun _ _ => False) (he : PE X elt (lift X.K np te)) : PBody X [] (brIn X.prog X.w X.A elt X.env) (liftB X.K np [] (bLast te)) := by
  refine (pb_last hx he).mo fun D σ H Nx h => ?_
  obtain ⟨B, G, ω, ρ, acc, wa, Qd, hn, k0, q, kk⟩ := h
  refine k0.lift hn q fun G' ω' v r ρ' H' s k1 rr q1 => ?_
  split at q1
  · rename_i x hr
    rw [hr] at rr
    refine ⟨wa, k1.h, by rw [k1.r.length]; exact q1.1, kk G' ω' ρ' (acc ++ [x]) (wa ++ [v]) _ s ⟨k1.e.poke k1.w k1.g k1.d0, k1.w, k1.g, upd_same, k1.r.append (.cons rr .nil), k1.d0⟩ q1.2⟩
  · exact q1.elim
theorem db_for (hx : X.xe = fun _ _ => False) (hc : X.calm = true) (lo : LoopOk X.prog X.w X.A (.ListComp el gs scope pos) (d + 1) tg ifs X.env br) (hgs : gs[d + 1]? = some ⟨tg, iter, ifs, 0⟩) (hi : PI X tg iter (liftI X.K np ti)) (hg : PG X tg (liftG X.K np ws g)) (ht : PTs X ifs (liftT X.K np tt))
    (hb : PBody X vs1 br (liftB X.K np vs1 tb)) (hv : ∀ i ∈ vs1, i ∈ vs) (hw : ∀ i ∈ ws, i ∈ vs) : PBody X vs (brOut X.prog X.w X.A (.ListComp el gs scope pos) d iter X.env) (liftB X.K np vs (bFor ti g tt tb vs)) := by
  refine (pb_for hx hc lo hgs hi hg ht hb hv).mo fun D σ H Nx h => ?_
  obtain ⟨B, G, ω, ρ, acc, wa, Qd, hn, k0, q, kk⟩ := h
  refine k0.liftI hn q fun G1 ω1 ds ρ1 H1 J s1 k1 it q1 => ?_
  refine ⟨fun i m H => ∃ G' ω' ρ' acc wa, Same G1 G' ∧ Dk X.K B G' ω' (wipeE ρ' vs) (L2.wipe σ vs) H D wa acc ∧ m = ds.length - i ∧ i ≤ ds.length ∧ bLoop g tt tb vs (ds.drop i) acc ρ' Qd,
    ⟨ds.length, G1, ω1, ρ1, acc, wa, .refl _, k1.wipe2 rfl, by simp, Nat.zero_le _, by rw [List.drop_zero]; exact q1⟩, ?_⟩
  rintro i m H2 ⟨G', ω', ρ', acc, wa, s', k', rfl, hi', q'⟩
  by_cases hlt : i < ds.length
  · rw [List.drop_eq_getElem_cons hlt] at q'
    have gd : ds[i]? = some ds[i] := List.getElem?_eq_getElem hlt
    obtain ⟨hgo, hy⟩ := it.go i H2 ds[i] (fun a o q => k'.e.gle a o (s' a o q)) gd
    refine .inr ⟨hgo, fun H3 => ∃ G' ω' ρ' acc wa, Same G1 G' ∧ Dk X.K B G' ω' (wipeE ρ' vs) (L2.wipe σ vs) H3 D wa acc ∧ bLoop g tt tb vs (ds.drop (i + 1)) acc ρ' Qd,
      fun H3 ⟨G3, ω3, ρ3, acc3, wa3, s3, k3, q3⟩ => ⟨ds.length - (i + 1), by omega, G3, ω3, ρ3, acc3, wa3, s3, k3, rfl, hlt, q3⟩, fun x H3 y => ?_⟩
    rcases hy x H3 y with ⟨rfl, r2⟩ | ⟨T, wt, es, hT, rfl, rfl, ed, rr⟩
    · exact k'.turn hn hw hv (r2.mono s') q' fun G5 ω5 ρ5 acc5 wa5 H5 s5 k5 q5 => ⟨G5, ω5, ρ5, acc5, wa5, s'.trans s5, k5, q5⟩
    · obtain ⟨sg, k2, r2⟩ := k'.newT hT (rr.mono s')
      exact k2.turn hn hw hv (by rw [ed]; exact r2) q' fun G5 ω5 ρ5 acc5 wa5 H5 s5 k5 q5 => ⟨G5, ω5, ρ5, acc5, wa5, (s'.trans sg).trans s5, k5, q5⟩
  · have ei : i = ds.length := by omega
    subst ei
    rw [List.drop_length] at q'
    exact .inl ⟨it.stop _ _ (fun a o q => k'.e.gle a o (s' a o q)) (Nat.le_refl _), kk _ _ _ _ _ _ (s1.trans s') k' q'⟩
theorem d_lcN (hc : X.calm = true) (hN : X.N.Nodup) (hi : PI X tg iter (liftI X.K np ti)) (ok : BlkOk X.N X.env.scope scope own)
    (lo : ∀ (env : PySem.Env), LoopOk X.prog X.w X.A (.ListComp el (⟨tg, iter, ifs, 0⟩ :: rest) scope pos) 0 tg ifs env (brf env))
    (hg : ∀ (s : Shared) (H : Hp) (C : Addr) (cl : List (Str × Addr)) (fp : List Addr), PG (X.blk s H scope (compEnvC scope cl C X.env) fp) tg (liftG X.K np ws g)) (ht : ∀ (s : Shared) (H : Hp) (C : Addr) (cl : List (Str × Addr)) (fp : List Addr), PTs (X.blk s H scope (compEnvC scope cl C X.env) fp) ifs (liftT X.K np tt))
    (hb : ∀ (s : Shared) (H : Hp) (C : Addr) (cl : List (Str × Addr)) (fp : List Addr), PBody (X.blk s H scope (compEnvC scope cl C X.env) fp) vs1 (brf (compEnvC scope cl C X.env)) (liftB X.K np vs1 tb))
    (hv : ∀ i ∈ vs1, i ∈ own.map (·.2) := by decide) (hw : ∀ j ∈ ws, j ∈ own.map (·.2) := by decide) (hs : ∀ x, foldedSetIterable iter X.env x = pure x := by intro _; rfl) :
    PE X (.ListComp el (⟨tg, iter, ifs, 0⟩ :: rest) scope pos) (lift X.K np (dLcN ti g tt tb (own.map (·.2)))) := by
  refine (pe_lcN hc hN hi ok hv lo hg ht hb hs).mo fun σ H Q h => ?_
  obtain ⟨B, G, ρ, Qd, hn, eo, h, k⟩ := h
  refine ⟨B, G, ρ, _, hn, eo, h, fun G1 ds ρ1 H1 J s1 e1 it q1 D hD => ?_⟩
  generalize hvs : own.map (·.2) = vs at *
  obtain ⟨ω1, e1⟩ := e1
  have d0 : B.A0 D ∨ B.H0 D = none := e1.gone hD
  have hg1 : G1 D = none := Same.none e1.gle hD
  have hw1 : ω1 D = none := by
    cases q : ω1 D with
    | none => rfl
    | some i => exact absurd hD (e1.own D i q).2.1
  have k1 : Dk X.K B G1 ω1 ρ1 σ (upd H1 D (.lst [])) D [] [] := ⟨e1.poke hw1 hg1 d0, hw1, hg1, upd_same, .nil, d0⟩
  refine ⟨fun i m H => ∃ G' ω' ρ' acc wa, Same G1 G' ∧ Dk X.K B G' ω' (wipeE ρ' vs) (L2.wipe σ vs) H D wa acc ∧ m = ds.length - i ∧ i ≤ ds.length ∧ bLoop g tt tb vs (ds.drop i) acc ρ' _,
    ⟨ds.length, G1, ω1, ρ1, [], [], .refl _, k1.wipe2 rfl, by simp, Nat.zero_le _, by rw [List.drop_zero]; exact q1⟩, ?_⟩
  rintro i m H2 ⟨G', ω', ρ', acc, wa, s', k', rfl, hi', q'⟩
  by_cases hlt : i < ds.length
  · rw [List.drop_eq_getElem_cons hlt] at q'
    have gd : ds[i]? = some ds[i] := List.getElem?_eq_getElem hlt
    obtain ⟨hgo, hy⟩ := it.go i H2 ds[i] (fun a o q => k'.e.gle a o (s' a o q)) gd
    refine .inr ⟨hgo, fun H3 => ∃ G' ω' ρ' acc wa, Same G1 G' ∧ Dk X.K B G' ω' (wipeE ρ' vs) (L2.wipe σ vs) H3 D wa acc ∧ bLoop g tt tb vs (ds.drop (i + 1)) acc ρ' _,
      fun H3 ⟨G3, ω3, ρ3, acc3, wa3, s3, k3, q3⟩ => ⟨ds.length - (i + 1), by omega, G3, ω3, ρ3, acc3, wa3, s3, k3, rfl, hlt, q3⟩, fun x H3 y => ?_⟩
    rcases hy x H3 y with ⟨rfl, r2⟩ | ⟨T, wt, es, hT, rfl, rfl, ed, rr⟩
    · exact k'.turn hn hw hv (r2.mono s') q' fun G5 ω5 ρ5 acc5 wa5 H5 s5 k5 q5 => ⟨G5, ω5, ρ5, acc5, wa5, s'.trans s5, k5, q5⟩
    · obtain ⟨sg, k2, r2⟩ := k'.newT hT (rr.mono s')
      exact k2.turn hn hw hv (by rw [ed]; exact r2) q' fun G5 ω5 ρ5 acc5 wa5 H5 s5 k5 q5 => ⟨G5, ω5, ρ5, acc5, wa5, (s'.trans sg).trans s5, k5, q5⟩
  · have ei : i = ds.length := by omega
    subst ei
    rw [List.drop_length] at q'
    refine .inl ⟨it.stop _ _ (fun a o q => k'.e.gle a o (s' a o q)) (Nat.le_refl _), ?_⟩
    have er := EnvW.resto (vs := vs) e1 s' k'.e
    obtain ⟨ωr, er, hωr⟩ : ∃ ωr, EnvW X.K B G' ωr (TL.resto ρ1 (wipeE ρ' vs) vs) σ H2 ∧ ωr D = none := ⟨_, er, by rw [k'.w]⟩
    refine k _ _ (.nw (.ls acc)) _ _ (s1.trans s') ⟨tagd ωr D σ.length, ?_, rfl, D, wa, rfl, tagd_same, k'.h, k'.r⟩ q'
    refine ⟨er.gle, er.g0, er.keep, fun a j q => ?_, er.len, fun j s q => ?_, er.pin⟩
    · unfold tagd at q
      split at q
      · rename_i ha
        subst ha
        cases q
        exact ⟨k'.g, by rw [k'.h]; simp, d0⟩
      · split at q
        · cases q
        · exact er.own a j q
    · refine (er.slot j s q).mono (.refl _) fun a z => ⟨?_, rfl⟩
      have hj : j < (TL.resto ρ1 (wipeE ρ' vs) vs).length := (List.getElem?_eq_some_iff.mp q).1
      have := er.len
      have ha : a ≠ D := fun w => by
        subst w
        rw [hωr] at z
        cases z
      unfold tagd
      rw [if_neg ha, if_neg (fun w => by rw [z] at w; have := Option.some.inj w; omega)]
      exact z
end
end TL

/-! TN4: enumerate of a tuple; enumerate of a list or a tuple over trees. -/
namespace TL
open PySem PySem.Spec PyProof.Rows L2
open AutoSeq1 (wpAny_loadPart')
theorem meets_enum1 {v : Value} {o : Obj} {H : Heap → Prop} (B : Begins v o H) :
    Meets (Builtin.«enumerate.__new__» ⟨[.type "enumerate", v], []⟩) (fun _ R s => H s.heap ∧
      R (.ok (.ret (.ref (s.heap.push o).objs.size))) { s with heap := (s.heap.push o).push { cls := .type "enumerate", data := .fields #[.none, .bool false, .ref s.heap.objs.size, rawInt 0, .none, .none] } }) :=
  .of_wp fun prog w A R s h => by
    obtain ⟨hp, g, d, tk, os⟩ := s; obtain ⟨h1, h⟩ := h
    have hsub := sub_enumerate
    have q1 : ∀ {A' : Around} {E : Value → Shared → Prop} {Q : Value → Shared → Prop}, Q (.ref hp.objs.size) ⟨hp.push o, g, d, tk, os⟩ → wpAny (model prog w) A' (pyIter v) Q E ⟨hp, g, d, tk, os⟩ :=
      fun q => B.iter prog w _ _ ⟨hp, g, d, tk, os⟩ _ h1 q
    wp_walk using q1
    refine wpAny_stack_any fun st => wpAny_pure ?_
    split
    · rename_i c _ _ _ _ _
      cases (c == Value.type "enumerate")
      · wp_walk using q1
        exact ⟨_, rfl, h⟩
      · wp_walk using q1
        exact ⟨_, rfl, h⟩
    · wp_walk using q1
      exact ⟨_, rfl, h⟩
section
variable {prog : Program} {w : World} {A : Around} {E : Value → Shared → Prop} {s : Shared}
theorem enum_begins1 {a : Addr} {o : Obj} {H : Heap → Prop} {Q : Value → Shared → Prop} (B : Begins (.ref a) o H) (h1 : H s.heap)
    (h : ∀ h', IsEnum h' (s.heap.objs.size + 1) s.heap.objs.size 0 .none → h'.get? s.heap.objs.size = some o → h'.objs.size = s.heap.objs.size + 2 →
      (∀ b o, s.heap.get? b = some o → h'.get? b = some o) → Q (.ref (s.heap.objs.size + 1)) { s with heap := h' }) :
    wpAny (model prog w) A (call (.type "enumerate") [.ref a]) Q E s := by
  refine callType_new F.called_enumerate (by decide) (F.typeCall_enumerate_1 _) (F.newCall_enumerate_1 _) (fun obj => F.args_object_init_2 obj _) F.entry_enumerate_new
    (meets_enum1 B) ⟨h1, ?_⟩
  have hz : (s.heap.push o).objs.size = s.heap.objs.size + 1 := Heap.size_push ..
  show _ ∧ _
  rw [hz]
  have he : IsEnum ((s.heap.push o).push { cls := .type "enumerate", data := .fields #[.none, .bool false, .ref s.heap.objs.size, rawInt 0, .none, .none] }) (s.heap.objs.size + 1) s.heap.objs.size 0 .none := by
    have := Heap.get?_push_size (s.heap.push o) (o := { cls := .type "enumerate", data := .fields #[.none, .bool false, .ref s.heap.objs.size, rawInt 0, .none, .none] }) rfl
    rw [hz] at this; exact this
  refine ⟨⟨_, he, rfl⟩, h _ he (Heap.get?_push_of_some _ (Heap.get?_push_size _ B.free)) (by rw [Heap.size_push, hz]) fun b o x => Heap.get?_push_of_some _ (Heap.get?_push_of_some _ x)⟩
end
/-- the tuple at a, each item in a new pair -/
def Itet (K : PySem.W.Frag) (a : Addr) : It :=
  ⟨fun i H => ∃ (xs : List V) (x : V), SqT K H a xs ∧ xs[i]? = some x, fun i H v H' => ∃ T x, v = .ref T ∧ H T = none ∧ H' = upd H T (.tup [.int (i : Nat), x]) ∧ ∀ xs, SqT K H a xs → xs[i]? = some x, fun i H => ∃ xs : List V, SqT K H a xs ∧ xs.length ≤ i⟩
theorem tup_ne_it {h : Heap} {a it : Addr} {its : Array Value} {i : Nat} (p : h.IsTuple a its) (q : h.IsTupleIter it a i) : a ≠ it := by
  intro z
  subst z
  obtain ⟨o, ho, hc, _⟩ := p
  obtain ⟨o', ho', hc', _⟩ := q
  rw [ho] at ho'
  cases ho'
  rw [hc] at hc'
  injection hc' with z
  exact absurd z (by decide)
theorem tup_ne_en {h : Heap} {a e it : Addr} {its : Array Value} {i : Int} {old : Value} (p : h.IsTuple a its) (q : IsEnum h e it i old) : e ≠ a := by
  intro z
  subst z
  obtain ⟨o, ho, hc, _⟩ := p
  have q' : h.get? e = some _ := q
  rw [ho] at q'
  cases q'
  injection hc with z
  exact absurd z (by decide)
theorem turn_enumT {P : Program} {w : World} {K : PySem.W.Frag} {elts : List Expr} {kk : Nat} {tpos : Pos} (a e it : Addr) :
    Turn P w K (.Tuple elts kk tpos) (Itet K a) [e, it] e (fun i h => (∃ old, IsEnum h e it ((i : Nat) : Int) old) ∧ h.IsTupleIter it a i ∧ e ≠ it) where
  mem := by simp
  obj := fun i h st b hb => by
    obtain ⟨⟨old, he⟩, ⟨o, ho, hc, hd⟩, _⟩ := st
    have e' : b = e ∨ b = it := by simpa using hb
    rcases e' with z | z
    · rw [z]; exact ⟨_, he, fun v q => nomatch q⟩
    · rw [z]; exact ⟨o, ho, fun v q => by rw [hd] at q; cases q⟩
  keep := fun i h h' st k => let ⟨⟨old, he⟩, hi, hne⟩ := st; ⟨⟨old, k e (by simp) _ he⟩, hi.at fun o q => k it (by simp) o q, hne⟩
  item := by
    intro X hP hw hK hc i pins s σ H E I hf st hg
    subst hP hw hK
    obtain ⟨⟨old, he⟩, hit, hne⟩ := st
    obtain ⟨xs, x, hq, hx⟩ := hg
    obtain ⟨its, rv, p, hz⟩ := I.tuple hq
    have p : s.heap.IsTuple a its.toArray := p
    obtain ⟨u, hu, ru⟩ := rv.get hx
    have hel : e < s.heap.objs.size := Heap.lt_size he
    have hil : it < s.heap.objs.size := by obtain ⟨_, q, _⟩ := hit; exact Heap.lt_size q
    have na := tup_ne_it p hit
    have ne := tup_ne_en p he
    have hlt : i < its.toArray.size := by
      have := (List.getElem?_eq_some_iff.mp hu).1
      simpa using this
    refine wpAny_pyNext_enum_itemD (Draws.tuple (A := X.A.in1) (by show X.A.in1.handled = none; exact I.ok.hd hc) it a na its.toArray) he ⟨hit, p⟩ hlt hne (by simp; exact ⟨hne, ne⟩) fun u' h' tk hP' ho hst' hT hsz hk => ?_
    have eu : u' = u := by
      have e1 : its.toArray[i]? = some u := by simpa using hu
      rw [hP'] at e1
      exact Option.some.inj e1
    subst eu
    refine ⟨_, rfl, wpAny_letOwnedTupleGo_enum (s := { s with heap := h', toks := tk + 1 }) ho fun h'' he' sb => ?_⟩
    have hT2 : h''.get? s.heap.objs.size = some { cls := .type "tuple", data := .seq #[.int i tk, u'] } := (sb.2 _ (Nat.ne_of_gt hel)).trans hT
    have new : ObjOk X.prog X.w (upd H s.heap.objs.size (.tup [.int (i : Nat), x])) h'' s.heap.objs.size (.tup [.int (i : Nat), x]) :=
      ⟨by show 2 ≤ sizeLine; decide, [.int i tk, u'], .cons ⟨_, rfl⟩ (.cons ru .nil), ⟨_, hT2, rfl, _, rfl⟩⟩
    have I1 : Inv X pins σ (upd H s.heap.objs.size (.tup [.int (i : Nat), x])) { s with heap := h'', toks := tk + 1 } :=
      I.turnedNew (ch := [e, it]) (fun b ob hb q => (sb.2 b (fun z => hb (by simp [z]))).trans (hk b ob (fun z => hb (by simp [z])) (fun z => hb (by simp [z])) q)) hf (Nat.le_refl _) new
    refine ⟨.ref s.heap.objs.size, _, I1, rfl, ⟨_, x, rfl, I.hok.fresh (Nat.le_refl _), rfl, fun ys hy => by rw [I.tuple_inj hy hq]; exact hx⟩, ⟨⟨u', ?_⟩, hst'.1.at fun o q => (sb.2 it (Ne.symm hne)).trans q, hne⟩, fun b hb => ?_⟩
    · have e1 : ((i + 1 : Nat) : Int) = (i : Int) + 1 := by omega
      rw [e1]; exact he'
    · have hb' : b < s.heap.objs.size := by
        have e' : b = e ∨ b = it := by simpa using hb
        rcases e' with z | z
        · rw [z]; exact hel
        · rw [z]; exact hil
      rw [upd_ne (Nat.ne_of_lt hb')]
      exact (hf b hb).1
  done := by
    intro X hP hw hK hc i pins s σ H E I hf st hg
    subst hP hw hK
    obtain ⟨⟨old, he⟩, hit, hne⟩ := st
    obtain ⟨xs, hq, hx⟩ := hg
    obtain ⟨its, rv, p, hz⟩ := I.tuple hq
    have p : s.heap.IsTuple a its.toArray := p
    obtain ⟨f0, f1, f2, f3, f4, f5⟩ := hf it (by simp)
    have hl := rv.length
    have hd : X.A.in1.handled = none := I.ok.hd hc
    have hT : s.TypeIs (.ref e) "enumerate" := ⟨_, he, rfl⟩
    unfold pyNext
    refine wpAny_bind (wpAny_attempt (wpAny_callSpecial?_slot (name := Str.ofString "__next__") hT F.slot_enumerate_next
      (wpAny_call_entry F.slot_enumerate_next hT F.entry_enumerate_next ?_ (F.args_enumerate_next_1 _))))
    show wpAny _ _ (field (.ref e) 2 >>= _) _ _ _
    refine wpAny_bind (wpAny_field he rfl (x := .ref it) rfl ?_)
    refine wpAny_bind (wpAny_nextOf_tuple_end hd hit p (by simp; omega) fun h' x he' hx' => ?_)
    obtain ⟨o, ho, hc⟩ := hx'
    refine wpAny_bind (wpAny_isInstance (T := "StopIteration") (b := true) ⟨o, ho, hc⟩ isSubtype_stop ?_)
    exact wpAny_pure ⟨rfl, I.turned (t' := s.toks) (fun b o hb q => he' b o hb q) f0 f1 f3 f4 f5⟩
  self := fun A i s Q E st h => let ⟨⟨_, he⟩, _⟩ := st; wpAny_pyIter_enum he h
def iEnum2 (K : PySem.W.Frag) (ta : TA) : TI := fun σ H R => ta σ H fun vs H1 => ∃ a, vs = [.ref a] ∧ ((∃ xs, SqL K H1 a xs ∧ R (Ite K a) H1) ∨ (∃ xs, SqT K H1 a xs ∧ R (Itet K a) H1))
theorem pi_enum2 {X : Cx} {e : Expr} {ta : TA} {p pos tpos : Pos} {elts : List Expr} {kk : Nat} (hg : Gl X "enumerate") (hm : X.mg "enumerate" = none) (ha : PA X [e] ta) (hs : starEach [e] X.env = [(false, eval e X.env)] := by rfl) :
    PI X (.Tuple elts kk tpos) (.Call (.Name "enumerate" p) [e] [] pos) (iEnum2 X.K ta) := by
  refine ⟨fun pins s σ H R I h => ?_⟩
  refine Call_ (ld_blt I hg hm boot_enumerate (PyProof.Rows.callWith_type1 (thn (ha.run pos pins s σ H _ I h) fun us s1 ⟨vs, H1, I1, r1, q1⟩ => ?_) hs rfl))
  obtain ⟨a, ex, q1⟩ := q1
  subst ex
  cases r1 with
  | cons r rr =>
    cases rr
    cases r
    have fp : ∀ b ∈ [s1.heap.objs.size + 1, s1.heap.objs.size], FpOk X pins H1 b := fun b hb => by
      have e' : b = s1.heap.objs.size + 1 ∨ b = s1.heap.objs.size := by simpa using hb
      have hle : s1.heap.objs.size ≤ b := by
        rcases e' with z | z
        · rw [z]; exact Nat.le_add_right _ _
        · rw [z]; exact Nat.le_refl _
      exact I1.fpOk hle (I1.hok.fresh hle)
    rcases q1 with ⟨xs, hq, q⟩ | ⟨xs, hq, q⟩
    · obtain ⟨its, rv, p', hz⟩ := I1.list hq
      refine call_enumerate_list p'.isList fun h' he hit hsz hk => wpAny_pyIter_enum he ?_
      have I2 : Inv X pins σ H1 { s1 with heap := h' } := I1.kept (t' := s1.toks) hk
      exact ⟨s1.heap.objs.size + 1, [s1.heap.objs.size + 1, s1.heap.objs.size], _, _, H1, rfl, I2, turn_enum a (s1.heap.objs.size + 1) s1.heap.objs.size, ⟨⟨.none, he⟩, hit, Nat.succ_ne_self _⟩, fp, q⟩
    · obtain ⟨its, rv, p', hz⟩ := I1.tuple hq
      have p' : s1.heap.IsTuple a its.toArray := p'
      refine enum_begins1 (begins_tuple a its.toArray) p' fun h' he hit hsz hk => wpAny_pyIter_enum he ?_
      have I2 : Inv X pins σ H1 { s1 with heap := h' } := I1.kept (t' := s1.toks) hk
      exact ⟨s1.heap.objs.size + 1, [s1.heap.objs.size + 1, s1.heap.objs.size], _, _, H1, rfl, I2, turn_enumT a (s1.heap.objs.size + 1) s1.heap.objs.size, ⟨⟨.none, he⟩, ⟨_, hit, rfl, rfl⟩, Nat.succ_ne_self _⟩, fp, q⟩
/-! ### over trees -/
def iEnumB (t : DTA) : DTI := fun ρ Q => t ρ fun rs ρ1 => match datL rs with
  | some [.lst xs] => Q (enumD xs) ρ1
  | some [.tup xs] => Q (enumD xs) ρ1
  | _ => False
theorem enumD_get {xs : List D} {i : Nat} {d : D} (h : (enumD xs)[i]? = some d) : ∃ x, xs[i]? = some x ∧ d = .tup [.int i, x] := by
  unfold enumD at h
  rw [List.getElem?_map, List.getElem?_zipIdx] at h
  cases hx : xs[i]? with
  | none => rw [hx] at h; cases h
  | some x =>
    rw [hx] at h
    cases h
    exact ⟨x, rfl, by simp⟩
theorem enumD_length (xs : List D) : (enumD xs).length = xs.length := by unfold enumD; simp
theorem itd_enum {K : PySem.W.Frag} {G : Hp} {a : Addr} {vs : List V} {ds : List D} (h : SqL K G a vs) (r : RpL K G vs ds) : ItD K (Ite K a) G (enumD ds) where
  go := fun i H d s q => by
    obtain ⟨x, hx, rfl⟩ := enumD_get q
    obtain ⟨v, h1, h2⟩ := r.get hx
    refine ⟨⟨vs, v, s.seq h, h1⟩, fun y H' ⟨T, w, e1, e2, e3, e4⟩ => .inr ⟨T, [.int (i : Nat), w], _, e2, e1, e3, rfl, ?_⟩⟩
    have := e4 vs (s.seq h)
    rw [h1] at this
    cases this
    exact .cons (.int _) (.cons h2 .nil)
  stop := fun i H s q => ⟨vs, s.seq h, by rw [r.length]; rw [enumD_length] at q; exact q⟩
theorem itd_enumT {K : PySem.W.Frag} {G : Hp} {a : Addr} {vs : List V} {ds : List D} (h : SqT K G a vs) (r : RpL K G vs ds) : ItD K (Itet K a) G (enumD ds) where
  go := fun i H d s q => by
    obtain ⟨x, hx, rfl⟩ := enumD_get q
    obtain ⟨v, h1, h2⟩ := r.get hx
    refine ⟨⟨vs, v, seqT s h, h1⟩, fun y H' ⟨T, w, e1, e2, e3, e4⟩ => .inr ⟨T, [.int (i : Nat), w], _, e2, e1, e3, rfl, ?_⟩⟩
    have := e4 vs (seqT s h)
    rw [h1] at this
    cases this
    exact .cons (.int _) (.cons h2 .nil)
  stop := fun i H s q => ⟨vs, seqT s h, by rw [r.length]; rw [enumD_length] at q; exact q⟩
theorem di_enum {X : Cx} {e : Expr} {ta : DTA} {np : Nat} {p pos tpos : Pos} {elts : List Expr} {kk : Nat} (hg : Gl X "enumerate") (hm : X.mg "enumerate" = none) (ha : PA X [e] (liftA X.K np ta)) (hs : starEach [e] X.env = [(false, eval e X.env)] := by rfl) :
    PI X (.Tuple elts kk tpos) (.Call (.Name "enumerate" p) [e] [] pos) (liftI X.K np (iEnumB ta)) := by
  refine (pi_enum2 hg hm ha hs).mo fun σ H R h => ?_
  obtain ⟨B, G, ρ, Qd, hn, eo, h, k⟩ := h
  refine ⟨B, G, ρ, _, hn, eo, h, fun G1 vs rs ρ1 H1 s1 e1 ar q1 => ?_⟩
  obtain ⟨ω, e1⟩ := e1
  split at q1
  · rename_i xs hd
    have rr := ar.dat hd
    cases rr with
    | cons r rr =>
      cases rr
      obtain ⟨a, vs, rfl, h1, r1⟩ := (Rp.rd (H := H1) r).lst e1.gle
      have hg : G1 a = some (.lst vs) := by
        cases r with
        | lst g rr' =>
          have := e1.gle _ _ g
          rw [h1] at this
          cases this
          exact g
      exact ⟨a, rfl, .inl ⟨vs, .of h1, k _ _ _ _ _ s1 ⟨ω, e1⟩ (itd_enum (.of hg) r1) q1⟩⟩
  · rename_i xs hd
    have rr := ar.dat hd
    cases rr with
    | cons r rr =>
      cases rr
      obtain ⟨a, vs, rfl, h1, r1⟩ := (Rp.rd (H := H1) r).tup
      exact ⟨a, rfl, .inr ⟨vs, seqT e1.gle h1, k _ _ _ _ _ s1 ⟨ω, e1⟩ (itd_enumT h1 r1) q1⟩⟩
  · exact q1.elim
end TL

/-! TL15: own objects made: C(..), self.f = e; methods without arguments. -/
namespace TL
open PySem PySem.Spec PyProof.Rows L2

def putD (f : Str) (d : D) : List (Str × D) → List (Str × D)
  | [] => [(f, d)]
  | (g, x) :: r => if g = f then (g, d) :: r else (g, x) :: putD f d r
theorem RpF.put {K : PySem.W.Frag} {G : Hp} {f : Str} {v : V} {d : D} (h : Rp K G v d) : ∀ {vs : List (Str × V)} {fs : List (Str × D)}, RpF K G vs fs → RpF K G (putF f v vs) (putD f d fs)
  | _, _, .nil => .cons h .nil
  | _, _, .cons (f := g) h' r => by
    unfold putF putD
    by_cases e : g = f
    · rw [if_pos e, if_pos e]; exact .cons h r
    · rw [if_neg e, if_neg e]; exact .cons h' (r.put h)
theorem RpF.length {K : PySem.W.Frag} {G : Hp} : ∀ {vs : List (Str × V)} {fs : List (Str × D)}, RpF K G vs fs → vs.length = fs.length
  | _, _, .nil => rfl
  | _, _, .cons _ r => congrArg (· + 1) r.length
/-- name.f = e, the name an own object that is being made -/
def dFldSet (C : Addr) (i : Nat) (f : Str) (t : DTE) : DTS := fun D ρ => t ρ fun r ρ1 => match stl r with
  | .dat d => (match ρ1[i]? with
    | some (.rs (.ob C' fs)) => C' = C ∧ fs.length < 1000 ∧ D.nx (ρ1.set i (.rs (.ob C (putD f d fs))))
    | _ => False)
  | _ => False
section
variable {X : Cx} {np : Nat} {C : Addr} {f x : Str} {e : Expr} {te : DTE} {p p' pos : Pos}
theorem ds_fld (i : Nat) (c : Cls X.K C) (n : NoAttr X.K C f) (he : PE X e (lift X.K np te)) (hs : swapsWith e (some (.Attribute (.Name x p) f p')) pos.line X.env = pure false := by rfl) (hN : X.N[i]? = some x := by rfl) (hv : Vis X.env.scope x := by first | exact Or.inl rfl | exact Or.inr (Or.inl rfl) | exact Or.inr (Or.inr rfl)) (hd : (x == ("__debug__" : Str)) = false := by decide) (hcd : (x == ("__classdict__" : Str)) = false := by decide) :
    PS X (.Assign [.Attribute (.Name x p) f p'] e pos) (liftS X.K np (dFldSet C i f te)) := by
  refine (ps_fld (pe_var (i := i) hN hv hd hcd) he hs).mo fun D σ H h => ?_
  obtain ⟨B, G, ρ, Dd, hn, eo, h, k1, k2, k3, k4⟩ := h
  refine ⟨B, G, ρ, _, hn, eo, h, fun G1 v r ρ1 H1 s1 f1 q1 => ?_⟩
  obtain ⟨G2, s2, f2⟩ := f1.stl
  obtain ⟨ω, ew, rv⟩ := f2
  split at q1
  · rename_i d hr
    rw [hr] at rv
    split at q1
    · rename_i C' fs hi
      obtain ⟨rfl, hl, q1⟩ := q1
      obtain ⟨u, e1, a, dx, vs, rfl, f1, f2, h1, h2, rf⟩ := ew.slot i _ hi
      refine ⟨.ref a, e1, a, _, dx, vs, rfl, h1, c, n, by rw [rf.length]; exact hl, ?_⟩
      have ne : dx ≠ a := fun z => by subst z; rw [h1] at h2; cases h2
      exact k1 _ _ _ _ (s1.trans s2) ⟨ω, ew.mutG (o := .ins _ dx (putF f v vs)) (s' := .rs (.ob _ (putD f d fs))) hi rfl f1 ⟨.ref a, e1, a, dx, _, rfl, f1, f2, upd_same, by rw [upd_ne ne]; exact h2, rf.put rv⟩⟩ q1
    · exact q1.elim
  · exact q1.elim
end

/-! ### a slot more -/
section
variable {K : PySem.W.Frag} {B : Bs} {G : Hp} {ω : Own} {ρ : Env} {σ : Stt} {H : Hp}
def tag2 (ω : Own) (a b : Addr) (i : Nat) : Own := fun c => if c = a ∨ c = b then some i else if ω c = some i then none else ω c
theorem tag2_some {a b c : Addr} {i j : Nat} (h : tag2 ω a b i c = some j) : (j = i ∧ (c = a ∨ c = b)) ∨ (ω c = some j ∧ j ≠ i ∧ ¬ (c = a ∨ c = b)) := by
  unfold tag2 at h
  split at h
  · rename_i z; exact .inl ⟨(Option.some.inj h).symm, z⟩
  · rename_i z
    split at h
    · cases h
    · rename_i n; exact .inr ⟨h, fun y => n (y ▸ h), z⟩
theorem tag2_ne {a b c : Addr} {i j : Nat} (h : ω c = some j) (hj : j ≠ i) (hc : ¬ (c = a ∨ c = b)) : tag2 ω a b i c = some j := by
  unfold tag2
  rw [if_neg hc, if_neg (fun z => by rw [h] at z; exact hj (Option.some.inj z))]
  exact h
theorem tag2_pos {a b c : Addr} {i : Nat} (hc : c = a ∨ c = b) : tag2 ω a b i c = some i := by unfold tag2; rw [if_pos hc]
/-- a new object of the class C in a slot more -/
theorem EnvW.push (e : EnvW K B G ω ρ σ H) (hp : B.P.length ≤ σ.length) {x dx C : Addr} (hx : H x = none) (hdx : H dx = none) (ne : dx ≠ x) :
    EnvW K B G (tag2 ω x dx σ.length) (ρ ++ [.rs (.ob C [])]) (σ ++ [some (.ref x)]) (upd (upd H dx (.own x)) x (.ins C dx [])) := by
  have hh : ∀ a, ¬ (a = x ∨ a = dx) → upd (upd H dx (.own x)) x (.ins C dx []) a = H a := fun a n => by rw [upd_ne (fun z => n (.inl z)), upd_ne (fun z => n (.inr z))]
  have off : ∀ a, H a ≠ none → ¬ (a = x ∨ a = dx) := fun a h z => by
    rcases z with z | z
    · exact h (z ▸ hx)
    · exact h (z ▸ hdx)
  refine ⟨fun a u q => ?_, e.g0, fun a u q n => ?_, fun a i q => ?_, by rw [List.length_append, List.length_append, e.len]; rfl, fun i s q => ?_, fun i s v q o p => ?_⟩
  · have := e.gle a u q
    rw [hh a (off a (by rw [this]; simp))]; exact this
  · have := e.keep a u q n
    rw [hh a (off a (by rw [this]; simp))]; exact this
  · rcases tag2_some q with ⟨_, z⟩ | ⟨z, _, n⟩
    · rcases z with rfl | rfl
      · exact ⟨Same.none e.gle hx, by rw [upd_same]; simp, e.gone hx⟩
      · exact ⟨Same.none e.gle hdx, by rw [upd_ne ne, upd_same]; simp, e.gone hdx⟩
    · obtain ⟨h1, h2, h3⟩ := e.own a i z
      exact ⟨h1, by rw [hh a n]; exact h2, h3⟩
  · by_cases hi : i < ρ.length
    · rw [List.getElem?_append_left hi] at q
      rw [List.getElem?_append_left (by rw [← e.len]; exact hi)]
      refine (e.slot i s q).mono (.refl _) fun a z => ?_
      obtain ⟨_, h2, _⟩ := e.own a i z
      have := e.len
      exact ⟨tag2_ne z (by omega) (off a h2), hh a (off a h2)⟩
    · rw [List.getElem?_append_right (by omega)] at q
      have hi2 : i = ρ.length := by
        have := (List.getElem?_eq_some_iff.mp q).1
        simp at this
        omega
      subst hi2
      simp at q
      subst q
      rw [List.getElem?_append_right (by rw [e.len]; exact Nat.le_refl _)]
      refine ⟨.ref x, by rw [e.len]; simp, x, dx, [], rfl, ?_, ?_, upd_same, ?_, .nil⟩
      · rw [e.len]; exact tag2_pos (.inl rfl)
      · rw [e.len]; exact tag2_pos (.inr rfl)
      · rw [upd_ne ne, upd_same]
  · by_cases hi : i < ρ.length
    · rw [List.getElem?_append_left hi] at q
      rw [List.getElem?_append_left (by rw [← e.len]; exact hi)]
      exact e.pin i s v q o p
    · have := (List.getElem?_eq_some_iff.mp p).1
      have := e.len
      omega
/-- the last slot's object is frozen and the slot goes -/
theorem EnvW.pop {C : Addr} {fs : List (Str × D)} {u : V} (e : EnvW K B G ω (ρ ++ [.rs (.ob C fs)]) (σ ++ [some u]) H) :
    ∃ G' ω', Same G G' ∧ EnvW K B G' ω' ρ σ H ∧ Rp K G' u (.obj C fs) := by
  have hl : ρ.length = σ.length := by
    have := e.len
    rw [List.length_append, List.length_append] at this
    simp at this
    exact this
  obtain ⟨v, e1, a, dx, vs, rfl, f1, f2, h1, h2, rf⟩ := e.slot ρ.length (.rs (.ob C fs)) (by simp)
  rw [hl] at e1
  simp at e1
  subst e1
  have ne : dx ≠ a := fun z => by subst z; rw [h1] at h2; cases h2
  obtain ⟨g1, _, z1⟩ := e.own a _ f1
  obtain ⟨g2, _, z2⟩ := e.own dx _ f2
  have s1 : Same G (upd G dx (.own a)) := same_upd g2
  have s2 : Same (upd G dx (.own a)) (upd (upd G dx (.own a)) a (.ins C dx vs)) := same_upd (by rw [upd_ne ne.symm]; exact g1)
  have sg := s1.trans s2
  refine ⟨_, untag ω ρ.length, sg, ⟨fun b u q => ?_, fun b u q => ?_, e.keep, fun b i q => ?_, hl, fun i s q => ?_, fun i s v q o p => ?_⟩, .obj upd_same (by rw [upd_ne ne, upd_same]) (rf.mono sg)⟩
  · by_cases ha : b = a
    · subst ha; rw [upd_same] at q; rw [h1]; exact q
    · rw [upd_ne ha] at q
      by_cases hb : b = dx
      · subst hb; rw [upd_same] at q; rw [h2]; exact q
      · rw [upd_ne hb] at q; exact e.gle _ _ q
  · by_cases ha : b = a
    · subst ha
      rcases z1 with z | z
      · exact .inr (.inr z)
      · exact .inr (.inl z)
    · rw [upd_ne ha] at q
      by_cases hb : b = dx
      · subst hb
        rcases z2 with z | z
        · exact .inr (.inr z)
        · exact .inr (.inl z)
      · rw [upd_ne hb] at q; exact e.g0 _ _ q
  · obtain ⟨q1, q2⟩ := untag_some q
    obtain ⟨h1', h2', h3'⟩ := e.own b i q1
    refine ⟨?_, h2', h3'⟩
    rw [upd_ne (fun z => by subst z; rw [f1] at q1; exact q2 (Option.some.inj q1).symm), upd_ne (fun z => by subst z; rw [f2] at q1; exact q2 (Option.some.inj q1).symm)]
    exact h1'
  · have hi : i < ρ.length := (List.getElem?_eq_some_iff.mp q).1
    have := e.slot i s (by rw [List.getElem?_append_left hi]; exact q)
    rw [List.getElem?_append_left (by rw [← hl]; exact hi)] at this
    exact this.mono sg fun b z => ⟨untag_ne (by omega) z, rfl⟩
  · have hi : i < ρ.length := (List.getElem?_eq_some_iff.mp q).1
    have := e.pin i s v (by rw [List.getElem?_append_left hi]; exact q) o p
    rw [List.getElem?_append_left (by rw [← hl]; exact hi)] at this
    exact this
end
theorem slotOf_app {ρ : Env} {s0 : Sl} {r : Rs} {s : Sl} (h : slotOf ρ r = some s) : slotOf (ρ ++ [s0]) r = some s ∧ ∀ i, isSl i r = true → i < ρ.length := by
  cases r with
  | dat d => exact ⟨h, fun i z => by cases z⟩
  | nw _ => cases h
  | sl i =>
    have h' : (match ρ[i]? with | some s => if s.own = true then some s else none | none => none) = some s := h
    cases w : ρ[i]? with
    | none => rw [w] at h'; cases h'
    | some t =>
      have hi := (List.getElem?_eq_some_iff.mp w).1
      refine ⟨?_, fun j z => ?_⟩
      · show (match (ρ ++ [s0])[i]? with | some s => if s.own = true then some s else none | none => none) = some s
        rw [List.getElem?_append_left hi]
        exact h'
      · have : i = j := beq_iff_eq.mp (show (i == j) = true from z)
        omega
theorem slotsOf_app {ρ : Env} {s0 : Sl} : ∀ {rs : List Rs} {ss : List Sl}, slotsOf ρ rs = some ss → slotsOf (ρ ++ [s0]) rs = some ss ∧ (∀ i, rs.any (isSl i) = true → i < ρ.length)
  | [], ss, h => ⟨h, fun i z => by cases z⟩
  | r :: rs, ss, h => by
    unfold slotsOf at h
    cases h1 : slotOf ρ r with
    | none => rw [h1] at h; cases h
    | some s1 =>
      cases h2 : slotsOf ρ rs with
      | none => rw [h1, h2] at h; cases h
      | some ss2 =>
        rw [h1, h2] at h
        cases h
        obtain ⟨a1, a2⟩ := slotOf_app (s0 := s0) h1
        obtain ⟨b1, b2⟩ := slotsOf_app (s0 := s0) h2
        refine ⟨by unfold slotsOf; rw [a1, b1], fun i z => ?_⟩
        rw [List.any_cons, Bool.or_eq_true] at z
        exact z.elim (a2 i) (b2 i)
theorem backE_app {ρ : Env} {s0 : Sl} : ∀ {rs : List Rs} {ss : List Sl}, (∀ i, rs.any (isSl i) = true → i < ρ.length) → backE (ρ ++ [s0]) rs ss = backE ρ rs ss ++ [s0]
  | [], ss, _ => by cases ss <;> rfl
  | r :: rs, [], _ => by cases r <;> rfl
  | .dat _ :: rs, s :: ss, h => backE_app (rs := rs) (ss := ss) fun i z => h i (by rw [List.any_cons, z, Bool.or_true])
  | .nw _ :: rs, s :: ss, h => backE_app (rs := rs) (ss := ss) fun i z => h i (by rw [List.any_cons, z, Bool.or_true])
  | .sl i :: rs, s :: ss, h => by
    have hi : i < ρ.length := h i (by rw [List.any_cons, isSl_self]; rfl)
    show (backE (ρ ++ [s0]) rs ss).set i (own' s) = (backE ρ rs ss).set i (own' s) ++ [s0]
    rw [backE_app (rs := rs) (ss := ss) fun j z => h j (by rw [List.any_cons, z, Bool.or_true]), List.set_append_left _ _ (by rw [backE_length]; exact hi)]
/-- C(..): the new object, frozen when it is made -/
def dMake (np : Nat) (C : Addr) (n : Nat) (S : DSp) (t : DTA) : DTE := fun ρ Q => t ρ fun rs ρ1 => np ≤ ρ1.length ∧ rs.length + 1 = n ∧ slNd rs = true ∧ match slotsOf ρ1 rs with
  | some args => S (.rs (.ob C []) :: args) fun r ss => r = .dat .non ∧ ∃ fs ss', ss = .rs (.ob C fs) :: ss' ∧ Q (.dat (.obj C fs)) (backE ρ1 rs ss')
  | none => False
theorem ArgsOk.app {K : PySem.W.Frag} {G : Hp} {σ : Stt} {o : Option V} : ∀ {vs : List V} {rs : List Rs}, ArgsOk K G σ vs rs → ArgsOk K G (σ ++ [o]) vs rs
  | _, _, .nil => .nil
  | _, _, .cons a r => .cons (by
      cases a with
      | dat h => exact .dat h
      | sl h => exact .sl (by rw [List.getElem?_append_left (List.getElem?_eq_some_iff.mp h).1]; exact h)) (ArgsOk.app r)
section
variable {X : Cx} {CX : CXT} {kk n np : Nat} {C f : Addr} {fd : FuncData} {ps : List Str} {S : DSp} {E : XK} {x : Str} {p pos : Pos} {e : Expr} {es : List Expr} {u : DTA}
theorem make_ok (σ : Stt) (H : Hp) (Q : VK) (h : lift X.K np (dMake np C n S u) σ H Q) : tMake C (toSp X.K n S) [] E (liftA X.K np u) σ H Q := by
  obtain ⟨B, G, ρ, Qd, hn, eo, h, k⟩ := h
  refine ⟨B, G, ρ, _, hn, eo, h, fun G1 vs rs ρ1 H1 s1 e1 ar q1 => ?_⟩
  obtain ⟨hnp, hl, nd, q1⟩ := q1
  intro x dx hx hdx ne
  split at q1
  · rename_i args hs
    obtain ⟨ω1, e1⟩ := e1
    rw [List.append_nil]
    have hlen := e1.len
    have e2 := e1.push (C := C) (by rw [hn, ← hlen]; exact hnp) hx hdx ne
    obtain ⟨b1, b2⟩ := slotsOf_app (s0 := .rs (.ob C [])) hs
    have ar2 : ArgsOk X.K G1 (σ ++ [some (V.ref x)]) vs rs := ArgsOk.app ar
    have ar3 : ArgsOk X.K G1 (σ ++ [some (V.ref x)]) (.ref x :: vs) (.sl ρ1.length :: rs) := .cons (.sl (by rw [hlen]; simp)) ar2
    have nd3 : slNd (.sl ρ1.length :: rs) = true := by
      show (!(rs.any (isSl ρ1.length)) && slNd rs) = true
      rw [nd, Bool.and_true]
      cases z : rs.any (isSl ρ1.length) with
      | false => rfl
      | true => have := b2 _ z; omega
    have hs3 : slotsOf (ρ1 ++ [.rs (.ob C [])]) (.sl ρ1.length :: rs) = some (.rs (.ob C []) :: args) := by
      have z : slotOf (ρ1 ++ [Sl.rs (.ob C [])]) (.sl ρ1.length) = some (.rs (.ob C [])) := by
        show (match (ρ1 ++ [Sl.rs (.ob C [])])[ρ1.length]? with | some s => if s.own = true then some s else none | none => none) = _
        rw [List.getElem?_append_right (Nat.le_refl _), Nat.sub_self]
        rfl
      unfold slotsOf
      rw [b1, z]
    refine ⟨G1, _, _, _, by show (vs.length + 1) = n; rw [ar.length]; exact hl, e2.enter ar3 nd3 hs3, q1, fun G' ω' v r ss H' s f rr nsl q => ?_⟩
    obtain ⟨rfl, fs, ss', rfl, q⟩ := q
    cases rr
    have e4 := e2.back2 ar3 nd3 hs3 s f
    have eb : backE (ρ1 ++ [Sl.rs (.ob C [])]) (.sl ρ1.length :: rs) (.rs (.ob C fs) :: ss') = backE ρ1 rs ss' ++ [.rs (.ob C fs)] := by
      show (backE (ρ1 ++ [Sl.rs (.ob C [])]) rs ss').set ρ1.length (own' (.rs (.ob C fs))) = _
      rw [backE_app b2, show own' (.rs (.ob C fs)) = Sl.rs (.ob C fs) from rfl]
      rw [List.set_append_right _ _ (by rw [backE_length]; exact Nat.le_refl _), backE_length, Nat.sub_self]
      rfl
    rw [eb] at e4
    obtain ⟨G2, ω2, s2, e3, r3⟩ := e4.pop
    exact ⟨rfl, k _ _ (.dat (.obj C fs)) _ _ ((s1.trans s).trans s2) ⟨_, e3, r3⟩ q⟩
  · exact q1.elim
theorem d_make (M : Mk X.K C f) (F : FnOk X.prog X.w X.K X.mg X.base CX kk f fd ps (toSp X.K n S)) (hr : Room (kk + 1) X.A) (hg : Gl X x) (hm : X.mg x = some (.ref C)) (hb : Binds X.K fd ps []) (hx : Passes CX X E)
    (ha : PA X (e :: es) (liftA X.K np u)) (hdb : (x == ("__debug__" : Str)) = false := by decide) (he : starEach (e :: es) X.env = (false, eval e X.env) :: starEach es X.env := by rfl) (hpl : (backTo pos (starEach es X.env)).any (·.1) = false := by rfl) :
    PE X (.Call (.Name x p) (e :: es) [] pos) (lift X.K np (dMake np C n S u)) :=
  (pe_make M F hr hg hm hb .nil hx ha hdb he hpl).mo fun σ H Q h => make_ok σ H Q h
/-- o.m() -/
theorem d_ometh0 {pl : Sem Bool} {o : Expr} {m : Str} {apos : Pos} {t : DTE} (he : PE X o (lift X.K np t)) (c : Cls X.K C) (hm : Meth X.K C m f) (F : FnOk X.prog X.w X.K X.mg X.base CX kk f fd ps (toSp X.K n S)) (hr : Room kk X.A) (hb : Binds X.K fd ps []) (hx : Passes CX X E)
    (ht : eval (.Call (.Attribute o m apos) [] [] pos) X.env = (do
      let ov ← eval o X.env
      standAt apos.atName
      let (f, first) ← holding [ov] (getMethod ov m pl)
      callWith pos f first (backTo pos (starEach [] X.env)) (backToKw pos (keywordEach [] X.env))) := by rfl) :
    PE X (.Call (.Attribute o m apos) [] [] pos) (lift X.K np (dMth C m n S t dNil)) :=
  (pe_meth0 (pl := pl) he c hm F hr hb .nil hx ht).mo fun σ H Q h => by
    have h1 := mth_ok (E := E) σ H Q h
    obtain ⟨B, G, ρ, Qd, hn, eo, h, k⟩ := h1
    refine ⟨B, G, ρ, Qd, hn, eo, h, fun G' v r ρ' H' s f q => ?_⟩
    obtain ⟨a, dx, fs, e1, e2, e3, q⟩ := k _ _ _ _ _ s f q
    refine ⟨a, dx, fs, e1, e2, e3, ?_⟩
    obtain ⟨B, G, ρ, Qd, hn, eo, h, k⟩ := q
    exact k _ _ _ _ _ (.refl _) eo .nil h
end
end TL

/-! TL16: the other source of draws. -/
namespace TL
open PySem PySem.Spec PyProof.Rows L2

def sgK (L C : Addr) (r t : Int) : List (Key × V) := [(Sum.inr "great", .ref L), (Sum.inr "cells", .ref C), (Sum.inr "rest", .int r), (Sum.inr "turn", .int t)]
theorem gLC : ¬ (Sum.inr ("great" : Str) : Key) = Sum.inr ("cells" : Str) := by decide +kernel
theorem gLR : ¬ (Sum.inr ("great" : Str) : Key) = Sum.inr ("rest" : Str) := by decide +kernel
theorem gLT : ¬ (Sum.inr ("great" : Str) : Key) = Sum.inr ("turn" : Str) := by decide +kernel
theorem gCR : ¬ (Sum.inr ("cells" : Str) : Key) = Sum.inr ("rest" : Str) := by decide +kernel
theorem gCT : ¬ (Sum.inr ("cells" : Str) : Key) = Sum.inr ("turn" : Str) := by decide +kernel
theorem gRT : ¬ (Sum.inr ("rest" : Str) : Key) = Sum.inr ("turn" : Str) := by decide +kernel
section
variable {L C : Addr} {r t z : Int}
theorem sgK_large : valV (sgK L C r t) (Sum.inr "great") = some (.ref L) := valV_pos rfl
theorem sgK_cells : valV (sgK L C r t) (Sum.inr "cells") = some (.ref C) := (valV_neg gLC).trans (valV_pos rfl)
theorem sgK_rest : valV (sgK L C r t) (Sum.inr "rest") = some (.int r) := (valV_neg gLR).trans ((valV_neg gCR).trans (valV_pos rfl))
theorem sgK_turn : valV (sgK L C r t) (Sum.inr "turn") = some (.int t) := (valV_neg gLT).trans ((valV_neg gCT).trans ((valV_neg gRT).trans (valV_pos rfl)))
theorem sgK_setRest : putK (sgK L C r t) (Sum.inr "rest") (.int z) = sgK L C z t := by
  unfold putK
  rw [if_pos (by rw [valV_any, sgK_rest]; rfl)]
  unfold sgK
  simp only [List.map_cons, List.map_nil, if_neg gLR, if_neg gCR, if_pos, if_neg (fun h => gRT (Eq.symm h))]
theorem sgK_setTurn : putK (sgK L C r t) (Sum.inr "turn") (.int z) = sgK L C r z := by
  unfold putK
  rw [if_pos (by rw [valV_any, sgK_turn]; rfl)]
  unfold sgK
  simp only [List.map_cons, List.map_nil, if_neg gLT, if_neg gCT, if_neg gRT, if_pos]
theorem putK_newg {kvs : List (Key × V)} {k : Key} {v : V} (h : valV kvs k = none) : putK kvs k v = kvs ++ [(k, v)] := by
  unfold putK
  rw [if_neg (by rw [valV_any, h]; simp)]
theorem sgK_merge : mergeK [] (sgK L C r t) = sgK L C r t := by
  show putK (putK (putK (putK ([] : List (Key × V)) (Sum.inr ("great" : Str)) (V.ref L)) (Sum.inr ("cells" : Str)) (V.ref C)) (Sum.inr ("rest" : Str)) (V.int r)) (Sum.inr ("turn" : Str)) (V.int t) = _
  have e1 : putK ([] : List (Key × V)) (Sum.inr ("great" : Str)) (V.ref L) = ([(Sum.inr ("great" : Str), V.ref L)] : List (Key × V)) := putK_newg valV_nil
  have e2 : putK ([(Sum.inr ("great" : Str), V.ref L)] : List (Key × V)) (Sum.inr ("cells" : Str)) (V.ref C) = [(Sum.inr ("great" : Str), V.ref L), (Sum.inr ("cells" : Str), V.ref C)] := putK_newg ((valV_neg gLC).trans valV_nil)
  have e3 : putK ([(Sum.inr ("great" : Str), V.ref L), (Sum.inr ("cells" : Str), V.ref C)] : List (Key × V)) (Sum.inr ("rest" : Str)) (V.int r) = [(Sum.inr ("great" : Str), V.ref L), (Sum.inr ("cells" : Str), V.ref C), (Sum.inr ("rest" : Str), V.int r)] := putK_newg ((valV_neg gLR).trans ((valV_neg gCR).trans valV_nil))
  rw [e1, e2, e3]
  exact putK_newg ((valV_neg gLT).trans ((valV_neg gCT).trans ((valV_neg gRT).trans valV_nil)))
end

section
variable {K : PySem.W.Frag} {B : Bs} {G : Hp} {ω : Own} {ρ : Env} {σ : Stt} {H : Hp} {i b : Nat} {Lg Cs : List Int} {r t : Int}
/-- the slot that holds the source -/
theorem EnvW.sg (e : EnvW K B G ω ρ σ H) (h : ρ[i]? = some (.rs (.sgx Lg Cs r t b))) : ∃ S L C, σ[i]? = some (some (.ref S)) ∧ ω S = some i ∧ ω L = some i ∧ H S = some (.dK (sgK L C r t)) ∧ H L = some (.lst (Lg.map V.int)) ∧ G C = some (.lst (Cs.map V.int)) ∧
    Lg.length ≤ 63 ∧ Cs.length ≤ 63 ∧ 0 ≤ t ∧ t + b ≤ 1000000000000 := by
  obtain ⟨v, e1, S, L, C, rfl, f1, f2, h1, h2, h3, h4⟩ := e.slot i _ h
  exact ⟨S, L, C, e1, f1, f2, h1, h2, h3, h4⟩
theorem EnvW.sgSet (e : EnvW K B G ω ρ σ H) (h : ρ[i]? = some (.rs (.sgx Lg Cs r t b))) {r' t' : Int} {b' : Nat} (ht : 0 ≤ t' ∧ t' + b' ≤ 1000000000000) {S L C : Addr} (e1 : σ[i]? = some (some (.ref S))) (h1 : H S = some (.dK (sgK L C r t))) :
    EnvW K B G ω (ρ.set i (.rs (.sgx Lg Cs r' t' b'))) σ (upd H S (.dK (sgK L C r' t'))) := by
  obtain ⟨S', L', C', e1', f1, f2, h1', h2, h3, h4, h5, _⟩ := e.sg h
  rw [e1] at e1'
  cases e1'
  rw [h1] at h1'
  have : L = L' ∧ C = C' := by
    unfold sgK at h1'
    simp at h1'
    exact h1'
  obtain ⟨rfl, rfl⟩ := this
  have ne : L ≠ S := fun z => by subst z; rw [h1] at h2; cases h2
  refine e.mutG h rfl f1 ⟨.ref S, e1, S, L, C, rfl, f1, f2, upd_same, ?_, h3, h4, h5, ht⟩
  rw [upd_ne ne]
  exact h2
theorem EnvW.sgPop {x : Int} (e : EnvW K B G ω ρ σ H) (h : ρ[i]? = some (.rs (.sgx (x :: Lg) Cs r t b))) {S L C : Addr} (e1 : σ[i]? = some (some (.ref S))) (h1 : H S = some (.dK (sgK L C r t))) :
    EnvW K B G ω (ρ.set i (.rs (.sgx Lg Cs r t b))) σ (upd H L (.lst (Lg.map V.int))) := by
  obtain ⟨S', L', C', e1', f1, f2, h1', h2, h3, h4, h5, h6⟩ := e.sg h
  rw [e1] at e1'
  cases e1'
  rw [h1] at h1'
  have : L = L' ∧ C = C' := by
    unfold sgK at h1'
    simp at h1'
    exact h1'
  obtain ⟨rfl, rfl⟩ := this
  have ne : S ≠ L := fun z => by subst z; rw [h1] at h2; cases h2
  refine e.mutG h rfl f2 ⟨.ref S, e1, S, L, C, rfl, f1, f2, ?_, upd_same, h3, ?_, h5, h6⟩
  · rw [upd_ne ne]
    exact h1
  · rw [List.length_cons] at h4
    omega
/-- laid open -/
theorem EnvW.opg (e : EnvW K B G ω ρ σ H) (h : ρ[i]? = some (.rs (.sg b))) : ∃ (Lg Cs : List Int) (r t : Int), Lg.length ≤ 63 ∧ Cs.length ≤ 63 ∧ 0 ≤ t ∧ t + b ≤ 1000000000000 ∧ EnvW K B G ω (ρ.set i (.rs (.sgx Lg Cs r t b))) σ H := by
  obtain ⟨v, e1, lg, cs, r, t, hx⟩ := e.slot i _ h
  have hx0 := hx
  obtain ⟨S, L, C, rfl, f1, f2, h1, h2, h3, h4, h5, h6, h7⟩ := hx
  refine ⟨lg, cs, r, t, h4, h5, h6, h7, ?_⟩
  have := e.mutG (o := .dK (sgK L C r t)) h rfl f1 (s' := .rs (.sgx lg cs r t b)) ⟨.ref S, e1, S, L, C, rfl, f1, f2, upd_same, by rw [upd_ne (fun z => by subst z; rw [h1] at h2; cases h2)]; exact h2, h3, h4, h5, h6, h7⟩
  rwa [show upd H S (.dK (sgK L C r t)) = H from by
    funext a
    by_cases ha : a = S
    · subst ha; rw [upd_same]; exact h1.symm
    · rw [upd_ne ha]] at this
/-- closed -/
theorem EnvW.shug (e : EnvW K B G ω ρ σ H) (h : ρ[i]? = some (.rs (.sgx Lg Cs r t b))) : EnvW K B G ω (ρ.set i (.rs (.sg b))) σ H := by
  obtain ⟨S, L, C, e1, f1, f2, h1, h2, h3, h4, h5, h6, h7⟩ := e.sg h
  have := e.mutG (o := .dK (sgK L C r t)) h rfl f1 (s' := .rs (.sg b)) ⟨.ref S, e1, Lg, Cs, r, t, S, L, C, rfl, f1, f2, upd_same, by rw [upd_ne (fun z => by subst z; rw [h1] at h2; cases h2)]; exact h2, h3, h4, h5, h6, h7⟩
  rwa [show upd H S (.dK (sgK L C r t)) = H from by
    funext a
    by_cases ha : a = S
    · subst ha; rw [upd_same]; exact h1.symm
    · rw [upd_ne ha]] at this
end
def WG (o : Option Sl) (P : List Int → List Int → Int → Int → Nat → Prop) : Prop := match o with
  | some (.rs (.sgx L C r t b)) => P L C r t b
  | _ => False
theorem WG.of {o : Option Sl} {P : List Int → List Int → Int → Int → Nat → Prop} (h : WG o P) : ∃ L C r t b, o = some (.rs (.sgx L C r t b)) ∧ P L C r t b := by
  unfold WG at h
  split at h
  · exact ⟨_, _, _, _, _, rfl, h⟩
  · exact h.elim
def shug1 (i : Nat) (P : Env → Prop) : Env → Prop := fun ρ => WG ρ[i]? fun _ _ _ _ b => P (ρ.set i (.rs (.sg b)))
def dDrawG (i : Nat) (u : DTS) : DTS := fun D ρ => ∃ b, ρ[i]? = some (.rs (.sg b)) ∧ ∀ (L C : List Int) (r t : Int), L.length ≤ 63 → C.length ≤ 63 → 0 ≤ t → t + b ≤ 1000000000000 →
  u { nx := shug1 i D.nx, rt := fun x => match x with | .dat d => shug1 i (D.rt (.dat d)) | _ => fun _ => False, bk := shug1 i D.bk, ct := shug1 i D.ct } (ρ.set i (.rs (.sgx L C r t b)))
def dSgRest (i : Nat) : DTE := fun ρ Q => WG ρ[i]? fun _ _ r _ _ => Q (.dat (.int r)) ρ
def dSgTurn (i : Nat) : DTE := fun ρ Q => WG ρ[i]? fun _ _ _ t _ => Q (.dat (.int t)) ρ
def dSgCells (i : Nat) : DTE := fun ρ Q => WG ρ[i]? fun _ C _ _ _ => Q (.dat (.lst (C.map .int))) ρ
def dSgAny (i : Nat) : DTT := fun ρ Q => WG ρ[i]? fun L _ _ _ _ => Q (!L.isEmpty) ρ
def dSgPop (i : Nat) : DTE := fun ρ Q => WG ρ[i]? fun L C r t b => match L with
  | x :: L' => Q (.dat (.int x)) (ρ.set i (.rs (.sgx L' C r t b)))
  | [] => False
def dSgSetRest (i : Nat) (te : DTE) : DTS := fun D ρ => te ρ fun x ρ1 => match x with
  | .dat (.int z) => WG ρ1[i]? fun L C _ t b => D.nx (ρ1.set i (.rs (.sgx L C z t b)))
  | _ => False
/-- a turn is counted: the budget goes down -/
def dSgSetTurn (i : Nat) (te : DTE) : DTS := fun D ρ => te ρ fun x ρ1 => match x with
  | .dat (.int z) => WG ρ1[i]? fun L C r t b => ∃ b', z = t + 1 ∧ b = b' + 1 ∧ D.nx (ρ1.set i (.rs (.sgx L C r z b')))
  | _ => False
section
variable {X : Cx} {np : Nat} {x : Str} {p p2 pos : Pos} {j : Option Str} {te : DTE} {e : Expr} {st : Stmt} {sts : List Stmt} {u : DTS}
theorem sgN {i : Expr} {x j pos} (h : i = .Constant (.str x) j pos) : NoSl i := by subst h; intro o iv; rfl
theorem sg_key (i : Nat) {key : Str} {f : List Int → List Int → Int → Int → V} {d : List Int → List Int → Int → Int → D} (hu : X.A.units + 1 < cLine) (hN : X.N[i]? = some x) (hv : Vis X.env.scope x) (hd : (x == ("__debug__" : Str)) = false) (hcd : (x == ("__classdict__" : Str)) = false)
    {kk} (hk : ∀ (Lg Cs : List Int) (r t : Int) (L C : Addr), ∃ v, valV (sgK L C r t) (Sum.inr key) = some v ∧ ∀ (G : Hp), G C = some (.lst (Cs.map V.int)) → Rp X.K G v (d Lg Cs r t)) :
    PE X (.Subscript (.Name x p) (.Constant (.str key) kk p2) pos) (lift X.K np fun ρ Q => WG ρ[i]? fun L C r t _ => Q (.dat (d L C r t)) ρ) := by
  refine (pe_dget hu (pe_var (i := i) hN hv hd hcd) pe_str (sgN rfl)).mo fun σ H Q h => ?_
  obtain ⟨B, G, ρ, Qd, hn, ⟨ω, ew⟩, h, k⟩ := h
  obtain ⟨Lg, Cs, r, t, b, hx, h⟩ := WG.of h
  obtain ⟨S, L, C, e1, f1, f2, h1, h2, h3, _⟩ := ew.sg hx
  obtain ⟨v, hv, rv⟩ := hk Lg Cs r t L C
  refine ⟨.ref S, e1, S, v, rfl, ?_, k _ _ _ _ _ (.refl _) (ew.dat (rv G h3)) h⟩
  have := DGet.k (k := Sum.inr key) h1
  rwa [hv] at this
theorem d_sgRest (i : Nat) {kk} (hu : X.A.units + 1 < cLine) (hN : X.N[i]? = some x := by rfl) (hv : Vis X.env.scope x := by first | exact Or.inl rfl | exact Or.inr (Or.inl rfl) | exact Or.inr (Or.inr rfl)) (hd : (x == ("__debug__" : Str)) = false := by decide) (hcd : (x == ("__classdict__" : Str)) = false := by decide) :
    PE X (.Subscript (.Name x p) (.Constant (.str "rest") kk p2) pos) (lift X.K np (dSgRest i)) :=
  sg_key i (f := fun _ _ r _ => .int r) (d := fun _ _ r _ => .int r) hu hN hv hd hcd fun Lg Cs r t L C => ⟨_, sgK_rest, fun G _ => .int r⟩
theorem d_sgTurn (i : Nat) {kk} (hu : X.A.units + 1 < cLine) (hN : X.N[i]? = some x := by rfl) (hv : Vis X.env.scope x := by first | exact Or.inl rfl | exact Or.inr (Or.inl rfl) | exact Or.inr (Or.inr rfl)) (hd : (x == ("__debug__" : Str)) = false := by decide) (hcd : (x == ("__classdict__" : Str)) = false := by decide) :
    PE X (.Subscript (.Name x p) (.Constant (.str "turn") kk p2) pos) (lift X.K np (dSgTurn i)) :=
  sg_key i (f := fun _ _ _ t => .int t) (d := fun _ _ _ t => .int t) hu hN hv hd hcd fun Lg Cs r t L C => ⟨_, sgK_turn, fun G _ => .int t⟩
theorem d_sgCells (i : Nat) {kk} (hu : X.A.units + 1 < cLine) (hN : X.N[i]? = some x := by rfl) (hv : Vis X.env.scope x := by first | exact Or.inl rfl | exact Or.inr (Or.inl rfl) | exact Or.inr (Or.inr rfl)) (hd : (x == ("__debug__" : Str)) = false := by decide) (hcd : (x == ("__classdict__" : Str)) = false := by decide) :
    PE X (.Subscript (.Name x p) (.Constant (.str "cells") kk p2) pos) (lift X.K np (dSgCells i)) :=
  sg_key i (f := fun _ _ _ t => .int t) (d := fun _ C _ _ => .lst (C.map .int)) hu hN hv hd hcd fun Lg Cs r t L C => ⟨_, sgK_cells, fun G g => .lst g (RpL.ints Cs)⟩
/-- st["great"] != [] -/
theorem d_sgAny (i : Nat) {kk p3 p4} (hu : X.A.units + 1 < cLine) (hN : X.N[i]? = some x := by rfl) (hv : Vis X.env.scope x := by first | exact Or.inl rfl | exact Or.inr (Or.inl rfl) | exact Or.inr (Or.inr rfl)) (hd : (x == ("__debug__" : Str)) = false := by decide) (hcd : (x == ("__classdict__" : Str)) = false := by decide) :
    PT X (.Compare (.Subscript (.Name x p) (.Constant (.str "great") kk p2) p3) [.NotEq] [.List [] p4] pos) (liftT X.K np (dSgAny i)) := by
  refine (pt_cmpR (op_neE (by omega)) (pe_dget hu (pe_var (i := i) hN hv hd hcd) pe_str (sgN rfl)) (pe_lst pa_nil) (nomark _)).mo fun σ H Q h => ?_
  obtain ⟨B, G, ρ, Qd, hn, ⟨ω, ew⟩, h, k⟩ := h
  obtain ⟨Lg, Cs, r, t, b, hx, h⟩ := WG.of h
  obtain ⟨S, L, C, e1, f1, f2, h1, h2, h3, _⟩ := ew.sg hx
  have g := DGet.k (k := Sum.inr "great") h1
  rw [sgK_large] at g
  refine ⟨.ref S, e1, S, .ref L, rfl, g, Nat.zero_le _, fun q hq => ?_⟩
  have ew2 := ew.newW (o := .lst []) hq
  have ne : L ≠ q := ne_of_none h2 hq
  refine ⟨L, q, rfl, rfl, .inr ⟨Lg.map V.int, .of (by rw [upd_ne ne]; exact h2), .of upd_same, _, rfl, ?_⟩⟩
  have := k G _ ρ _ (.refl _) ⟨_, ew2⟩ h
  cases Lg <;> exact this
/-- st["great"].pop(0) -/
theorem d_sgPop (i : Nat) {kk k2 apos cpos p3 p4} (hu : X.A.units + 1 < cLine) (hN : X.N[i]? = some x := by rfl) (hv : Vis X.env.scope x := by first | exact Or.inl rfl | exact Or.inr (Or.inl rfl) | exact Or.inr (Or.inr rfl)) (hd : (x == ("__debug__" : Str)) = false := by decide) (hcd : (x == ("__classdict__" : Str)) = false := by decide)
    (hbase : attributeBase (.Subscript (.Name x p) (.Constant (.str "great") kk p2) p3) "pop" X.env (eval (.Subscript (.Name x p) (.Constant (.str "great") kk p2) p3) X.env) = eval (.Subscript (.Name x p) (.Constant (.str "great") kk p2) p3) X.env := by rfl)
    (hfew : ((backTo cpos (starEach [.Constant (.int 0) k2 p4] X.env)).all (fun x => !x.1) && (backToKw cpos (keywordEach [] X.env)).all (fun x => x.1.isSome)
      && decide (([.Constant (.int 0) k2 p4] : List Expr).length + ([] : List Keyword).length + (if ([] : List Keyword).isEmpty then 0 else 1) < 30)) = true := by rfl)
    (hline : (apos.endLine == cpos.line) = true := by rfl) (hs : starEach [.Constant (.int 0) k2 p4] X.env = (false, eval (.Constant (.int 0) k2 p4) X.env) :: starEach [] X.env := by rfl) (hplain : (backTo cpos (starEach [] X.env)).any (·.1) = false := by rfl) :
    PE X (.Call (.Attribute (.Subscript (.Name x p) (.Constant (.str "great") kk p2) p3) "pop" apos) [.Constant (.int 0) k2 p4] [] cpos) (lift X.K np (dSgPop i)) := by
  refine (pe_bm PySem.F.plainAttrs_list PySem.F.slot_list_pop PySem.F.type_list_pop mt_popAt (pe_dget hu (pe_var (i := i) hN hv hd hcd) pe_str (sgN rfl)) (pa_cons pe_int pa_nil hs) hbase hfew hline hs hplain).mo fun σ H Q h => ?_
  obtain ⟨B, G, ρ, Qd, hn, ⟨ω, ew⟩, h, k⟩ := h
  obtain ⟨Lg, Cs, r, t, b, hx, h⟩ := WG.of h
  obtain ⟨S, L, C, e1, f1, f2, h1, h2, h3, _⟩ := ew.sg hx
  have g := DGet.k (k := Sum.inr "great") h1
  rw [sgK_large] at g
  cases Lg with
  | nil => exact h.elim
  | cons y Lg =>
    refine ⟨.ref S, e1, S, .ref L, rfl, g, .inl ⟨rfl, _, .of h2⟩, L, _, 0, 0, .int y, rfl, rfl, h2, by decide, by decide, ?_, rfl, ?_⟩
    · rw [List.length_map, List.length_cons]
      exact (seqIndex_of (by decide) (by omega)).trans rfl
    · exact k _ _ _ _ _ (.refl _) ((ew.sgPop hx e1 h1).dat (.int y)) h
theorem ds_sgRest (i : Nat) {kk} (hu : X.A.units + 1 < cLine) (he : PE X e (lift X.K np te)) (hs : swapsWith e (some (.Subscript (.Name x p) (.Constant (.str "rest") kk p2) pos)) pos'.line X.env = pure false := by rfl) (hN : X.N[i]? = some x := by rfl) (hv : Vis X.env.scope x := by first | exact Or.inl rfl | exact Or.inr (Or.inl rfl) | exact Or.inr (Or.inr rfl)) (hd : (x == ("__debug__" : Str)) = false := by decide) (hcd : (x == ("__classdict__" : Str)) = false := by decide) :
    PS X (.Assign [.Subscript (.Name x p) (.Constant (.str "rest") kk p2) pos] e pos') (liftS X.K np (dSgSetRest i te)) := by
  refine (ps_dput hu (pe_var (i := i) hN hv hd hcd) pe_str he hs).mo fun D σ H h => ?_
  obtain ⟨B, G, ρ, Dd, hn, eo, h, k1, k2, k3, k4⟩ := h
  refine ⟨B, G, ρ, _, hn, eo, h, fun G1 v r ρ1 H1 s1 f1 q1 => ?_⟩
  obtain ⟨ω, ew, rv⟩ := f1
  split at q1
  · rename_i z
    obtain ⟨Lg, Cs, r, t, b, hx, h⟩ := WG.of q1
    obtain ⟨S, L, C, e1, f1, f2, h1, h2, h3, _, _, h6⟩ := ew.sg hx
    cases rv
    refine ⟨.ref S, e1, S, _, rfl, DPut.k (k := Sum.inr "rest") h1 (by show 4 < _; decide), ?_⟩
    rw [sgK_setRest]
    exact k1 _ _ _ _ s1 ⟨_, ew.sgSet hx h6 e1 h1⟩ h
  · exact q1.elim
theorem ds_sgTurn (i : Nat) {kk} (hu : X.A.units + 1 < cLine) (he : PE X e (lift X.K np te)) (hs : swapsWith e (some (.Subscript (.Name x p) (.Constant (.str "turn") kk p2) pos)) pos'.line X.env = pure false := by rfl) (hN : X.N[i]? = some x := by rfl) (hv : Vis X.env.scope x := by first | exact Or.inl rfl | exact Or.inr (Or.inl rfl) | exact Or.inr (Or.inr rfl)) (hd : (x == ("__debug__" : Str)) = false := by decide) (hcd : (x == ("__classdict__" : Str)) = false := by decide) :
    PS X (.Assign [.Subscript (.Name x p) (.Constant (.str "turn") kk p2) pos] e pos') (liftS X.K np (dSgSetTurn i te)) := by
  refine (ps_dput hu (pe_var (i := i) hN hv hd hcd) pe_str he hs).mo fun D σ H h => ?_
  obtain ⟨B, G, ρ, Dd, hn, eo, h, k1, k2, k3, k4⟩ := h
  refine ⟨B, G, ρ, _, hn, eo, h, fun G1 v r ρ1 H1 s1 f1 q1 => ?_⟩
  obtain ⟨ω, ew, rv⟩ := f1
  split at q1
  · rename_i z
    obtain ⟨Lg, Cs, r, t, b, hx, b', rfl, rfl, h⟩ := WG.of q1
    obtain ⟨S, L, C, e1, f1, f2, h1, h2, h3, _, _, h6, h7⟩ := ew.sg hx
    cases rv
    refine ⟨.ref S, e1, S, _, rfl, DPut.k (k := Sum.inr "turn") h1 (by show 4 < _; decide), ?_⟩
    rw [sgK_setTurn]
    exact k1 _ _ _ _ s1 ⟨_, ew.sgSet hx (by omega) e1 h1⟩ h
  · exact q1.elim
theorem shug_ok {K : PySem.W.Frag} {B : Bs} {G : Hp} {i : Nat} {ρ : Env} {σ : Stt} {H : Hp} {P : Env → Prop} (eo : EnvOk K B G ρ σ H) (h : shug1 i P ρ) : ∃ ρ', EnvOk K B G ρ' σ H ∧ P ρ' := by
  obtain ⟨ω, e⟩ := eo
  obtain ⟨Lg, Cs, r, t, b, hx, h⟩ := WG.of h
  exact ⟨_, ⟨ω, e.shug hx⟩, h⟩
theorem ds_drawG (i : Nat) (h : PSs X sts (liftS X.K np u)) : PSs X sts (liftS X.K np (dDrawG i u)) := by
  refine h.mo fun D σ H h => ?_
  obtain ⟨B, G, ρ, Dd, hn, ⟨ω, ew⟩, ⟨b, hb, h⟩, k1, k2, k3, k4⟩ := h
  obtain ⟨Lg, Cs, r, t, l1, l2, l3, l4, e2⟩ := ew.opg hb
  refine ⟨B, G, _, _, hn, ⟨ω, e2⟩, h Lg Cs r t l1 l2 l3 l4, fun G' ρ' σ' H' s e q => ?_, fun G' v r ρ' σ' H' s f q => ?_, fun G' ρ' σ' H' s e q => ?_, fun G' ρ' σ' H' s e q => ?_⟩
  · obtain ⟨ρ2, e2, q2⟩ := shug_ok e q
    exact k1 _ _ _ _ s e2 q2
  · obtain ⟨ω', e', rr⟩ := f
    cases r with
    | dat d =>
      obtain ⟨Lg, Cs, r, t, b, hx, h⟩ := WG.of q
      exact k2 _ _ (.dat d) _ _ _ s ⟨ω', e'.shug hx, rr⟩ h
    | sl i => exact q.elim
    | nw i => exact q.elim
  · obtain ⟨ρ2, e2, q2⟩ := shug_ok e q
    exact k3 _ _ _ _ s e2 q2
  · obtain ⟨ρ2, e2, q2⟩ := shug_ok e q
    exact k4 _ _ _ _ s e2 q2
end
end TL

/-! TL17: sorted of a tuple of texts; abs; the other source of draws is made. -/
namespace TL
open PySem PySem.Spec PyProof.Rows L2

section
variable {X : Cx}
/-- sorted(t), a tuple of fewer than 64 texts -/
def rSortedTu (K : PySem.W.Frag) : List V → Hp → VK → Prop := fun vs H Q => ∃ (a : Addr) (xs : List Str), vs = [V.ref a] ∧ SqT K H a (xs.map V.str) ∧ xs.length < 64 ∧
  ∀ (ys : List Str) (p : Addr), ys.Perm xs → sortedS ys = true → H p = none → Q (.ref p) (upd H p (.lst (ys.map V.str)))
theorem cr_sortedTu : CallR X (.builtin "sorted") (rSortedTu X.K) := by
  intro pins s σ H vs us Q I r h
  obtain ⟨a, xs, rfl, hs, h64, q⟩ := h
  obtain ⟨its, rv, p, _⟩ := I.tuple hs
  have p : s.heap.IsTuple a its.toArray := p
  rw [Vals.ref1 r]
  have hS := rv.strs
  have hal : its.length = xs.length := by have := rv.length; rw [List.length_map] at this; exact this.symm
  obtain ⟨o, ho, hc, n, hd⟩ := p
  refine Calls.call_function_entry PyProof.Rows.kind_sorted PyProof.Rows.plain_sorted PyProof.Rows.entry_sorted (PyProof.Rows.args_sorted1 _) ?_
  unfold Builtin.«sorted»
  refine wpAny_bind (m := checkCount "sorted" 1 1 _) (wpAny_pure ?_)
  refine wpAny_bind (wpAny_collect_seq a (.inr rfl) ho hc hd (fun h' hk => ?_) (by rw [List.size_toArray, hal, sizeLine_eq]; omega))
  have I1 : Inv X pins σ H { s with heap := h' } := I.kept (t' := s.toks) hk
  refine wpAny_bind (wpAny_newList ?_ (by show its.length ≤ _; rw [hal, sizeLine_eq]; omega))
  have hoL : (h'.push (seqObj "list" its.toArray 0)).get? h'.objs.size = some (seqObj "list" its.toArray 0) := Heap.get?_push_size _ rfl
  show wpAny _ _ _ _ _ { s with heap := h'.push (seqObj "list" its.toArray 0) }
  refine wpAny_bind (wpAny_holding (wpAny_call_entry PyProof.Rows.slot_list_sort ⟨_, hoL, rfl⟩ PyProof.Rows.entry_list_sort
    (list_sort_treeK strKind_oneLt (s := { s with heap := h'.push (seqObj "list" its.toArray 0) }) hoL hS.keysOf (fun v₁ v₂ rest e => keyKind_strs (by rw [← e]; exact hS)) (by rw [hal]; exact h64) fun st' hp hs => ⟨_, rfl, ?_⟩)
    (PyProof.Rows.args_list_sort _)))
  obtain ⟨ys, g1, g2, g3⟩ := sorted_out_str hS hp hs
  obtain ⟨e', he'⟩ := PyProof.Rows.sortedHeap_at (vs := its) (out := (arrOf st').map (·.2)) hoL
  have hlen : (ys.map V.str).length ≤ sizeLine := by
    rw [List.length_map, g2.length_eq]
    exact Nat.le_trans (Nat.le_of_lt h64) (by decide)
  refine wpAny_pure ⟨_, rfl, .ref h'.objs.size, upd H h'.objs.size (.lst (ys.map V.str)), I1.laid (t' := s.toks) (fun b u e => ?_) (Nat.le_refl _)
    (show ObjOk X.prog X.w _ _ _ (.lst (ys.map V.str)) from ⟨hlen, ((arrOf st').map (·.2)).toList, e', vals_of_strs g1, by rw [Array.toArray_toList]; exact he'⟩), rfl, q ys _ g2 g3 (I1.hok.fresh (Nat.le_refl _))⟩
  have hb : b < h'.objs.size := Heap.lt_size e
  rw [PyProof.Rows.sortedHeap_old (Nat.ne_of_lt hb) (by rw [size_push']; exact Nat.lt_succ_of_lt hb)]
  exact Heap.get?_push_of_some _ e
theorem CallR_or {f : Value} {r r' : List V → Hp → VK → Prop} (h : CallR X f r) (h' : CallR X f r') : CallR X f (fun xs H Q => r xs H Q ∨ r' xs H Q) := by
  intro pins s σ H vs us Q I rr q
  rcases q with q | q
  · exact h pins s σ H vs us Q I rr q
  · exact h' pins s σ H vs us Q I rr q
def rSorted2 (K : PySem.W.Frag) : List V → Hp → VK → Prop := fun xs H Q => rSortedS K xs H Q ∨ rSortedTu K xs H Q
theorem cr_sorted2 : CallR X (.builtin "sorted") (rSorted2 X.K) := CallR_or cr_sortedS cr_sortedTu
def gSorted2 : DOpL := fun xs P => match xs with
  | [.lst ys] => (match txs ys with | some bs => bs.length < 64 ∧ ∀ cs : List Str, cs.Perm bs → sortedS cs = true → P (.nw (.ls (cs.map .str))) | none => False)
  | [.tup ys] => (match txs ys with | some bs => bs.length < 64 ∧ ∀ cs : List Str, cs.Perm bs → sortedS cs = true → P (.nw (.ls (cs.map .str))) | none => False)
  | _ => False
theorem c_sorted2 (K : PySem.W.Frag) : CL K (rSorted2 K) gSorted2 := by
  intro B G ω ρ σ H vs xs P Q e r g k
  unfold gSorted2 at g
  split at g
  · rename_i ys
    split at g
    · rename_i bs eb
      obtain ⟨v, rfl, rv⟩ := r.one
      obtain ⟨a, ws, rfl, h, rr⟩ := rv.lst e.gle
      cases txs_eq eb
      cases rr.strs_eq
      exact .inl ⟨a, bs, rfl, .of h, g.1, fun cs p h1 h2 hp => k _ _ _ _ (.refl _) (e.newL hp (RpL.strs cs)) (g.2 cs h1 h2)⟩
    · exact g.elim
  · rename_i ys
    split at g
    · rename_i bs eb
      obtain ⟨v, rfl, rv⟩ := r.one
      obtain ⟨a, ws, rfl, h, rr⟩ := rv.tup
      cases txs_eq eb
      cases rr.strs_eq
      exact .inr ⟨a, bs, rfl, seqT e.gle h, g.1, fun cs p h1 h2 hp => k _ _ _ _ (.refl _) (e.newL hp (RpL.strs cs)) (g.2 cs h1 h2)⟩
    · exact g.elim
  · exact g.elim
def gAbs : DOpL := fun xs P => match xs with
  | [.int i] => P (.dat (.int (if i < 0 then -i else i)))
  | _ => False
theorem c_abs (K : PySem.W.Frag) : CL K (fun xs H Q => ∃ i, xs = [.int i] ∧ Q (.int (if i < 0 then -i else i)) H) gAbs := by
  intro B G ω ρ σ H vs xs P Q e r g k
  unfold gAbs at g
  split at g
  · obtain ⟨v, rfl, rv⟩ := r.one
    rw [rv.int]
    exact ⟨_, rfl, k _ _ _ _ (.refl _) (e.dat (.int _)) g⟩
  · exact g.elim
theorem bt_abs : bootBuiltins "abs" = some (.builtin "abs") := by decide +kernel
end

/-! ### {"great": [..], "cells": name, "rest": 0, "turn": 0} -/
def dSgNew (t : DTE) (j : Nat) : DTE := fun ρ Q => t ρ fun r ρ1 => match r, ρ1[j]? with
  | .nw (.ls xs), some (.fr (.lst ys)) => ∃ Lg Cs : List Int, xs = Lg.map .int ∧ ys = Cs.map .int ∧ Lg.length ≤ 63 ∧ Cs.length ≤ 63 ∧ Q (.nw (.rs (.sg 1000000000000))) ρ1
  | _, _ => False
def addT (ω : Own) (p : Addr) (i : Nat) : Own := fun a => if a = p then some i else ω a
section
variable {X : Cx} {np : Nat} {y : Str} {p0 p1 p3 p5 p6 p8 p9 pos : Pos} {k1 k2 k3 k4 k5 k6 : Nat} {e : Expr} {te : DTE}
theorem d_sgNew (j : Nat) (he : PE X e (lift X.K np te)) (hN2 : X.N[j]? = some y := by rfl)
    (hv2 : Vis X.env.scope y := by first | exact Or.inl rfl | exact Or.inr (Or.inl rfl) | exact Or.inr (Or.inr rfl)) (hd2 : (y == ("__debug__" : Str)) = false := by decide) (hcd2 : (y == ("__classdict__" : Str)) = false := by decide) :
    PE X (.Dict [some (.Constant (.str "great") k1 p0), some (.Constant (.str "cells") k2 p1), some (.Constant (.str "rest") k3 p5), some (.Constant (.str "turn") k4 p6)]
      [e, .Name y p3, .Constant (.int 0) k5 p8, .Constant (.int 0) k6 p9] pos) (lift X.K np (dSgNew te j)) := by
  refine (pe_disp (pps_cons pe_str he (pps_cons pe_str (pe_var (i := j) hN2 hv2 hd2 hcd2) (pps_cons pe_str pe_int (pps_cons pe_str pe_int pps_nil)))) rfl rfl (by simp) (Nat.le_of_ble_eq_true rfl)).mo fun σ H Q h => ?_
  obtain ⟨B, G, ρ, Qd, hn, ⟨ω, ew⟩, h, k⟩ := h
  intro p hp
  have d0 : B.A0 p ∨ B.H0 p = none := ew.gone hp
  have hg : G p = none := Same.none ew.gle hp
  have hw : ω p = none := by
    cases q : ω p with
    | none => rfl
    | some i => exact absurd hp (ew.own p i q).2.1
  have e1 := ew.poke (o := .dK []) hw hg d0
  refine ⟨reB B G ω ρ.length (upd H p (.dK [])), G, ρ, _, hn, ⟨_, e1.rebase⟩, h, fun G1 v r ρ1 H1 s1 f1 q1 => ?_⟩
  obtain ⟨ω1, f1, rr⟩ := f1
  obtain ⟨z1, z2, z3⟩ := f1.still upd_same hw hg
  split at q1
  · rename_i xs ys hj
    obtain ⟨Lg, Cs, rfl, rfl, l1, l2, q1⟩ := q1
    obtain ⟨_, L, ws, ev, fL, hL, rL⟩ := rr
    cases ev
    obtain rfl := rL.ints_eq
    obtain ⟨vC, eC, rC⟩ := f1.slot j _ hj
    cases rC with
    | lst hC rCs =>
      rename_i C cs
      obtain rfl := rCs.ints_eq
      have fb := e1.back f1
      refine ⟨.ref C, eC, z1, sgK L C 0 0, rfl, by show 4 ≤ 15; decide, ?_⟩
      rw [sgK_merge]
      have nLp : L ≠ p := fun w => by subst w; rw [z2] at fL; cases fL
      have fp := fb.poke (o := .dK (sgK L C 0 0)) z2 z3 d0
      refine k _ _ (.nw (.rs (.sg 1000000000000))) _ _ s1 ⟨addT ω1 p σ.length, ⟨fp.gle, fp.g0, fp.keep, fun a i q => ?_, fp.len, fun i s q => ?_, fp.pin⟩, rfl, .ref p, rfl, Lg, Cs, 0, 0, p, L, C, rfl, if_pos rfl, ?_, upd_same, ?_, hC, l1, l2, by decide, by decide⟩ q1
      · unfold addT at q
        split at q
        · rename_i ha
          subst ha
          cases q
          exact ⟨z3, by rw [upd_same]; simp, d0⟩
        · exact fp.own a i q
      · refine (fp.slot i s q).mono (.refl _) fun a z => ⟨?_, rfl⟩
        unfold addT
        rw [if_neg (fun w => by subst w; rw [z2] at z; cases z)]
        exact z
      · show addT ω1 p σ.length L = _
        unfold addT
        rw [if_neg nLp]
        exact fL
      · rw [upd_ne nLp]
        exact hL
  · exact q1.elim
end
end TL

/-! TS5: set(a list of texts); len of it. -/
namespace TL
open PySem PySem.Spec PyProof.Rows L2
section
variable {prog : Program} {w : World} {A : Around} {E : Value → Shared → Prop} {s : Shared}
theorem set_of_list {l : Addr} {items : Array Value} {xs : List Str} {Q : Value → Shared → Prop} (calm : A.handled = none) (tup : s.heap.IsList l items) (its : PyProof.Rows.StrsAre items.toList xs) (few : xs.length + 1 < scanBound)
    (k : ∀ (h2 : Heap) (tk : Nat), h2.SetOf (PySem.strKind prog w) s.heap.objs.size (fun k => decide (k ∈ met [] xs)) (distinct xs) → (∀ b o, b < s.heap.objs.size → s.heap.get? b = some o → h2.get? b = some o) → Q (.ref s.heap.objs.size) { s with heap := h2, toks := tk }) :
    wpAny (model prog w) A (call (.type "set") [.ref l]) Q E s := by
  have size_ : xs.length = items.size := by rw [← StrsAre.len_eq its, Array.length_toList]
  obtain ⟨cl, rest, order_⟩ := PySem.F.called_set.mro
  have mk_ := PySem.F.called_set.made
  have sub_ := PySem.F.called_set.sub
  refine wpAny_call (codeAny_of_tree ?_)
  change wpAny _ _ (callAny (.type "set") _) _ _ _
  refine wpAny_pure ⟨Code.quiet_builtin _ (by decide +kernel), codeAny_builtin PySem.F.entry_type_call ?_⟩
  rw [Around.under_plain (weight_type_call_type "set" [.ref l] []) rfl]
  have a1 := PySem.F.called_set.notType
  have a2 := PySem.F.called_set.canCreate
  have a3 := PySem.F.typeCall_set_1 (.ref l)
  repeat any_goals first | assumption | wp_step
  refine codeAny_mono (code_set_new_1 (.ref l) (E := E) (Q₁ := fun new st => ∃ led : Bool, new = .ref s.heap.objs.size ∧ st = { s with heap := s.heap.push (bareSet led) }) fun led => ⟨led, rfl, rfl⟩) fun res st hr => ?_
  match res, hr with
  | .error ex, hr => exact hr
  | .ok .next, hr => exact hr.elim
  | .ok .brk, hr => exact hr.elim
  | .ok .cont, hr => exact hr.elim
  | .ok (.ret new), hr =>
    obtain ⟨led, rfl, rfl⟩ := hr
    have there : (s.heap.push (bareSet led)).get? s.heap.objs.size = some (bareSet led) := Heap.get?_push_size _ rfl
    have type_ : Shared.TypeIs { s with heap := s.heap.push (bareSet led) } (.ref s.heap.objs.size) "set" := ⟨_, there, rfl⟩
    have b1 := PySem.F.called_set.init.lookup
    have b2 := PySem.F.called_set.init.bind (.ref s.heap.objs.size)
    repeat any_goals first | assumption | wp_step
    refine codeAny_mono (codeAny_call_builtin (R := wants (fun r st2 => r = .none ∧ ∃ h2 tk, st2 = { s with heap := h2, toks := tk } ∧ h2.SetOf (PySem.strKind prog w) s.heap.objs.size (fun k => decide (k ∈ met [] xs)) (distinct xs) ∧
      (∀ b o, b < s.heap.objs.size → s.heap.get? b = some o → h2.get? b = some o)) E) PySem.F.called_set.init.plain PySem.F.entry_set_init (check_set_init_1 type_ ?_)) fun res2 st2 hr2 => ?_
    · obtain ⟨⟨ocl, odi, oda, osl⟩, found, c1, nn, c2⟩ := tup
      simp only at c1 c2
      subst c1; subst c2
      have found2 : (s.heap.push (bareSet led)).get? l = some { cls := .type "list", dict := odi, data := .seq items nn, slots := osl } := Heap.get?_push_of_some _ found
      have e1 := PySem.F.sub_list_set
      have e2 := PySem.F.sub_list_frozenset
      have e3 : (Value.type "list" == Value.type "dict") = false := by decide
      have tup2 : (s.heap.push (bareSet led)).IsList l items := ⟨_, found2, rfl, nn, rfl⟩
      unfold Builtin.«set.__init__» noKeywords Builtin.Frozenset.updateFrom
      generalize walked : pyIter = IT
      wp_walk
      subst walked
      refine wpAny_pyIter_list tup2 (wpAny_bind (wpAny_runValue ?_))
      have below : l < s.heap.objs.size := Heap.lt_size found
      have calm3 : A.in1.in1.in1.handled = none := by simp [calm]
      have sizeP : (s.heap.push (bareSet led)).objs.size = s.heap.objs.size + 1 := Heap.size_push _ _
      have apart : l ≠ (s.heap.push (bareSet led)).objs.size := by rw [sizeP]; exact Nat.ne_of_lt (Nat.lt_succ_of_lt below)
      have out_ : s.heap.objs.size ∉ [(s.heap.push (bareSet led)).objs.size, l] := by
        rw [sizeP]
        simp only [List.mem_cons, List.not_mem_nil, or_false, not_or]
        exact ⟨Nat.ne_of_lt (Nat.lt_succ_self _), Nat.ne_of_gt below⟩
      refine fill_loop ((Walks.list calm3 _ l apart items).toS) s.heap.objs.size out_ xs size_ (by rw [← size_]; exact few) (fun i v hv => SS.strs_at its i v (by rw [Array.getElem?_toList]; exact hv)) items.size 0 _ (Nat.zero_add _) ⟨⟨_, Heap.get?_push_size _ rfl, rfl, rfl⟩, (tup2.push _)⟩ ?_ ?_
      · have still : ((s.heap.push (bareSet led)).push { cls := .type "list_iterator", data := .fields #[.ref l, .int 0 0] }).get? s.heap.objs.size = some (bareSet led) := Heap.get?_push_of_some _ there
        exact SetOf_congr ((PyProof.Rows.setObjOf_fresh (knd := PySem.strKind prog w) led).setOf still (by unfold scanBound; omega)) (fun _ => rfl) rfl
      · rintro ⟨h3, g3, d3, t3, o3⟩ hm full
        obtain rfl : g3 = s.gens := hm.gens
        obtain rfl : d3 = s.drawn := hm.drawn
        obtain rfl : o3 = s.os := hm.os
        refine wpAny_pure ?_
        change wpAny _ _ (ret Value.none) _ _ _
        refine wpAny_pure ⟨rfl, h3, t3, rfl, full, fun b o hb y => hm.heap b o ?_ (Heap.get?_push_of_some _ (Heap.get?_push_of_some _ y))⟩
        rw [sizeP]
        simp only [List.mem_cons, List.not_mem_nil, or_false, not_or]
        exact ⟨Nat.ne_of_lt hb, Nat.ne_of_lt (Nat.lt_succ_of_lt hb)⟩
    · match res2, hr2 with
      | .error ex, hr2 => exact hr2
      | .ok .next, hr2 => exact hr2.elim
      | .ok .brk, hr2 => exact hr2.elim
      | .ok .cont, hr2 => exact hr2.elim
      | .ok (.ret r), hr2 =>
        obtain ⟨rfl, h3, t3, rfl, full, keep⟩ := hr2
        repeat any_goals first | assumption | wp_step
        exact k _ _ full keep
end
def dLenSet2 (t : DTE) : DTE := fun ρ Q => t ρ fun r ρ1 => match val ρ1 r with
  | some (.tup ys) => (match txs ys with
    | some xs => xs.length ≤ 4000 ∧ Q (.dat (.int (distinct xs : Nat))) ρ1
    | none => False)
  | some (.lst ys) => (match txs ys with
    | some xs => xs.length ≤ 4000 ∧ Q (.dat (.int (distinct xs : Nat))) ρ1
    | none => False)
  | _ => False
section
variable {X : Cx} {a : Expr} {ta : DTE} {np : Nat} {p1 p2 p3 p4 : Pos}
theorem d_lenSet2 (calm : X.calm = true) (g1 : Gl X "len") (m1 : X.mg "len" = none) (g2 : Gl X "set") (m2 : X.mg "set" = none) (ha : PE X a (lift X.K np ta))
    (na : starEach [a] X.env = (false, eval a X.env) :: starEach [] X.env := by rfl) : PE X (.Call (.Name "len" p1) [.Call (.Name "set" p2) [a] [] p3] [] p4) (lift X.K np (dLenSet2 ta)) := by
  refine ⟨fun pins s σ H Q J h => ?_⟩
  obtain ⟨B, G, ρ, Qd, hn, eo, h, k⟩ := h
  refine Call_ (ld_blt J g1 m1 bt_len (PyProof.Rows.callWith_builtin1 (PyProof.Rows.args_cons ?_ rfl) rfl rfl))
  refine Call_ (ld_blt J g2 m2 bt_set (PyProof.Rows.callWith_type1 (PyProof.Rows.args_cons ?_ na) na rfl))
  have mid : lift X.K np ta σ H fun v H1 => ∃ (l : Addr) (xs : List Str) (G1 : Hp) (ρ1 : TL.Env), v = .ref l ∧ (SqT X.K H1 l (xs.map V.str) ∨ SqL X.K H1 l (xs.map V.str)) ∧ xs.length ≤ 4000 ∧ Same G G1 ∧ EnvOk X.K B G1 ρ1 σ H1 ∧ Qd (.dat (.int (distinct xs : Nat))) ρ1 := by
    refine ⟨B, G, ρ, _, hn, eo, h, fun G1 v r ρ1 H1 s1 f1 q1 => ?_⟩
    obtain ⟨ω, e1, rr⟩ := f1
    split at q1
    · rename_i ys hv
      split at q1
      · rename_i xs hx
        obtain rfl := txs_eq hx
        obtain ⟨l, vs, rfl, hs, rl⟩ := (e1.rd rr hv).tup
        obtain rfl := rl.strs_eq
        exact ⟨l, xs, G1, ρ1, rfl, .inl (seqT e1.gle hs), q1.1, s1, ⟨ω, e1⟩, q1.2⟩
      · exact q1.elim
    · rename_i ys hv
      split at q1
      · rename_i xs hx
        obtain rfl := txs_eq hx
        obtain ⟨l, vs, rfl, hs, rl⟩ := (e1.rd rr hv).lst e1.gle
        obtain rfl := rl.strs_eq
        exact ⟨l, xs, G1, ρ1, rfl, .inr (.of hs), q1.1, s1, ⟨ω, e1⟩, q1.2⟩
      · exact q1.elim
    · exact q1.elim
  refine thn (ha.run pins s σ H _ J mid) fun v st ⟨y, H1, J1, r1, q1⟩ => PyProof.Rows.args_nil ?_
  obtain ⟨l, xs, G1, ρ1, rfl, hs, few, s1, e1, q1⟩ := q1
  cases r1
  rcases hs with hs | hs
  · obtain ⟨its, rv, pl, hz⟩ := J1.tuple hs
    refine set_of_tuple (J1.ok.hd calm) pl (by simpa using texts_of rv) (by unfold scanBound; omega) fun h2 tk full keep => PyProof.Rows.args_nil ?_
    obtain ⟨ob, es, ep, tb, f1, f2, f3, f4, f5, f6, f7, f8⟩ := full
    have J2 : Inv X pins σ H1 { st with heap := h2, toks := tk } := J1.kept fun b o y => keep b o (Heap.lt_size y) y
    have small : distinct xs ≤ 4000 := by
      have := met_len xs []
      unfold distinct
      simp at this
      omega
    refine call_len_set f1 f2 f3 f7 (by rw [f8]; omega) ⟨.int (distinct xs : Nat), H1, J2.tok _, ⟨_, by rw [f8]⟩, ?_⟩
    exact k _ _ _ _ _ s1 (e1.dat (.int _)) q1
  · obtain ⟨its, rv, pl, hz⟩ := J1.list hs
    refine set_of_list (J1.ok.hd calm) pl.isList (by simpa using texts_of rv) (by unfold scanBound; omega) fun h2 tk full keep => PyProof.Rows.args_nil ?_
    obtain ⟨ob, es, ep, tb, f1, f2, f3, f4, f5, f6, f7, f8⟩ := full
    have J2 : Inv X pins σ H1 { st with heap := h2, toks := tk } := J1.kept fun b o y => keep b o (Heap.lt_size y) y
    have small : distinct xs ≤ 4000 := by
      have := met_len xs []
      unfold distinct
      simp at this
      omega
    refine call_len_set f1 f2 f3 f7 (by rw [f8]; omega) ⟨.int (distinct xs : Nat), H1, J2.tok _, ⟨_, by rw [f8]⟩, ?_⟩
    exact k _ _ _ _ _ s1 (e1.dat (.int _)) q1
end
end TL

/-! TL18: a, b, c = e, [..], f, the second a list that is changed later; the classes' addresses; getters. -/
namespace TL
open PySem PySem.Spec PyProof.Rows L2
/-- where the program's classes stand -/
structure Ca where
  Keeper : Addr := 0
  Scheme : Addr := 0
  World : Addr := 0
  Desk : Addr := 0
def dPar3M (np i j l : Nat) (t u v : DTE) : DTS := fun D ρ => t ρ fun r ρ1 => match stl r with
  | .dat d => u ρ1 fun r2 ρ2 => (match r2 with
    | .nw (.ls xs) => np ≤ j ∧ v ρ2 fun r3 ρ3 => (match stl r3 with
      | .dat d3 => D.nx (((ρ3.set j (.ls xs)).set i (.fr d)).set l (.fr d3))
      | _ => False)
    | _ => False)
  | _ => False
section
variable {X : Cx} {a b c : Expr} {ta tb tc : DTE} {np : Nat} {x y z : Str} {px py pz pt pos : Pos} {kt k2 : Nat} {pt2 : Pos}
theorem ds_par3M (i j l : Nat) (hc : X.calm = true) (hN : X.N.Nodup) (ha : PE X a (lift X.K np ta)) (hb : PE X b (lift X.K np tb)) (hcc : PE X c (lift X.K np tc))
    (hw : swappedStores [.Tuple [.Name x px, .Name y py, .Name z pz] kt pt] (.Tuple [a, b, c] k2 pt2) X.env = pure (some [x, y, z]))
    (hi : X.N[i]? = some x := by rfl) (hj : X.N[j]? = some y := by rfl) (hl : X.N[l]? = some z := by rfl) (hij : i ≠ j := by decide) (hil : i ≠ l := by decide) (hjl : j ≠ l := by decide)
    (hx : X.env.scope.names.lookup x = some .local := by rfl) (hy : X.env.scope.names.lookup y = some .local := by rfl) (hz : X.env.scope.names.lookup z = some .local := by rfl)
    (hs : swapsWithSole [.Tuple [.Name x px, .Name y py, .Name z pz] kt pt] (.Tuple [a, b, c] k2 pt2) pos.line X.env = pure false := by rfl)
    (h1 : starEach [a, b, c] X.env = (false, eval a X.env) :: starEach [b, c] X.env := by rfl) (h2 : starEach [b, c] X.env = (false, eval b X.env) :: starEach [c] X.env := by rfl) (h3 : starEach [c] X.env = (false, eval c X.env) :: starEach [] X.env := by rfl) :
    PS X (.Assign [.Tuple [.Name x px, .Name y py, .Name z pz] kt pt] (.Tuple [a, b, c] k2 pt2) pos) (liftS X.K np (dPar3M np i j l ta tb tc)) := by
  refine (ps_par3 hc hN hi hj hl hij hil hjl hx hy hz (pa_cons ha (pa_cons hb (pa_cons hcc pa_nil h3) h2) h1) hw hs).mo fun D σ H h => ?_
  obtain ⟨B, G, ρ, Dd, hn, eo, h, k1, k2, k3, k4⟩ := h
  refine ⟨B, G, ρ, _, hn, eo, h, fun G1 v r ρ1 H1 s1 f1 q1 => ?_⟩
  obtain ⟨G2, s2, f2⟩ := f1.stl
  split at q1
  · rename_i d hr
    rw [hr] at f2
    refine ⟨B, G2, ρ1, _, hn, f2.env, q1, fun G3 w r3 ρ3 H3 s3 f3 q3 => ?_⟩
    split at q3
    · rename_i xs
      obtain ⟨hnj, q3⟩ := q3
      obtain ⟨ω3, e3, _, p, vs, ev, hp, hh, rr⟩ := f3
      cases ev
      obtain ⟨g1, _, g3⟩ := e3.own p _ hp
      have e4 := e3.dropTag (Nat.le_refl _)
      have w4 : untag ω3 σ.length p = none := by unfold untag; rw [if_pos hp]
      refine ⟨reB B G3 (untag ω3 σ.length) ρ3.length H3, G3, ρ3, _, hn, ⟨_, e4.rebase⟩, q3, fun G5 u r5 ρ5 H5 s5 f5 q5 => ⟨v, .ref p, u, rfl, ?_⟩⟩
      obtain ⟨G6, s6, f6⟩ := f5.stl
      split at q5
      · rename_i d3 hr3
        rw [hr3] at f6
        obtain ⟨ω6, e6, r6⟩ := f6
        obtain ⟨z1, z2, z3⟩ := e6.still hh w4 g1
        have e7 := e4.back e6
        have s36 := s5.trans s6
        have e8 := e7.adopt (i := j) z2 z3 z1 g3 (rr.mono s36) (by rw [hn]; exact hnj)
        obtain ⟨ω2, e2, r2⟩ := f2
        have rd : Rp X.K G6 v d := Rp.mono (s3.trans s36) r2
        obtain ⟨ω9, e9⟩ := e8.setD (i := i) rd
        have e10 := e9.setD (i := l) r6
        have : ((σ.set j (some (V.ref p))).set i (some v)).set l (some u) = ((σ.set i (some v)).set j (some (V.ref p))).set l (some u) := by
          by_cases hij' : i = j
          · exact absurd hij' hij
          · rw [List.set_comm _ _ (fun z => hij' z.symm)]
        rw [this] at e10
        exact k1 _ _ _ _ ((s1.trans s2).trans (s3.trans s36)) e10 q5
      · exact q5.elim
    · exact q3.elim
  · exact q1.elim
end
/-- a property's getter -/
theorem getter_ok {P : Program} {w : World} {K : PySem.W.Frag} {mg : Str → Option Value} {base : Heap} {x qual f : Str} {st : Stmt} {fa C : Addr} {fd : FuncData} {N : List Str} {p1 p2 p3 : Pos} (F : Fun K x qual st fa fd) (sc : FnScope N ["self"] (defScope st)) (c : Cls K C) (n : NoAttr K C f)
    (hN : N[0]? = some ("self" : Str) := by rfl) (hb : defBody st = [.Return (some (.Attribute (.Name "self" p1) f p2)) p3] := by rfl) : FnOk P w K mg base CX0 1 fa fd ["self"] (getSp C f) := by
  obtain ⟨oc, od, kV, doc, pm, an, cdv, ct, osl, rfl, found, coded⟩ := F.ex
  exact fn_getter (k := 0) found coded sc hN hb c n
end TL

/-! TL19: a list's or a tuple's reverse by a slice. -/
namespace HT
open PySem PySem.Spec PyProof.Rows
theorem fm_congr {α β : Type} {f g : α → Option β} : ∀ {xs : List α}, (∀ x ∈ xs, f x = g x) → xs.filterMap f = xs.filterMap g
  | [], _ => rfl
  | x :: xs, h => by
    rw [List.filterMap_cons, List.filterMap_cons, h x (List.mem_cons_self ..), fm_congr (xs := xs) fun y hy => h y (List.mem_cons_of_mem _ hy)]
theorem rev_pick (xs : Array Value) : ((List.range xs.size).filterMap fun (k : Nat) => xs[((((xs.size : Nat) : Int) - 1) + (k : Int) * (-1)).toNat]?).toArray = xs.toList.reverse.toArray := by
  congr 1
  have e : (List.range xs.size).filterMap (fun (k : Nat) => xs[((((xs.size : Nat) : Int) - 1) + (k : Int) * (-1)).toNat]?) = (List.range xs.size).filterMap (fun k => xs[xs.size - 1 - k]?) := by
    refine fm_congr fun k hk => ?_
    have hk := List.mem_range.mp hk
    have : ((((xs.size : Nat) : Int) - 1) + (k : Int) * (-1)).toNat = xs.size - 1 - k := by omega
    rw [this]
  rw [e]
  have e2 : (List.range xs.size).filterMap (fun k => xs[xs.size - 1 - k]?) = ((List.range xs.size).map (fun k => xs.size - 1 - k)).filterMap (xs[·]?) := by
    rw [List.filterMap_map]
    rfl
  rw [e2, PySem.W.krv_range, List.filterMap_reverse, PySem.W.krv_all]
section
variable {prog : Program} {w : World} {A : Around} {E : Value → Shared → Prop} {s : Shared}
theorem sliceApplied_rev {sl : Addr} {vs : Value} {n : Nat} {Q : Int × Int × Nat → Shared → Prop} (hs : s.heap.IsSliceOf sl .none .none vs) (ps : IsPart vs (some (-1)))
    (h : Q ((n : Int) - 1, -1, n) s) : wpAny (model prog w) A (Builtin.Slice.sliceApplied (.ref sl) (pure (n : Int))) Q E s := by
  obtain ⟨os, hos, hcs, hds⟩ := id hs
  unfold Builtin.Slice.sliceApplied Builtin.Slice.sliceFields
  refine wpAny_bind (wpAny_bind (wpAny_field hos hds (x := .none) rfl (wpAny_bind (wpAny_field hos hds (x := .none) rfl (wpAny_bind (wpAny_field hos hds (x := vs) rfl (wpAny_pure ?_)))))))
  refine wpAny_bind (slicePart_ ps ?_)
  show wpAny _ _ (if ((-1 : Int) == 0) = true then _ else _) _ _ s
  rw [if_neg (by decide)]
  refine wpAny_bind (slicePart_none (wpAny_bind (slicePart_none (wpAny_bind (wpAny_pure ?_)))))
  show wpAny _ _ (match Builtin.Slice.sliceAdjust none none (-1) (n : Int) with | (lo, hi) => pure (lo, (-1 : Int), Builtin.Slice.slicePlaces lo hi (-1))) _ _ s
  have e1 : Builtin.Slice.sliceAdjust none none (-1) (n : Int) = ((n : Int) - 1, -1) := by
    first | rfl | simp [Builtin.Slice.sliceAdjust]
  rw [e1]
  show wpAny _ _ (pure (((n : Int) - 1), (-1 : Int), Builtin.Slice.slicePlaces ((n : Int) - 1) (-1) (-1))) _ _ s
  have e2 : Builtin.Slice.slicePlaces ((n : Int) - 1) (-1) (-1) = n := by
    unfold Builtin.Slice.slicePlaces
    have h1 : ¬ ((-1 : Int) > 0) := by decide
    simp only [h1, if_false]
    split
    · have : (- (-1 : Int)) = 1 := by decide
      simp only [this, Int.ediv_one]
      omega
    · omega
  rw [e2]
  exact wpAny_pure h
theorem getItem_tuple_rev {t sl : Addr} {items : Array Value} {vs : Value} {Q : Value → Shared → Prop} (ht : IsTup s.heap t items) (hs : s.heap.IsSliceOf sl .none .none vs) (ps : IsPart vs (some (-1)))
    (h : Q (.ref s.heap.objs.size) { s with heap := s.heap.push { cls := .type "tuple", data := .seq items.toList.reverse.toArray } })
    (hsz : items.size ≤ sizeLine) : wpAny (model prog w) A (getItem (.ref t) (.ref sl)) Q E s := by
  have htake : sizeOk (.seq items.toList.reverse.toArray) := by
    show items.toList.reverse.toArray.size ≤ sizeLine
    rw [List.size_toArray, List.length_reverse, Array.length_toList]
    exact hsz
  obtain ⟨os, hos, hcs, hds⟩ := id hs
  have hTs : s.TypeIs (.ref sl) "slice" := ⟨os, hos, hcs⟩
  unfold getItem
  try with_reducible refine wpAny_holding ?_
  first | refine wpAny_bind (wpAny_pure ?_) | skip
  refine wpAny_bind (wpAny_sequenceKey ht.typeIs (by decide) ?_)
  refine wpAny_bind (wpAny_callSpecial?_slot (name := Str.ofString "__getitem__") ht.typeIs PyProof.Rows.slot_tuple_getitem
    (wpAny_call_entry PyProof.Rows.slot_tuple_getitem ht.typeIs entry_tuple_getitem ?_ (args_tuple_getitem _ _)))
  show wpAny _ _ (Builtin.Tuple.tupleItemsOf (.ref t) >>= _) _ _ s
  refine wpAny_bind (tupleItemsOf_ ht ?_)
  refine wpAny_bind (wpAny_typeOf hTs ?_)
  rw [if_pos (by decide)]
  refine wpAny_bind (sliceApplied_rev hs ps ?_)
  have hno : ¬ ((((items.size : Nat) : Int) - 1 == 0 && (-1 : Int) == 1 && items.size == items.size) = true) := by
    intro q
    rw [Bool.and_eq_true, Bool.and_eq_true] at q
    exact absurd q.1.2 (by decide)
  show wpAny _ _ (if (((items.size : Nat) : Int) - 1 == 0 && (-1 : Int) == 1 && items.size == items.size) = true then _ else _) _ _ s
  rw [if_neg hno, rev_pick]
  first
    | exact wpAny_bind (m := Builtin.Tuple.tupleExact _) (wpAny_newObj_type (wpAny_pure ⟨_, rfl, wpAny_pure h⟩) htake)
    | exact wpAny_bind (m := Builtin.Tuple.tupleExact _) (wpAny_newObj_type (wpAny_bind (wpAny_pure (wpAny_pure ⟨_, rfl, wpAny_pure h⟩))) htake)
    | exact wpAny_bind (wpAny_bind (m := Builtin.Tuple.tupleExact _) (wpAny_newObj_type (wpAny_pure (wpAny_pure ⟨_, rfl, wpAny_pure h⟩)) htake))
    | exact wpAny_bind (wpAny_bind (m := Builtin.Tuple.tupleExact _) (wpAny_newObj_type (wpAny_pure ⟨_, rfl, wpAny_pure h⟩) htake))
end
end HT
namespace L2
open PySem PySem.Spec PyProof.Rows HT
section
variable {X : Cx}
/-- x[::-1] of a list or a tuple -/
def tRevA (K : PySem.W.Frag) (te : TE) : TE := fun σ H Q => te σ H fun x H1 => (∃ a xs, x = .ref a ∧ SqL K H1 a xs ∧ ∀ p, H1 p = none → Q (.ref p) (upd H1 p (.lst xs.reverse))) ∨ (∃ a xs, x = .ref a ∧ SqT K H1 a xs ∧ ∀ p, H1 p = none → Q (.ref p) (upd H1 p (.tup xs.reverse)))
theorem pe_revA {e : Expr} {te : TE} {k : Nat} {p1 p2 p3 pos : Pos} (he : PE X e te) : PE X (.Subscript e (.Slice none none (some (.UnaryOp .USub (.Constant (.int 1) k p1) p2)) p3) pos) (tRevA X.K te) := by
  refine ⟨fun pins s σ H Q I h => ?_⟩
  refine Subscript_ (thn (he.run pins s σ H _ I h) fun v s1 ⟨x, H1, I1, r1, q1⟩ => ?_)
  have hst : PO X (some (.UnaryOp .USub (.Constant (.int 1) k p1) p2)) (tPart (tUn (rU fun i => .int (-i)) (tC (.int 1)))) := po_some (pe_un un_neg pe_int)
  refine wpAny_Slice (thn (po_none.run pins s1 σ H1 (fun o H2 => o = none ∧ H2 = H1) I1 ⟨rfl, rfl⟩) fun vl s2 ⟨l, H2, I2, pl, el, e2⟩ => ?_)
  subst el e2
  refine thn (po_none.run pins s2 σ H2 (fun o H3 => o = none ∧ H3 = H2) I2 ⟨rfl, rfl⟩) fun vu s3 ⟨u, H3, I3, pu, eu, e3⟩ => ?_
  subst eu e3
  refine thn (hst.run pins s3 σ H3 (fun o H4 => o = some (-1) ∧ H4 = H3) I3 ⟨1, rfl, -1, rfl, rfl, rfl⟩) fun vs s4 ⟨o, H4, I4, ps, eo, e4⟩ => ?_
  subst eo e4
  have I5 : Inv X pins σ H4 { s4 with heap := s4.heap.push { cls := .type "slice", data := .fields #[vl, vu, vs] } } := I4.kept (t' := s4.toks) fun b ob q => Heap.get?_push_of_some _ q
  rcases q1 with ⟨a, xs, ex, hx, q⟩ | ⟨a, xs, ex, hx, q⟩
  · subst ex
    cases r1
    obtain ⟨its, r, ht, hz⟩ := I5.list hx
    have hlen := r.length
    show wpAny (model X.prog X.w) X.A (subscriptTail e (.Slice none none (some (.UnaryOp .USub (.Constant (.int 1) k p1) p2)) p3) (.ref a) (.ref s4.heap.objs.size)) (EP X pins σ Q) X.xe { s4 with heap := s4.heap.push { cls := .type "slice", data := .fields #[vl, vu, vs] } }
    refine tail_any (ops := [.ref a, .ref s4.heap.objs.size]) ht.isList.typeIs (PySem.slot_list_getitem.lookup) ?_ (by with_unfolding_all rfl)
    refine wpAny_getItem_list_slice ht.isList (Heap.IsSliceOf.new _ vl vu vs) pl pu ps (by decide) ?_ (by rw [List.size_toArray]; omega)
    rw [PySem.W.krv_pick]
    refine ⟨.ref _, _, I5.laid (t' := s4.toks) (o := .lst xs.reverse) (fun b ob q => Heap.get?_push_of_some _ q) (Nat.le_refl _) ?_, rfl, q _ (I5.hok.fresh (Nat.le_refl _))⟩
    exact ⟨by rw [List.length_reverse]; exact hz, _, 0, r.reverse, Heap.get?_push_size _ rfl⟩
  · subst ex
    cases r1
    cases pl
    cases pu
    obtain ⟨its, r, ht, hz⟩ := I5.tuple hx
    have hlen : its.toArray.size = xs.length := by rw [List.size_toArray]; exact r.length.symm
    show wpAny (model X.prog X.w) X.A (subscriptTail e (.Slice none none (some (.UnaryOp .USub (.Constant (.int 1) k p1) p2)) p3) (.ref a) (.ref s4.heap.objs.size)) (EP X pins σ Q) X.xe { s4 with heap := s4.heap.push { cls := .type "slice", data := .fields #[.none, .none, vs] } }
    refine tail_any (ops := [.ref a, .ref s4.heap.objs.size]) ht.typeIs (PyProof.Rows.slot_tuple_getitem.lookup) ?_ (by with_unfolding_all rfl)
    refine getItem_tuple_rev ht (Heap.IsSliceOf.new _ .none .none vs) ps ?_ (by rw [hlen]; exact hz)
    refine ⟨.ref _, _, I5.laid (t' := s4.toks) (o := .tup xs.reverse) (fun b ob q => Heap.get?_push_of_some _ q) (Nat.le_refl _) ?_, rfl, q _ (I5.hok.fresh (Nat.le_refl _))⟩
    exact ⟨by rw [List.length_reverse]; exact hz, _, r.reverse, IsTup.new _ _⟩
end
end L2
namespace TL
open PySem PySem.Spec PyProof.Rows L2
section
variable {X : Cx} {e : Expr} {t : DTE} {np : Nat} {pos : Pos}
def gRev2 : DOp1 := fun x P => match x with
  | .lst xs => P (.nw (.ls xs.reverse))
  | .tup xs => P (.dat (.tup xs.reverse))
  | _ => False
theorem d_rev2 {k : Nat} {p1 p2 p3 : Pos} (he : PE X e (lift X.K np t)) : PE X (.Subscript e (.Slice none none (some (.UnaryOp .USub (.Constant (.int 1) k p1) p2)) p3) pos) (lift X.K np (dUn gRev2 t)) := by
  refine (pe_revA he).mo fun σ H Q h => ?_
  obtain ⟨B, G, ρ, Qd, hn, eo, h, k⟩ := h
  refine ⟨B, G, ρ, _, hn, eo, h, fun G1 v ra ρ1 H1 s1 f1 q1 => ?_⟩
  obtain ⟨x, ex, q1⟩ := W1.of q1
  obtain ⟨ω, e1, r1⟩ := f1
  have rx := e1.rd r1 ex
  cases x with
  | lst xs =>
    obtain ⟨a, ws, rfl, h, rr⟩ := rx.lst e1.gle
    exact .inl ⟨a, ws, rfl, .of h, fun p hp => k _ _ _ _ _ s1 (e1.newL hp rr.reverse) q1⟩
  | tup xs =>
    obtain ⟨a, ws, rfl, h, rr⟩ := rx.tup
    refine .inr ⟨a, ws, rfl, seqT e1.gle h, fun p hp => ?_⟩
    obtain ⟨sg, f⟩ := e1.newT hp rr.reverse
    exact k _ _ _ _ _ (s1.trans sg) f q1
  | _ => exact q1.elim
end
end TL

/-! SG1: the other source of draws: begun, mixed, take, pick, word, words. -/
namespace TL
open PySem PySem.Spec PyProof.Rows L2
def Sg_begun : DSp := fun args Q => ∃ ns : List Int, args = [.fr (.scr ns)] ∧ ns.length ≤ 63 ∧ Q (.nw (.rs (.sg 1000000000000))) [.un]
def Sg_mixed : DSp := fun args Q => ∃ L C r t b, args = [.rs (.sgx L C r t (b + 1))] ∧ C.length ≤ 63 ∧ 0 ≤ t ∧ t + b ≤ 1000000000000 ∧ ∀ z, Q (.dat (.int z)) [.rs (.sgx L C r (t + 1) b)]
def Sg_take : DSp := fun args Q => ∃ b n, args = [.rs (.sg b), .fr (.int n)] ∧ 1 ≤ b ∧ 0 < n ∧ n < 1073741824 ∧ ∀ k b', 0 ≤ k → k < n → b ≤ b' + 1 → Q (.dat (.int k)) [.rs (.sg b'), .un]
def Sg_pick : DSp := fun args Q => ∃ b d xs, args = [.rs (.sg b), .fr d] ∧ itemsD d = some xs ∧ 1 ≤ b ∧ xs ≠ [] ∧ xs.length < 1073741824 ∧ ∀ x b', x ∈ xs → b ≤ b' + 1 → Q (.dat x) [.rs (.sg b'), .un]
def Sg_word : DSp := fun args Q => ∃ b, args = [.rs (.sg b)] ∧ 10 ≤ b ∧ ∀ z b', Wd z → b ≤ b' + 10 → Q (.dat (.str z)) [.rs (.sg b')]
def Sg_words : DSp := fun args Q => ∃ (b i : Nat), args = [.rs (.sg b), .fr (.int i)] ∧ i ≤ 6 ∧ 10 * i ≤ b ∧ ∀ (ws : List Str) (b' : Nat), ws.length = i → (∀ z ∈ ws, Wd z) → ws.Nodup → b ≤ b' + 10 * i → Q (.nw (.ls (ws.map .str))) [.rs (.sg b'), .un]
/-! ### begun -/
def rg_begun : DTS := (dSeq (dSet 1 1 (dLc (iSeq ((dFrz (dVar 0)))) (hName 2) (dYes) ((dCB gAbs (dCons ((dVar 2)) dNil))) [2]))
      (dRet ((dSgNew ((dLc (iSeq ((dFrz (dVar 1)))) (hName 2) ((dTst (dBin gGe ((dVar 2)) ((dBin gPow (dC (.int 10)) (dC (.int 18))))))) ((dBin gSub ((dVar 2)) ((dBin gPow (dC (.int 10)) (dC (.int 18)))))) [2])) 1))))
theorem begung_1 {ρ0 : Env} {Q : Rs → Env → Prop} {s0 : Sl} : ∀ (ns acc : List Int) (o : Sl), (∀ Cs : List Int, Cs.length = acc.length + ns.length → Q (.nw (.ls (Cs.map .int))) [s0, .un, frO ρ0[2]?]) → acc.length + ns.length ≤ 63 →
    dLcL (hName 2) dYes (dCB gAbs (dCons (dVar 2) dNil)) [2] ρ0 (ns.map .int) (acc.map .int) [s0, .un, o] Q
  | [], acc, o, h, _ => h acc rfl
  | n :: ns, acc, o, h, hl => by
    refine ⟨by rw [List.length_map]; have := line_big; simp at hl; omega, ?_⟩
    have := begung_1 (ρ0 := ρ0) (Q := Q) (s0 := s0) ns (acc ++ [if n < 0 then -n else n]) (.fr (.int n)) (fun Cs hL => h Cs (by simp at hL ⊢; omega)) (by simp at hl ⊢; omega)
    rw [List.map_append] at this
    exact this
theorem begung_2 {ρ0 : Env} {Q : Rs → Env → Prop} {s0 s1 : Sl} : ∀ (ns acc : List Int) (o : Sl), (∀ Lg : List Int, Lg.length ≤ acc.length + ns.length → Q (.nw (.ls (Lg.map .int))) [s0, s1, frO ρ0[2]?]) → acc.length + ns.length ≤ 63 →
    dLcL (hName 2) (dTst (dBin gGe (dVar 2) (dBin gPow (dC (.int 10)) (dC (.int 18))))) (dBin gSub (dVar 2) (dBin gPow (dC (.int 10)) (dC (.int 18)))) [2] ρ0 (ns.map .int) (acc.map .int) [s0, s1, o] Q
  | [], acc, o, h, _ => h acc (by simp)
  | n :: ns, acc, o, h, hl => by
    refine ⟨⟨by decide, by decide, by decide⟩, ite2' (fun e => ⟨⟨by decide, by decide, by decide⟩, trivial, ?_⟩) (fun e => ?_)⟩
    · refine ⟨by rw [List.length_map]; have := line_big; simp at hl; omega, ?_⟩
      have := begung_2 (ρ0 := ρ0) (Q := Q) (s0 := s0) (s1 := s1) ns (acc ++ [n - 10 ^ 18]) (.fr (.int n)) (fun Lg hL => h Lg (by simp at hL ⊢; omega)) (by simp at hl ⊢; omega)
      rw [List.map_append] at this
      exact this
    · exact begung_2 (ρ0 := ρ0) (Q := Q) (s0 := s0) (s1 := s1) ns acc (.fr (.int n)) (fun Lg hL => h Lg (by simp at hL ⊢; omega)) (by simp at hl ⊢; omega)
theorem kg_begun : Keeps Sg_begun 1 3 rg_begun := by
  rintro args Q h0 ⟨ns, rfl, hn, h⟩
  clear h0
  refine begung_1 (ρ0 := [.fr (.scr ns), .un, .un]) (s0 := .fr (.scr ns)) ns [] .un (fun Cs hC => ⟨Nat.le_refl _, ?_⟩) (by simpa using hn)
  have hC : Cs.length ≤ 63 := by simp at hC; omega
  refine begung_2 (ρ0 := [.fr (.scr ns), .fr (.lst (Cs.map .int)), .un]) (s0 := .fr (.scr ns)) (s1 := .fr (.lst (Cs.map .int))) Cs [] .un (fun Lg hL => ⟨Lg, Cs, rfl, rfl, ?_, hC, h⟩) (by simpa using hC)
  simp at hL
  omega
/-! ### pick, take -/
def rg_pick : DTS := (dRet ((dBin gIx ((dVar 1)) ((dCall 2 Sg_take (dCons ((dVar 0)) (dCons ((dCB gLen (dCons ((dVar 1)) dNil))) dNil)))))))
theorem kg_pick : Keeps Sg_pick 2 2 rg_pick := by
  rintro args Q hargs ⟨b, d, xs, rfl, hd, hb, hne, hlen, h⟩
  clear hargs
  have hpos : 0 < xs.length := List.length_pos_iff.mpr hne
  unfold itemsD at hd
  split at hd
  · cases hd
    refine ⟨rfl, rfl, b, _, rfl, hb, by omega, by omega, fun k b' h0 h1 h2 => ?_⟩
    obtain ⟨x, e, m⟩ := atI_mem h0 h1
    exact W2_mk rfl rfl (gIx_lst e (h x b' m h2))
  · cases hd
    refine ⟨rfl, rfl, b, _, rfl, hb, by omega, by omega, fun k b' h0 h1 h2 => ?_⟩
    obtain ⟨x, e, m⟩ := atI_mem h0 h1
    exact W2_mk rfl rfl (gIx_tup e (h x b' m h2))
  · rename_i z
    split at hd
    · rename_i hz
      cases hd
      rw [List.length_map] at hlen hpos
      have hl : z.cps.toList.length = z.length := Array.length_toList
      refine ⟨hz, rfl, rfl, b, _, rfl, hb, by omega, by omega, fun k b' h0 h1 h2 => ?_⟩
      obtain ⟨x, e, m⟩ := atI_mem (xs := z.cps.toList) h0 (by rw [hl]; exact h1)
      exact W2_mk rfl rfl (gIx_str e hz (h _ b' (List.mem_map.mpr ⟨x, m, rfl⟩) h2))
    · cases hd
  · cases hd
def rg_take : DTS := (dDrawG 0 (dSeq (dIf ((dTst (dBin (gEq false) ((dSgRest 0)) (dC (.int 0))))) (dSgSetRest 0 ((dIfE ((dSgAny 0)) ((dSgPop 0)) ((dCall 1 Sg_mixed (dCons ((dVar 0)) dNil)))))) dNext)
      (dSeq (dSet 2 2 ((dBin gMod ((dCB gInt (dCons ((dSgRest 0)) dNil))) ((dVar 1)))))
      (dSeq (dSgSetRest 0 ((dBin gDiv ((dSgRest 0)) ((dVar 1)))))
      (dRet ((dVar 2)))))))
theorem kg_take : Keeps Sg_take 2 3 rg_take := by
  rintro args Q _ ⟨b, n, rfl, hb, h0, h1, h⟩
  refine ⟨b, rfl, fun L C r t l1 l2 l3 l4 => ?_⟩
  have rest : ∀ (L' : List Int) (r' t' : Int) (b' : Nat), b ≤ b' + 1 → dSeq (dSet 2 2 ((dBin gMod ((dCB gInt (dCons ((dSgRest 0)) dNil))) ((dVar 1))))) (dSeq (dSgSetRest 0 ((dBin gDiv ((dSgRest 0)) ((dVar 1))))) (dRet ((dVar 2))))
      { nx := shug1 0 (dEnd 2 Q).nx, rt := fun x => match x with | .dat d => shug1 0 ((dEnd 2 Q).rt (.dat d)) | _ => fun _ => False, bk := shug1 0 (dEnd 2 Q).bk, ct := shug1 0 (dEnd 2 Q).ct } [.rs (.sgx L' C r' t' b'), .fr (.int n), .un] := fun L' r' t' b' hb' =>
    ⟨h0, ⟨h0, h1⟩, h _ _ (Int.emod_nonneg _ (by omega)) (Int.emod_lt_of_pos _ h0) hb'⟩
  refine ite2' (fun e => ?_) (fun e => rest L r t b (by omega))
  cases L with
  | nil =>
    obtain ⟨b0, rfl⟩ : ∃ b0, b = b0 + 1 := ⟨b - 1, by omega⟩
    exact ⟨rfl, rfl, [], C, r, t, b0, rfl, l2, l3, by omega, fun z => rest [] z (t + 1) b0 (by omega)⟩
  | cons x L => exact rest L x t b (by omega)
/-! ### mixed -/
def rg_mixed : DTS := (dSeq (dSet 1 1 ((dBin gAdd ((dSgTurn 0)) (dC (.int 1)))))
      (dSeq (dSgSetTurn 0 ((dVar 1)))
      (dSeq (dSet 1 2 ((dBin gAdd ((dBin gMul (dC (.int 7919)) ((dVar 1)))) ((dCB gLen (dCons ((dSgCells 0)) dNil))))))
      (dSeq (dFor (iSeq ((dSgCells 0))) (hName 3) (dSet 1 2 ((dBin gMod ((dCB gInt (dCons ((dBin gAdd ((dBin gAdd ((dBin gMul ((dVar 2)) (dC (.int 48271)))) ((dVar 3)))) ((dBin gMul (dC (.int 11)) ((dVar 1)))))) dNil))) (dC (.int 2147483647))))))
      (dSeq (dFor (iRange1 (dCons (dC (.int 3)) dNil)) (hName 4) (dSet 1 2 ((dBin gMod ((dCB gInt (dCons ((dBin gAdd ((dBin gAdd ((dBin gAdd ((dBin gMul ((dVar 2)) ((dVar 2)))) ((dBin gMul (dC (.int 16807)) ((dVar 2)))))) (dC (.int 13)))) ((dVar 4)))) dNil))) (dC (.int 2305843009213693951))))))
      (dRet ((dVar 2))))))))
theorem mixg_in {E : DEnds} {s0 s4 : Sl} {t : Int} : ∀ (ns : List Int) (z : Int) (o : Sl), -(2 ^ 64) < z → z < 2 ^ 64 → (∀ z' o', -(2 ^ 64) < z' → z' < 2 ^ 64 → E.nx [s0, .fr (.int t), .fr (.int z'), o', s4]) →
    dForL (hName 3) (dSet 1 2 ((dBin gMod ((dCB gInt (dCons ((dBin gAdd ((dBin gAdd ((dBin gMul ((dVar 2)) (dC (.int 48271)))) ((dVar 3)))) ((dBin gMul (dC (.int 11)) ((dVar 1)))))) dNil))) (dC (.int 2147483647))))) E (ns.map .int) [s0, .fr (.int t), .fr (.int z), o, s4]
  | [], z, o, h0, h1, h => h z o h0 h1
  | n :: ns, z, o, h0, h1, h => ⟨.inr (by decide), .inl (by decide), (by show (0 : Int) < 2147483647; decide), mixg_in ns _ _ (Int.lt_of_lt_of_le (by decide) (Int.emod_nonneg _ (by decide))) (Int.lt_trans (Int.emod_lt_of_pos _ (by decide)) (by decide)) h⟩
theorem mixg_out {E : DEnds} {s0 s1 s3 : Sl} : ∀ (ns : List Int) (z : Int) (o : Sl), -(2 ^ 64) < z → z < 2 ^ 64 → (∀ z' o', E.nx [s0, s1, .fr (.int z'), s3, o']) →
    dForL (hName 4) (dSet 1 2 ((dBin gMod ((dCB gInt (dCons ((dBin gAdd ((dBin gAdd ((dBin gAdd ((dBin gMul ((dVar 2)) ((dVar 2)))) ((dBin gMul (dC (.int 16807)) ((dVar 2)))))) (dC (.int 13)))) ((dVar 4)))) dNil))) (dC (.int 2305843009213693951))))) E (ns.map .int) [s0, s1, .fr (.int z), s3, o]
  | [], z, o, h0, h1, h => h z o
  | n :: ns, z, o, h0, h1, h => ⟨.inl ⟨h0, h1⟩, .inl (by decide), (by show (0 : Int) < 2305843009213693951; decide), mixg_out ns _ _ (Int.lt_of_lt_of_le (by decide) (Int.emod_nonneg _ (by decide))) (Int.lt_trans (Int.emod_lt_of_pos _ (by decide)) (by decide)) h⟩
theorem range_ints (lo : Int) (n : Nat) : rangeD lo n = ((List.range n).map fun (i : Nat) => lo + (i : Int)).map .int := by unfold rangeD; rw [List.map_map]; rfl
theorem kg_mixed : Keeps Sg_mixed 1 5 rg_mixed := by
  rintro args Q hargs ⟨L, C, r, t, b, rfl, hC, ht, ht2, h⟩
  clear hargs
  have p64 : (2 : Int) ^ 64 = 18446744073709551616 := by decide
  refine ⟨b, rfl, rfl, .inl (by decide), ?_⟩
  have hlen : ((C.map D.int).length : Int) ≤ 63 := by rw [List.length_map]; omega
  refine mixg_in C _ .un (by omega) (by omega) fun z' o' z0 z1 => ?_
  refine ⟨by decide, by decide, ?_⟩
  rw [range_ints]
  exact mixg_out _ _ _ z0 z1 fun z2 o2 => h z2
end TL

/-! SG2: words drawn from the other source. -/
namespace TL
open PySem PySem.Spec PyProof.Rows L2
def ownWords : List Str := ["there", "going", "gone", "unborn", "made", "marked", "none", "own", "a", "aa", "z"]
theorem ownWords_wd : ownWords.all wdB = true := by decide +kernel
def rg_word : DTS := (dSeq (dIf ((dTst (dBin (gEq false) ((dCall 2 Sg_take (dCons ((dVar 0)) (dCons (dC (.int 3)) dNil)))) (dC (.int 0))))) (dRet ((dCall 2 Sg_pick (dCons ((dVar 0)) (dCons ((dLst (dCons (dC (.str "there")) (dCons (dC (.str "going")) (dCons (dC (.str "gone")) (dCons (dC (.str "unborn")) (dCons (dC (.str "made")) (dCons (dC (.str "marked")) (dCons (dC (.str "none")) (dCons (dC (.str "own")) (dCons (dC (.str "a")) (dCons (dC (.str "aa")) (dCons (dC (.str "z")) dNil))))))))))))) dNil))))) dNext)
      (dSeq (dSet 1 1 (dC (.str "abcdefghijklmnopqrstuvwxyz")))
      (dSeq (dSet 1 2 (dFrz (dCall 2 Sg_pick (dCons ((dVar 0)) (dCons ((dLst (dCons (dC (.int 1)) (dCons (dC (.int 1)) (dCons (dC (.int 2)) (dCons (dC (.int 3)) (dCons (dC (.int 8)) dNil))))))) dNil)))))
      (dRet ((dM1 gJoin (dC (.str "")) ((dLc (iRange1 (dCons ((dVar 2)) dNil)) (hName 3) (dYes) ((dCall 2 Sg_pick (dCons ((dVar 0)) (dCons ((dFrz (dVar 1))) dNil)))) [3]))))))))
section
variable {Q : Rs → TL.Env → Prop} {ρ0 : TL.Env} {s0 s1 s2 s3 o : Sl}
theorem wg_join {Z : Str} (hZ : Z.cps.toList = lets) : ∀ (ds : List D) (cs : List Nat) (b : Nat) (j : Sl), ds.length ≤ b → cs.length + ds.length ≤ 8 → (∀ c ∈ cs, c ∈ lets) →
    (∀ (cs' : List Nat) (b' : Nat), cs'.length = cs.length + ds.length → (∀ c ∈ cs', c ∈ lets) → b ≤ b' + ds.length → Q (.nw (.ls (cs'.map chD))) [.rs (.sg b'), .fr (.str Z), s2, frO ρ0[3]?]) →
    dLcL (hName 3) dYes (dCall 2 Sg_pick (dCons (dVar 0) (dCons (dFrz (dVar 1)) dNil))) [3] ρ0 ds (cs.map chD) [.rs (.sg b), .fr (.str Z), s2, j] Q
  | [], cs, b, j, _, _, hc, h => h cs b rfl hc (Nat.le_refl _)
  | d :: ds, cs, b, j, hb, hl, hc, h => by
    refine ⟨rfl, rfl, b, .str Z, lets.map chD, rfl, items_lets hZ, ?_, ?_, ?_, fun x b' hx hb' => ?_⟩
    · simp at hb; omega
    · intro z; have := congrArg List.length z; rw [List.length_map, lets_len] at this; cases this
    · rw [List.length_map, lets_len]; decide
    · obtain ⟨c, hc', rfl⟩ := List.mem_map.mp hx
      refine ⟨fin_big (by rw [List.length_map]; simp at hl; omega), ?_⟩
      have := wg_join hZ ds (cs ++ [c]) b' (.fr d) (by simp at hb; omega) (by simp at hl ⊢; omega) (fun x hx => by
        rcases List.mem_append.mp hx with z | z
        · exact hc x z
        · have : x = c := by simpa using z
          subst this
          exact hc') (fun cs' b2 h1 h2 h3 => h cs' b2 (by simp at h1 ⊢; omega) h2 (by simp at h3 ⊢; omega))
      rw [List.map_append] at this
      exact this
theorem kg_word : Keeps Sg_word 1 4 rg_word := by
  rintro args Q h0 ⟨b, rfl, hb, h⟩
  clear h0
  refine ⟨rfl, rfl, b, 3, rfl, by omega, by decide, by decide, fun i b1 h0 h2 h3 => ?_⟩
  refine ite2' (c := false ^^ decide (V.int i = V.int 0)) (fun e => ?_) (fun e => ?_)
  · refine ⟨by have := line_big; show 11 ≤ sizeLine; omega, rfl, rfl, b1, .lst (ownWords.map .str), ownWords.map .str, rfl, rfl, by omega, by simp [ownWords], by simp [ownWords], fun x b' hx hb' => ?_⟩
    obtain ⟨z, hz, rfl⟩ := List.mem_map.mp hx
    exact h z b' (List.all_eq_true.mp ownWords_wd z hz) (by omega)
  · refine ⟨by have := line_big; show 5 ≤ sizeLine; omega, rfl, rfl, b1, .lst [.int 1, .int 1, .int 2, .int 3, .int 8], [.int 1, .int 1, .int 2, .int 3, .int 8], rfl, rfl, by omega, by simp, by decide, fun x b2 hx hb2 => ?_⟩
    obtain ⟨j, rfl, j0, j1⟩ : ∃ j : Int, x = .int j ∧ 1 ≤ j ∧ j ≤ 8 := by
      simp only [List.mem_cons, List.not_mem_nil, or_false] at hx
      rcases hx with rfl | rfl | rfl | rfl | rfl <;> exact ⟨_, rfl, by decide, by decide⟩
    have p62 : (2 : Int) ^ 62 = 4611686018427387904 := by decide
    refine ⟨⟨_, rfl⟩, by omega, by omega, ?_⟩
    refine wg_join letsZ (rangeD 0 j.toNat) [] b2 .un (by rw [rangeD_len]; omega) (by rw [rangeD_len]; show 0 + _ ≤ 8; omega) (fun c hc => by cases hc) (fun cs b3 e1 e2 e3 => ?_)
    rw [rangeD_len] at e1 e3
    have l1 : cs.length = j.toNat := by simpa using e1
    refine W1_mk (x := .lst (cs.map chD)) rfl ?_
    exact gJoin_ch (by omega) (h _ b3 (join_wd (by omega) (by omega) e2) (by omega))
end
def spares : List Str := ["qa", "qb", "qc", "qd", "qe", "qf"]
theorem spares_wd : spares.all wdB = true := by decide +kernel
theorem spares_nd : spares.Nodup := by decide +kernel
theorem spare_new (z : Str) (hz : Wd z) (ws : List Str) (hw : ws.length < 6) : ∃ x r, (z :: spares).filter (fun y => !decide (y ∈ ws)) = x :: r ∧ Wd x ∧ x ∉ ws := by
  have hf : ∃ x r, (z :: spares).filter (fun y => !decide (y ∈ ws)) = x :: r := by
    cases e : (z :: spares).filter (fun y => !decide (y ∈ ws)) with
    | nil =>
      have sub : ∀ y ∈ spares, y ∈ ws := fun y hy => Classical.byContradiction fun n => by
        have : y ∈ (z :: spares).filter (fun y => !decide (y ∈ ws)) := List.mem_filter.mpr ⟨List.mem_cons_of_mem _ hy, by simpa using n⟩
        rw [e] at this
        cases this
      have := spares_nd.length_le_of_subset sub
      have : 6 ≤ ws.length := this
      omega
    | cons x r => exact ⟨x, r, rfl⟩
  obtain ⟨x, r, hx⟩ := hf
  have hm : x ∈ (z :: spares).filter (fun y => !decide (y ∈ ws)) := by rw [hx]; exact List.mem_cons_self
  obtain ⟨m1, m2⟩ := List.mem_filter.mp hm
  refine ⟨x, r, hx, ?_, by simpa using m2⟩
  rcases List.mem_cons.mp m1 with rfl | m1
  · exact hz
  · exact List.all_eq_true.mp spares_wd x m1
theorem tst_in2 {neg : Bool} {ρ : TL.Env} {R : Bool → TL.Env → Prop} {i j : Nat} {y : Str} {ws : List Str} (h1 : ρ[i]? = some (.fr (.str y))) (h4 : ρ[j]? = some (.ls (ws.map .str))) (h : R (neg ^^ decide (y ∈ ws)) ρ) : dTst (dBin (gIn neg) (dVar i) (dVar j)) ρ R := by
  unfold dTst dBin dVar
  simp only [h1, h4]
  have e2 : val ρ (.sl j) = some (.lst (ws.map .str)) := by
    show (match ρ[j]? with | some (.ls xs) => some (D.lst xs) | some (.dc xs) => some (.dct xs) | _ => none) = _
    rw [h4]
  exact W2_mk rfl e2 (gIn_lst h)
section
variable {Q : Rs → TL.Env → Prop} {ρ0 : TL.Env} {s0 s1 s3 s4 o : Sl} {E : DEnds}
theorem wg_new {ws : List Str} : ∀ (ys acc : List Str) (o : Sl), acc.length + ys.length ≤ 1000 →
    Q (.nw (.ls ((acc ++ ys.filter fun y => !decide (y ∈ ws)).map .str))) [s0, s1, .ls (ws.map .str), s3, s4, frO ρ0[5]?] →
    dLcL (hName 5) (dTst (dBin (gIn true) (dVar 5) (dVar 2))) (dFrz (dVar 5)) [5] ρ0 (ys.map .str) (acc.map .str) [s0, s1, .ls (ws.map .str), s3, s4, o] Q
  | [], acc, o, _, h => by
    have h' : Q (.nw (.ls (acc.map .str))) [s0, s1, .ls (ws.map .str), s3, s4, frO ρ0[5]?] := by simpa using h
    exact h'
  | y :: ys, acc, o, hl, h => by
    show dTst (dBin (gIn true) (dVar 5) (dVar 2)) [s0, s1, .ls (ws.map .str), s3, s4, .fr (.str y)] fun b ρ2 => if b = true then dFrz (dVar 5) ρ2 fun r ρ3 => (match stl r with
      | .dat x => (acc.map D.str).length < sizeLine ∧ dLcL (hName 5) (dTst (dBin (gIn true) (dVar 5) (dVar 2))) (dFrz (dVar 5)) [5] ρ0 (ys.map .str) (acc.map .str ++ [x]) ρ3 Q
      | _ => False)
      else dLcL (hName 5) (dTst (dBin (gIn true) (dVar 5) (dVar 2))) (dFrz (dVar 5)) [5] ρ0 (ys.map .str) (acc.map .str) ρ2 Q
    refine tst_in2 (y := y) (ws := ws) rfl rfl ?_
    refine ite2' (c := (true ^^ decide (y ∈ ws))) (fun e => ?_) (fun e => ?_)
    · refine ⟨fin_big (by rw [List.length_map]; simp at hl; omega), ?_⟩
      have ef : (y :: ys).filter (fun y => !decide (y ∈ ws)) = y :: ys.filter fun y => !decide (y ∈ ws) := List.filter_cons_of_pos (by rw [Bool.true_xor] at e; exact e)
      rw [ef] at h
      have := wg_new (ws := ws) ys (acc ++ [y]) (.fr (.str y)) (by simp at hl ⊢; omega) (by simpa using h)
      rw [List.map_append] at this
      exact this
    · have ef : (y :: ys).filter (fun y => !decide (y ∈ ws)) = ys.filter fun y => !decide (y ∈ ws) := List.filter_cons_of_neg (by rw [Bool.true_xor] at e; rw [e]; simp)
      rw [ef] at h
      exact wg_new (ws := ws) ys acc (.fr (.str y)) (by simp at hl ⊢; omega) h
def rg_turn : DTS := (dSeq (dSet 2 4 (dFrz (dCall 1 Sg_word (dCons ((dVar 0)) dNil))))
      (dDrop ((dMethF 2 mAppend (dCons ((dBin gIx ((dLc (iSeq ((dLst (dCons ((dFrz (dVar 4))) (dCons (dC (.str "qa")) (dCons (dC (.str "qb")) (dCons (dC (.str "qc")) (dCons (dC (.str "qd")) (dCons (dC (.str "qe")) (dCons (dC (.str "qf")) dNil)))))))))) (hName 5) ((dTst (dBin (gIn true) ((dVar 5)) ((dVar 2))))) ((dFrz (dVar 5))) [5])) (dC (.int 0)))) dNil)))))
def rg_words : DTS := (dSeq (dSet 2 2 ((dLst dNil)))
      (dSeq (dFor (iRange1 (dCons ((dVar 1)) dNil)) (hName 3) rg_turn)
      (dRet ((dVar 2)))))
theorem turng_ok {ws : List Str} {b : Nat} (hb : 10 ≤ b) (hw : ws.length < 6) (h : ∀ (y : Str) (b' : Nat) (s4 s5 : Sl), Wd y → y ∉ ws → b ≤ b' + 10 → E.nx [.rs (.sg b'), s1, .ls (ws.map .str ++ [.str y]), s3, s4, s5]) :
    rg_turn E [.rs (.sg b), s1, .ls (ws.map .str), s3, s4, o] := by
  refine ⟨rfl, rfl, b, rfl, hb, fun z b' hz hb' => ?_⟩
  obtain ⟨x, r, e, hx, hn⟩ := spare_new z hz ws hw
  refine ⟨⟨_, rfl⟩, by have := line_big; show 7 ≤ sizeLine; omega, ?_⟩
  refine wg_new (ρ0 := [.rs (.sg b'), s1, .ls (ws.map .str), s3, .fr (.str z), o]) (z :: spares) [] o (by simp [spares]) ?_
  rw [List.nil_append, e]
  dsimp only [dC]
  exact W2_mk rfl rfl (gIx_lst (atI_nat (j := 0) rfl) ⟨by rw [List.length_map]; exact fin_big (by omega), h x b' _ _ hx hn hb'⟩)
theorem wordsg_loop : ∀ (ds : List D) (ws : List Str) (b : Nat) (s3 s4 o : Sl), ws.length + ds.length ≤ 6 → 10 * ds.length ≤ b → (∀ z ∈ ws, Wd z) → ws.Nodup →
    (∀ (ws' : List Str) (b' : Nat) (s3 s4 o : Sl), ws'.length = ws.length + ds.length → (∀ z ∈ ws', Wd z) → ws'.Nodup → b ≤ b' + 10 * ds.length → E.nx [.rs (.sg b'), s1, .ls (ws'.map .str), s3, s4, o]) →
    dForL (hName 3) rg_turn E ds [.rs (.sg b), s1, .ls (ws.map .str), s3, s4, o]
  | [], ws, b, s3, s4, o, _, _, h1, h2, h => h ws b s3 s4 o rfl h1 h2 (Nat.le_refl _)
  | d :: ds, ws, b, s3, s4, o, hl, hb, h1, h2, h => by
    refine turng_ok (E := { nx := dForL (hName 3) rg_turn E ds, rt := E.rt, bk := E.nx, ct := dForL (hName 3) rg_turn E ds }) (s3 := .fr d) (by simp at hb; omega) (by simp at hl; omega) (fun y b' s4 s5 hy hn hb' => ?_)
    have em : ws.map D.str ++ [.str y] = (ws ++ [y]).map D.str := by rw [List.map_append]; rfl
    show dForL (hName 3) rg_turn E ds [.rs (.sg b'), s1, .ls (ws.map .str ++ [.str y]), .fr d, s4, s5]
    rw [em]
    refine wordsg_loop ds (ws ++ [y]) b' _ _ _ (by simp at hl ⊢; omega) (by simp at hb ⊢; omega) (fun z hz => ?_) ?_ (fun ws' b2 s3 s4 o e1 e2 e3 e4 => h ws' b2 s3 s4 o (by simp at e1 ⊢; omega) e2 e3 (by simp at e4 ⊢; omega))
    · rcases List.mem_append.mp hz with z' | z'
      · exact h1 z z'
      · have : z = y := by simpa using z'
        subst this
        exact hy
    · rw [List.nodup_append]
      refine ⟨h2, by simp, fun a ha c hc => ?_⟩
      have : c = y := by simpa using hc
      subst this
      exact fun z => hn (z ▸ ha)
theorem kg_words : Keeps Sg_words 2 6 rg_words := by
  rintro args Q h0 ⟨b, i, rfl, hi, hb, h⟩
  clear h0
  have p62 : (2 : Int) ^ 62 = 4611686018427387904 := by decide
  refine ⟨Nat.zero_le _, by decide, by omega, by omega, ?_⟩
  refine wordsg_loop (rangeD 0 (i : Int).toNat) [] b _ _ _ (by rw [rangeD_len]; show 0 + _ ≤ 6; omega) (by rw [rangeD_len]; omega) (fun z hz => by cases hz) List.nodup_nil (fun ws b' s3 s4 o e1 e2 e3 e4 => ?_)
  rw [rangeD_len] at e1 e4
  exact ⟨by decide, _, rfl, rfl, h ws b' (by simp at e1; omega) e2 e3 (by omega)⟩
end
end TL

namespace Lk04
open PySem PySem.Spec PyProof.Rows L2 TL
def S_is_word : DSp := Sp_is_word
def S__law_is_word : DSp := Sp_is_word
def Lk4 (d : D) : Prop := Fine topN 3000 50 d
theorem Lk4.lk {d : D} (h : Lk4 d) : Lk d := h.mono (by decide) (Nat.le_refl _)
theorem lk4_mem {xs : List D} (h : Lk4 (.tup xs)) {x : D} (hx : x ∈ xs) : Lk4 x := by
  obtain ⟨m, e, f⟩ := h.tup'
  exact (f.mem hx).mono (Nat.le_refl _) (by omega)
theorem lk4_len {xs : List D} (h : Lk4 (.tup xs)) : xs.length ≤ 3000 := by
  obtain ⟨m, e, f⟩ := h.tup'
  exact Nat.le_trans (wtL_length xs) f.lw
def inS (ss : List Str) : D → Bool
  | .str z => decide (z ∈ ss)
  | _ => false
def tx (xs : List D) : List Str := (txs xs).getD []
def diffB (ss : List Str) : D → Bool
  | .tup xs => xs.all (inS ss) && decide (distinct (tx xs) = xs.length)
  | _ => false
def SeqS (e : D) (ss : List Str) : Prop := e = .tup (ss.map .str) ∨ e = .lst (ss.map .str)
def S_are_different : DSp := fun args Q => ∃ d e ss, args = [.fr d, .fr e] ∧ SeqS e ss ∧ Lk4 d ∧ Q (.dat (.bl (diffB ss d))) [.un, .un]
theorem gIn_seq {neg : Bool} {y : Str} {e : D} {ss : List Str} {P : Rs → Prop} (he : SeqS e ss) (h : P (.dat (.bl (neg ^^ decide (y ∈ ss))))) : gIn neg (.str y) e P := by
  rcases he with rfl | rfl
  · unfold gIn
    show (match fvs (ss.map D.str) with | some bs => P (.dat (.bl (neg ^^ inV (.str y) bs))) | none => False)
    rw [fvs_strs]
    show P (.dat (.bl (neg ^^ inV (.str y) (ss.map V.str))))
    rw [inV_str]
    exact h
  · exact gIn_lst h
theorem in_slot {neg : Bool} {ρ : TL.Env} {R : Rs → TL.Env → Prop} {i j : Nat} {y : Str} {e : D} {ss : List Str} (h1 : ρ[i]? = some (.fr (.str y))) (h2 : ρ[j]? = some (.fr e)) (he : SeqS e ss) (h : R (.dat (.bl (neg ^^ decide (y ∈ ss)))) ρ) : dBin (gIn neg) (dVar i) (dVar j) ρ R := by
  unfold dBin dVar
  simp only [h1, h2]
  exact W2_mk rfl rfl (gIn_seq he h)
theorem isT_str {d : D} : isT "str" d = match d with | .str _ => true | _ => false := by
  cases d <;> first | rfl | (show subT _ _ = _; decide)
theorem tyOk_s : tyOk "str" = true := by decide
section
variable {Q : Rs → TL.Env → Prop} {ρ0 : TL.Env} {d e : D} {ss : List Str}
theorem one_ok {x : D} {R : Rs → TL.Env → Prop} (he : SeqS e ss) (hx : Lk4 x) (h : R (.dat (.bl (inS ss x))) [.fr d, .fr e, .fr x]) :
    dAndV (dCB gIsi (dCons (dVar 2) (dCons (dC (.ty "str")) dNil))) (dBin (gIn false) (dVar 2) (dVar 1)) [.fr d, .fr e, .fr x] R := by
  refine ⟨tyN_some hx.lk, tyOk_s, ?_⟩
  cases x with
  | str z =>
    refine in_slot (i := 2) (j := 1) (y := z) (ρ := [.fr d, .fr e, .fr (.str z)]) rfl rfl he ?_
    rw [Bool.false_xor]
    exact h
  | _ => exact h
theorem all_loop (he : SeqS e ss) : ∀ (xs : List D) (acc : List Bool) (o : Sl), (∀ x ∈ xs, Lk4 x) → acc.length + xs.length ≤ 3000 → Q (.nw (.ls ((acc ++ xs.map (inS ss)).map .bl))) [.fr d, .fr e, frO ρ0[2]?] →
    dLcL (hName 2) dYes (dAndV (dCB gIsi (dCons (dVar 2) (dCons (dC (.ty "str")) dNil))) (dBin (gIn false) (dVar 2) (dVar 1))) [2] ρ0 xs (acc.map .bl) [.fr d, .fr e, o] Q
  | [], acc, o, _, _, h => by
    have h' : Q (.nw (.ls (acc.map .bl))) [.fr d, .fr e, frO ρ0[2]?] := by simpa using h
    exact h'
  | x :: xs, acc, o, hx, hl, h => by
    refine one_ok (ss := ss) he (hx x (by simp)) ⟨by rw [List.length_map]; have := line_big; simp at hl; omega, ?_⟩
    have := all_loop he xs (acc ++ [inS ss x]) (.fr x) (fun y hy => hx y (List.mem_cons_of_mem _ hy)) (by simp at hl ⊢; omega) (by simpa using h)
    rw [List.map_append] at this
    exact this
end
def r_are_different : DTS := (dSeq (dIf ((dOrT ((dNotT ((dTst ((dCB gIsi (dCons ((dVar 0)) (dCons ((dC (.ty "tuple"))) dNil)))))))) ((dNotT ((dTst ((dCB gAll (dCons ((dLc (iSeq ((dFrz (dVar 0)))) (hName 2) (dYes) ((dAndV ((dCB gIsi (dCons ((dVar 2)) (dCons ((dC (.ty "str"))) dNil)))) ((dBin (gIn false) ((dVar 2)) ((dVar 1)))))) [2])) dNil))))))))) (dRet (dC (.bl false))) dNext)
      (dRet ((dBin (gEq false) ((dLenSet ((dVar 0)))) ((dCB gLen (dCons ((dVar 0)) dNil)))))))
theorem txs_all {ss : List Str} : ∀ {xs : List D}, xs.all (inS ss) = true → ∃ zs, xs = zs.map .str ∧ txs xs = some zs
  | [], _ => ⟨[], rfl, rfl⟩
  | x :: xs, h => by
    rw [List.all_cons, Bool.and_eq_true] at h
    obtain ⟨h1, h2⟩ := h
    obtain ⟨zs, e, f⟩ := txs_all h2
    cases x with
    | str z =>
      refine ⟨z :: zs, by rw [e]; rfl, ?_⟩
      show (match txs xs with | some zs => some (z :: zs) | none => none) = _
      rw [f]
    | _ => cases h1
theorem gAll_map {bs : List Bool} {P : Rs → Prop} (h : P (.dat (.bl (bs.all id)))) : gAll [.lst (bs.map .bl)] P := by
  unfold gAll
  show (match bls (bs.map D.bl) with | some bs => P (.dat (.bl (bs.all id))) | none => False)
  rw [bls_map]
  exact h
theorem lenSet_ok {ρ : TL.Env} {R : Rs → TL.Env → Prop} {i : Nat} {xs : List D} {zs : List Str} (h1 : ρ[i]? = some (.fr (.tup xs))) (h2 : txs xs = some zs) (h3 : zs.length ≤ 4000) (h : R (.dat (.int (distinct zs : Nat))) ρ) : dLenSet (dVar i) ρ R := by
  unfold dLenSet dVar
  simp only [h1]
  show (match txs xs with | some xs => xs.length ≤ 4000 ∧ R (.dat (.int (distinct xs : Nat))) ρ | none => False)
  rw [h2]
  exact ⟨h3, h⟩
theorem k_are_different : Keeps S_are_different 2 3 r_are_different := by
  rintro args Q h0 ⟨d, e, ss, rfl, he, hd, h⟩
  clear h0
  by_cases ht : ∃ xs, d = .tup xs
  · obtain ⟨xs, rfl⟩ := ht
    have hl := lk4_len hd
    refine ⟨rfl, tyOk_t, ?_⟩
    refine all_loop (ρ0 := [.fr (.tup xs), .fr e, .un]) he xs [] .un (fun x hx => lk4_mem hd hx) (by simpa using hl) ?_
    dsimp only [stl, dNil, vals, val, WL]
    refine gAll_map ?_
    rw [List.nil_append, List.all_map]
    refine ite2' (c := !(xs.all (id ∘ inS ss))) (fun e1 => ?_) (fun e1 => ?_)
    · have eb : diffB ss (.tup xs) = false := by
        have e1 : xs.all (inS ss) = false := by simpa using e1
        show (xs.all (inS ss) && _) = false
        rw [e1]; rfl
      rw [eb] at h
      exact h
    · have e1 : xs.all (inS ss) = true := by simpa using e1
      obtain ⟨zs, e2, e3⟩ := txs_all e1
      have eb : diffB ss (.tup xs) = decide (V.int (distinct zs : Nat) = V.int (xs.length : Nat)) := by
        show (xs.all (inS ss) && decide (distinct ((txs xs).getD []) = xs.length)) = _
        rw [e1, e3]
        show (true && decide (distinct zs = xs.length)) = _
        rw [Bool.true_and]
        refine decide_eq_decide.mpr ⟨fun z => by rw [z], fun z => ?_⟩
        injection z with z
        omega
      have hz : zs.length ≤ 4000 := by
        have : xs.length = zs.length := by rw [e2, List.length_map]
        omega
      unfold dNext
      dsimp only
      unfold dRet dBin
      refine lenSet_ok (ρ := [.fr (.tup xs), .fr e, .un]) (i := 0) (xs := xs) (zs := zs) rfl e3 hz ?_
      rw [eb] at h
      show Q (.dat (.bl (false ^^ _))) _
      rw [Bool.false_xor]
      exact h
  · have ht' : ∀ xs, d ≠ .tup xs := fun xs e => ht ⟨xs, e⟩
    refine ⟨tyN_some hd.lk, tyOk_t, ?_⟩
    refine ite2' (c := !(isT "tuple" d)) (fun _ => ?_) (fun e => by rw [isT_no ht'] at e; cases e)
    have eb : diffB ss d = false := by
      cases d with
      | tup xs => exact absurd rfl (ht' xs)
      | _ => rfl
    rw [eb] at h
    exact h

def deeds : List Str := ["clear", "correct", "hold", "make", "mark", "release", "strike"]
def marks : List Str := ["alone", "bare", "child", "free", "going", "gone", "held", "others", "right", "strays", "there", "tidy", "unwanted", "wanted", "wrong"]
def kinds : List Str := ["other", "own", "stray", "thing"]
def one : List D → Bool
  | [w] => isWord w
  | _ => false
def isDeed : D → Bool
  | .tup (.str z :: r) => if z = "turn" then one r else r.isEmpty && decide (z ∈ deeds)
  | _ => false
def lenT : D → Nat
  | .tup xs => xs.length
  | _ => 0
def isRuleB : D → Bool
  | .tup [m, d, k] => diffB marks m && (decide (lenT m ≤ 6) && (isDeed d && diffB kinds k))
  | _ => false
def S_is_deed : DSp := fun args Q => ∃ d, args = [.fr d] ∧ Lk4 d ∧ Q (.dat (.bl (isDeed d))) [.un]
def S_is_rule : DSp := fun args Q => ∃ d, args = [.fr d] ∧ Lk4 d ∧ Q (.dat (.bl (isRuleB d))) [.un]
def r_is_deed : DTS := (dSeq (dIf ((dOrT ((dNotT ((dTst ((dCB gIsi (dCons ((dVar 0)) (dCons ((dC (.ty "tuple"))) dNil)))))))) ((dOrT ((dTst (dBin (gEq false) ((dVar 0)) ((dTup dNil))))) ((dNotT ((dTst ((dCB gIsi (dCons ((dBin gIx ((dVar 0)) (dC (.int 0)))) (dCons ((dC (.ty "str"))) dNil)))))))))))) (dRet (dC (.bl false))) dNext)
      (dSeq (dIf ((dTst (dBin (gEq false) ((dBin gIx ((dVar 0)) (dC (.int 0)))) ((dC (.str "turn")))))) (dRet ((dAndV ((dBin (gEq false) ((dCB gLen (dCons ((dVar 0)) dNil))) (dC (.int 2)))) ((dCall 1 S_is_word (dCons ((dBin gIx ((dVar 0)) (dC (.int 1)))) dNil)))))) dNext)
      (dRet ((dAndV ((dBin (gEq false) ((dCB gLen (dCons ((dVar 0)) dNil))) (dC (.int 1)))) ((dBin (gIn false) ((dBin gIx ((dVar 0)) (dC (.int 0)))) ((dC (.tup [.str "clear", .str "correct", .str "hold", .str "make", .str "mark", .str "release", .str "strike"]))))))))))
def r_is_rule : DTS := (dSeq (dIf ((dOrT ((dNotT ((dTst ((dCB gIsi (dCons ((dVar 0)) (dCons ((dC (.ty "tuple"))) dNil)))))))) ((dTst (dBin (gEq true) ((dCB gLen (dCons ((dVar 0)) dNil))) (dC (.int 3))))))) (dRet (dC (.bl false))) dNext)
      (dSeq (dAsg ((dFrz (dVar 0))) (hTup 3 (hCons (hName 1) (hCons (hName 2) (hCons (hName 3) hNil)))))
      (dRet ((dAndV ((dCall 2 S_are_different (dCons ((dFrz (dVar 1))) (dCons ((dC (.tup [.str "alone", .str "bare", .str "child", .str "free", .str "going", .str "gone", .str "held", .str "others", .str "right", .str "strays", .str "there", .str "tidy", .str "unwanted", .str "wanted", .str "wrong"]))) dNil)))) ((dAndV ((dBin gLe ((dCB gLen (dCons ((dVar 1)) dNil))) ((dC (.int 6))))) ((dAndV ((dCall 1 S_is_deed (dCons ((dFrz (dVar 2))) dNil))) ((dCall 2 S_are_different (dCons ((dFrz (dVar 3))) (dCons ((dC (.tup [.str "other", .str "own", .str "stray", .str "thing"]))) dNil)))))))))))))
theorem str_eq {z y : Str} : (false ^^ decide (V.str z = V.str y)) = decide (z = y) := by
  rw [Bool.false_xor]
  exact decide_eq_decide.mpr ⟨fun e => by injection e, fun e => by rw [e]⟩
theorem isT_str_no {x : D} (h : ∀ z, x ≠ .str z) : isT "str" x = false := by
  rw [isT_str]
  cases x with
  | str z => exact absurd rfl (h z)
  | _ => rfl
theorem ix_c {ρ : TL.Env} {R : Rs → TL.Env → Prop} {i : Nat} {xs : List D} {k : Int} {x : D} (hi : ρ[i]? = some (.fr (.tup xs))) (e : atI xs k = some x) (h : R (.dat x) ρ) : dBin gIx (dVar i) (dC (.int k)) ρ R := by
  unfold dBin dVar dC
  simp only [hi]
  exact W2_mk (x := .tup xs) (y := .int k) rfl rfl (gIx_tup e h)
theorem dBin_ix {ρ : TL.Env} {R : Rs → TL.Env → Prop} {i : Nat} {xs : List D} {k : Int} {x y : D} {g : DOp2} (hi : ρ[i]? = some (.fr (.tup xs))) (e : atI xs k = some x) (h : g x y fun r => R r ρ) : dBin g (dBin gIx (dVar i) (dC (.int k))) (dC y) ρ R := by
  unfold dBin dVar dC
  simp only [hi]
  exact W2_mk (x := .tup xs) (y := .int k) rfl rfl (gIx_tup e (W2_mk (x := x) (y := y) rfl rfl h))
theorem eq_tu {x : D} {r : List D} {P : Rs → Prop} (h : P (.dat (.bl false))) : gEq false (.tup (x :: r)) (.tup []) P := h
def rDeed2 : DTS := (dSeq (dIf ((dTst (dBin (gEq false) ((dBin gIx ((dVar 0)) (dC (.int 0)))) ((dC (.str "turn")))))) (dRet ((dAndV ((dBin (gEq false) ((dCB gLen (dCons ((dVar 0)) dNil))) (dC (.int 2)))) ((dCall 1 S_is_word (dCons ((dBin gIx ((dVar 0)) (dC (.int 1)))) dNil)))))) dNext)
      (dRet ((dAndV ((dBin (gEq false) ((dCB gLen (dCons ((dVar 0)) dNil))) (dC (.int 1)))) ((dBin (gIn false) ((dBin gIx ((dVar 0)) (dC (.int 0)))) ((dC (.tup [.str "clear", .str "correct", .str "hold", .str "make", .str "mark", .str "release", .str "strike"])))))))))
theorem deed2_ok {Q : Rs → List Sl → Prop} {z : Str} {r : List D} (hd : Lk4 (.tup (.str z :: r))) (h : Q (.dat (.bl (isDeed (.tup (.str z :: r))))) [.un]) : rDeed2 (dEnd 1 Q) [.fr (.tup (.str z :: r))] := by
  have e0 : atI (.str z :: r) 0 = some (.str z) := atI_nat (j := 0) rfl
  unfold rDeed2 dSeq dIf dTst
  refine dBin_ix rfl e0 ?_
  refine ite2' (c := false ^^ decide (V.str z = V.str "turn")) (fun e => ?_) (fun e => ?_)
  · rw [str_eq] at e
    have eb : isDeed (.tup (.str z :: r)) = one r := if_pos (of_decide_eq_true e)
    rw [eb] at h
    match r, hd, h with
    | [], hd, h => exact h
    | [w], hd, h => exact ⟨rfl, rfl, w, rfl, (lk4_mem hd (x := w) (by simp)).lk, h⟩
    | _ :: _ :: _, hd, h => exact h
  · rw [str_eq] at e
    have eb : isDeed (.tup (.str z :: r)) = (r.isEmpty && decide (z ∈ deeds)) := if_neg (of_decide_eq_false e)
    rw [eb] at h
    match r, hd, h with
    | [], hd, h =>
      show dBin (gIn false) (dBin gIx (dVar 0) (dC (.int 0))) (dC (.tup (deeds.map .str))) [.fr (.tup [.str z])] (dEnd 1 Q).rt
      refine dBin_ix (y := .tup (deeds.map .str)) rfl e0 (gIn_seq (ss := deeds) (.inl rfl) ?_)
      rw [Bool.false_xor]
      exact h
    | _ :: _, hd, h => exact h
theorem k_is_deed : Keeps S_is_deed 1 1 r_is_deed := by
  rintro args Q h0 ⟨d, rfl, hd, h⟩
  clear h0
  by_cases ht : ∃ xs, d = .tup xs
  · obtain ⟨xs, rfl⟩ := ht
    refine ⟨rfl, tyOk_t, sz0, ?_⟩
    match xs, hd, h with
    | [], hd, h => exact h
    | x :: r, hd, h =>
      have e0 : atI (x :: r) 0 = some x := atI_nat (j := 0) rfl
      refine W2_mk rfl rfl (eq_tu ?_)
      simp only [val, stl, WB, Bool.false_eq_true, if_false]
      unfold dNotT dTst dCB dCons
      refine ix_c rfl e0 ?_
      refine ⟨tyN_some (lk4_mem hd (x := x) (by simp)).lk, tyOk_s, ?_⟩
      by_cases hs : ∃ z, x = .str z
      · obtain ⟨z, rfl⟩ := hs
        exact deed2_ok hd h
      · have hs' : ∀ z, x ≠ .str z := fun z e => hs ⟨z, e⟩
        have eb : isDeed (.tup (x :: r)) = false := by
          cases x with
          | str z => exact absurd rfl (hs' z)
          | _ => rfl
        rw [eb] at h
        refine ite2' (c := !(isT "str" x)) (fun _ => h) (fun e => by rw [isT_str_no hs'] at e; cases e)
  · have ht' : ∀ xs, d ≠ .tup xs := fun xs e => ht ⟨xs, e⟩
    refine ⟨tyN_some hd.lk, tyOk_t, ?_⟩
    refine ite2' (c := !(isT "tuple" d)) (fun _ => ?_) (fun e => by rw [isT_no ht'] at e; cases e)
    have eb : isDeed d = false := by
      cases d with
      | tup xs => exact absurd rfl (ht' xs)
      | _ => rfl
    rw [eb] at h
    exact h
theorem k_is_rule : Keeps S_is_rule 1 4 r_is_rule := by
  rintro args Q h0 ⟨d, rfl, hd, h⟩
  clear h0
  by_cases ht : ∃ xs, d = .tup xs
  · obtain ⟨xs, rfl⟩ := ht
    refine ⟨rfl, tyOk_t, ?_⟩
    match xs, hd, h with
    | [], hd, h => exact h
    | [a], hd, h => exact h
    | [a, b], hd, h => exact h
    | [m, dd, k], hd, h =>
      have e : isRuleB (.tup [m, dd, k]) = (diffB marks m && (decide (lenT m ≤ 6) && (isDeed dd && diffB kinds k))) := rfl
      rw [e] at h
      refine ⟨rfl, rfl, rfl, rfl, m, .tup (marks.map .str), marks, rfl, .inl rfl, lk4_mem hd (by simp), ?_⟩
      refine ite2' (c := diffB marks m) (fun e1 => ?_) (fun e1 => by rw [e1] at h; exact h)
      rw [e1] at h
      have ⟨ms, em⟩ : ∃ ms, m = .tup ms := by
        cases m with
        | tup ms => exact ⟨ms, rfl⟩
        | _ => cases e1
      subst em
      have e2 : decide ((ms.length : Int) ≤ 6) = decide (lenT (.tup ms) ≤ 6) := decide_eq_decide.mpr ⟨fun z => by show ms.length ≤ 6; omega, fun z => by have : ms.length ≤ 6 := z; omega⟩
      refine ite2' (c := decide ((ms.length : Int) ≤ 6)) (fun e3 => ?_) (fun e3 => by rw [← e2, e3] at h; exact h)
      rw [← e2, e3] at h
      refine ⟨rfl, rfl, dd, rfl, lk4_mem hd (by simp), ?_⟩
      refine ite2' (c := isDeed dd) (fun e4 => ?_) (fun e4 => by rw [e4] at h; exact h)
      rw [e4] at h
      exact ⟨rfl, rfl, k, .tup (kinds.map .str), kinds, rfl, .inl rfl, lk4_mem hd (by simp), h⟩
    | a :: b :: c :: e :: r, hd, h => exact h
  · have ht' : ∀ xs, d ≠ .tup xs := fun xs e => ht ⟨xs, e⟩
    refine ⟨tyN_some hd.lk, tyOk_t, ?_⟩
    refine ite2' (c := !(isT "tuple" d)) (fun _ => ?_) (fun e => by rw [isT_no ht'] at e; cases e)
    have eb : isRuleB d = false := by
      cases d with
      | tup xs => exact absurd rfl (ht' xs)
      | _ => rfl
    rw [eb] at h
    exact h
end Lk04

/-! KS1: sorted texts; equality of data; told rules and keepers, views. -/
namespace TL
open PySem PySem.Spec PyProof.Rows L2
/-! ### sorted -/
def leS (a b : Str) : Prop := a.cps.toList ≤ b.cps.toList
theorem rising_le : ∀ (p : Str) (l : List Str), risingS p l = true → (p :: l).Pairwise leS
  | p, [], _ => List.pairwise_singleton _ _
  | p, x :: r, h => by
    have h' : (!Spec.ltCps x.cps.toList p.cps.toList && risingS x r) = true := h
    rw [Bool.and_eq_true] at h'
    have ih := rising_le x r h'.2
    have hp : leS p x := by
      have := h'.1
      rw [ltCps_eq] at this
      have : ¬ x.cps.toList < p.cps.toList := by simpa using this
      exact List.not_lt.mp this
    refine List.pairwise_cons.mpr ⟨fun y hy => ?_, ih⟩
    rcases List.mem_cons.mp hy with rfl | hy
    · exact hp
    · exact List.le_trans hp ((List.pairwise_cons.mp ih).1 y hy)
theorem sorted_le : ∀ (l : List Str), sortedS l = true → l.Pairwise leS
  | [], _ => .nil
  | x :: r, h => rising_le x r h
theorem sorted_uniq {a b : List Str} (ha : sortedS a = true) (hb : sortedS b = true) (p : a.Perm b) : a = b :=
  List.Perm.eq_of_pairwise (le := leS) (fun a b _ _ h1 h2 => str_ext (List.le_antisymm h1 h2)) (sorted_le a ha) (sorted_le b hb) p
/-- the sorted row -/
noncomputable def srt (xs : List Str) : List Str := (xs.mergeSort (fun a b => decide (a.cps.toList ≤ b.cps.toList)))
theorem srt_perm (xs : List Str) : (srt xs).Perm xs := List.mergeSort_perm xs _
theorem srt_pw (xs : List Str) : (srt xs).Pairwise leS := by
  have := List.pairwise_mergeSort (le := fun a b : Str => decide (a.cps.toList ≤ b.cps.toList)) (fun a b c h1 h2 => decide_eq_true (List.le_trans (of_decide_eq_true h1) (of_decide_eq_true h2))) (fun a b => by
    rcases List.le_total a.cps.toList b.cps.toList with h | h
    · simp [h]
    · simp [h]) xs
  exact this.imp fun h => of_decide_eq_true h
theorem srt_eq {xs ys : List Str} (p : ys.Perm xs) (h : sortedS ys = true) : ys = srt xs :=
  List.Perm.eq_of_pairwise (le := leS) (fun a b _ _ h1 h2 => str_ext (List.le_antisymm h1 h2)) (sorted_le ys h) (srt_pw xs) (p.trans (srt_perm xs).symm)
theorem srt_congr {xs ys : List Str} (p : xs.Perm ys) : srt xs = srt ys :=
  List.Perm.eq_of_pairwise (le := leS) (fun a b _ _ h1 h2 => str_ext (List.le_antisymm h1 h2)) (srt_pw xs) (srt_pw ys) ((srt_perm xs).trans (p.trans (srt_perm ys).symm))
theorem srt_iff {xs ys : List Str} : srt xs = srt ys ↔ xs.Perm ys := ⟨fun h => (srt_perm xs).symm.trans (h ▸ srt_perm ys), srt_congr⟩
theorem srt_srt (xs : List Str) : srt (srt xs) = srt xs := srt_congr (srt_perm xs)
theorem srt_mem {xs : List Str} {z : Str} : z ∈ srt xs ↔ z ∈ xs := (srt_perm xs).mem_iff
theorem srt_len (xs : List Str) : (srt xs).length = xs.length := (srt_perm xs).length_eq
theorem sorted_lst {xs : List Str} {P : Rs → Prop} (hl : xs.length < 64) (h : P (.nw (.ls ((srt xs).map .str)))) : gSorted2 [.lst (xs.map .str)] P := by
  unfold gSorted2
  show (match txs (xs.map D.str) with | some bs => bs.length < 64 ∧ ∀ cs : List Str, cs.Perm bs → sortedS cs = true → P (.nw (.ls (cs.map .str))) | none => False)
  rw [txs_map]
  exact ⟨hl, fun cs p s => by rw [srt_eq p s]; exact h⟩
theorem sorted_tup {xs : List Str} {P : Rs → Prop} (hl : xs.length < 64) (h : P (.nw (.ls ((srt xs).map .str)))) : gSorted2 [.tup (xs.map .str)] P := by
  unfold gSorted2
  show (match txs (xs.map D.str) with | some bs => bs.length < 64 ∧ ∀ cs : List Str, cs.Perm bs → sortedS cs = true → P (.nw (.ls (cs.map .str))) | none => False)
  rw [txs_map]
  exact ⟨hl, fun cs p s => by rw [srt_eq p s]; exact h⟩
theorem srt_sorted (xs : List Str) : sortedS (srt xs) = true := sortedS_of_pairwise _ ((srt_pw xs).imp fun {a b} h => by
  rw [ltCps_eq]
  have : ¬ b.cps.toList < a.cps.toList := List.not_lt.mpr h
  simpa using this)
theorem gSorted2_lst_eq {xs : List Str} {P : Rs → Prop} : gSorted2 [.lst (xs.map .str)] P = (xs.length < 64 ∧ P (.nw (.ls ((srt xs).map .str)))) := by
  refine propext ⟨fun h => ?_, fun h => sorted_lst h.1 h.2⟩
  unfold gSorted2 at h
  have h' : (match txs (xs.map D.str) with | some bs => bs.length < 64 ∧ ∀ cs : List Str, cs.Perm bs → sortedS cs = true → P (.nw (.ls (cs.map .str))) | none => False) := h
  rw [txs_map] at h'
  exact ⟨h'.1, h'.2 _ (srt_perm xs) (srt_sorted xs)⟩
theorem gSorted2_tup_eq {xs : List Str} {P : Rs → Prop} : gSorted2 [.tup (xs.map .str)] P = (xs.length < 64 ∧ P (.nw (.ls ((srt xs).map .str)))) := by
  refine propext ⟨fun h => ?_, fun h => sorted_tup h.1 h.2⟩
  unfold gSorted2 at h
  have h' : (match txs (xs.map D.str) with | some bs => bs.length < 64 ∧ ∀ cs : List Str, cs.Perm bs → sortedS cs = true → P (.nw (.ls (cs.map .str))) | none => False) := h
  rw [txs_map] at h'
  exact ⟨h'.1, h'.2 _ (srt_perm xs) (srt_sorted xs)⟩
theorem gTuple_lst_eq {xs : List D} {P : Rs → Prop} : gTuple [.lst xs] P = P (.dat (.tup xs)) := rfl
/-! ### equality -/
theorem eqv_strs : ∀ xs ys : List Str, PyData.eqvAll (pyL (xs.map .str)) (pyL (ys.map .str)) = decide (xs = ys)
  | [], [] => by unfold PyData.eqvAll; simp [pyL]
  | [], _ :: _ => by simp [pyL, PyData.eqvAll]
  | _ :: _, [] => by simp [pyL, PyData.eqvAll]
  | x :: xs, y :: ys => by
    have ih := eqv_strs xs ys
    show PyData.eqvAll (py (.str x) :: pyL (xs.map .str)) (py (.str y) :: pyL (ys.map .str)) = _
    unfold PyData.eqvAll
    rw [ih]
    show ((x == y) && decide (xs = ys)) = _
    by_cases e : x = y
    · subst e; simp
    · rw [beq_eq_false_iff_ne.mpr e]; simp [e]
theorem strs_sh : ∀ xs : List Str, xs.all okS = true → PyData.canLayAll0 (pyL (xs.map .str)) = true ∧ PyData.depthAll (pyL (xs.map .str)) = 0 ∧ plainL (xs.map .str) = true
  | [], _ => by simp [pyL, PyData.canLayAll0, PyData.depthAll, plainL]
  | x :: xs, h => by
    rw [List.all_cons, Bool.and_eq_true] at h
    obtain ⟨h1, h2, h3⟩ := strs_sh xs h.2
    refine ⟨?_, ?_, ?_⟩
    · show PyData.canLayAll0 (py (.str x) :: pyL (xs.map .str)) = true
      unfold PyData.canLayAll0
      rw [h1, Bool.and_true]
      show PyData.canLay0 (.str x) = true
      unfold PyData.canLay0
      exact h.1
    · show PyData.depthAll (py (.str x) :: pyL (xs.map .str)) = 0
      unfold PyData.depthAll
      rw [h2]
      rfl
    · show (plain (.str x) && plainL (xs.map .str)) = true
      rw [h3]
      rfl
/-- a deed and checks, or nothing -/
def choD (tl : Bool) : Option (List Str × List Str) → D
  | none => .non
  | some (d, k) => .tup [.tup (d.map .str), if tl = true then .tup (k.map .str) else .lst (k.map .str)]
def chOk : Option (List Str × List Str) → Bool
  | none => true
  | some (d, k) => d.all okS && k.all okS
theorem choD_sh (tl : Bool) (o : Option (List Str × List Str)) (h : chOk o = true) : shD (choD tl o) = true := by
  cases o with
  | none => rfl
  | some p =>
    obtain ⟨d, k⟩ := p
    have h' : d.all okS = true ∧ k.all okS = true := by simpa [chOk] using h
    obtain ⟨a1, a2, a3⟩ := strs_sh d h'.1
    obtain ⟨b1, b2, b3⟩ := strs_sh k h'.2
    cases tl <;> (
      unfold shD
      simp only [choD, if_true, Bool.false_eq_true, if_false]
      simp only [plain, plainL, a3, b3, SeqAt.shaped, py, pyL, PyData.canLay0, PyData.canLayAll0, a1, b1, PyData.depth, PyData.depthAll, a2, b2]
      decide)
theorem choD_eqv (tl : Bool) (o p : Option (List Str × List Str)) : eqD (choD tl o) (choD tl p) = decide (o = p) := by
  cases o with
  | none => cases p with
    | none => simp [eqD, choD, py, PyData.eqv]
    | some p => simp [eqD, choD, py, PyData.eqv]
  | some o => cases p with
    | none => simp [eqD, choD, py, PyData.eqv]
    | some p =>
      obtain ⟨d, k⟩ := o
      obtain ⟨d', k'⟩ := p
      have e1 := eqv_strs d d'
      have e2 := eqv_strs k k'
      cases tl <;> (
        unfold eqD
        simp only [choD, if_true, Bool.false_eq_true, if_false]
        simp only [py, pyL, PyData.eqv, PyData.eqvAll, e1, e2, Bool.and_true]
        by_cases c1 : d = d' <;> by_cases c2 : k = k' <;> simp [c1, c2])
theorem gNe_ch (tl : Bool) {o p : Option (List Str × List Str)} {P : Rs → Prop} (ho : chOk o = true) (hp : chOk p = true) (h : P (.dat (.bl (true ^^ decide (o = p))))) : gEq true (choD tl o) (choD tl p) P := by
  have so := choD_sh tl o ho
  have sp := choD_sh tl p hp
  have e := choD_eqv tl o p
  cases o with
  | none => cases p with
    | none => exact h
    | some p =>
      obtain ⟨d', k'⟩ := p
      refine ⟨so, sp, ?_⟩
      rw [e]
      exact h
  | some o =>
    obtain ⟨d, k⟩ := o
    cases p with
    | none =>
      refine ⟨so, sp, ?_⟩
      rw [e]
      exact h
    | some p =>
      obtain ⟨d', k'⟩ := p
      refine ⟨so, sp, ?_⟩
      rw [e]
      exact h
/-! ### what is told -/
structure Ru where
  s : List Str
  d : List Str
  k : List Str
def ruD (r : Ru) : D := .tup [.tup (r.s.map .str), .tup (r.d.map .str), .tup (r.k.map .str)]
structure RuOk (r : Ru) : Prop where
  sm : ∀ z ∈ r.s, z ∈ Lk04.marks
  sn : r.s.Nodup
  sl : r.s.length ≤ 6
  d : Lk04.isDeed (.tup (r.d.map .str)) = true
  dw : ∀ z ∈ r.d, Wd z
  km : ∀ z ∈ r.k, z ∈ Lk04.kinds
  kn : r.k.Nodup
  kl : r.k.length ≤ 4
  dl : r.d.length ≤ 2
structure Tk where
  tag : Str
  w : List Str
  r : List Ru
def tkD (t : Tk) : D := .tup [.str t.tag, .lst (t.w.map .str), .lst (t.r.map ruD)]
structure TkOk (t : Tk) : Prop where
  tag : Wd t.tag
  w : ∀ z ∈ t.w, Wd z
  wn : t.w.Nodup
  wl : t.w.length ≤ 3
  r : ∀ r ∈ t.r, RuOk r
  rl : t.r.length ≤ 8
/-- a view -/
structure Vw where
  th : Option (Str × Bool × Bool)
  ow : Option Str
  ot : Bool
  st : Bool
def thD : Option (Str × Bool × Bool) → D
  | none => .tup []
  | some (w, g, h) => .tup [.str w, .bl g, .bl h]
def owD : Option Str → D
  | none => .tup []
  | some w => .tup [.int 1, .str w]
def stD (b : Bool) : D := .int (if b = true then 2 else 0)
def vwD (v : Vw) : D := .tup [thD v.th, owD v.ow, .bl v.ot, stD v.st]
def VwOk (v : Vw) : Prop := (∀ w g h, v.th = some (w, g, h) → Wd w) ∧ ∀ w, v.ow = some w → Wd w
/-- the conditions of the thing; of the own child; the rest -/
def knT (w : List Str) : Option (Str × Bool × Bool) → List Str
  | none => ["gone"]
  | some (x, g, h) => [if g = true then "going" else "there", if h = true then "held" else "free", if decide (x ∈ w) = true then "wanted" else "unwanted"]
def knO (th : Option (Str × Bool × Bool)) : Option Str → List Str
  | none => ["bare"]
  | some y => ["child", if (match th with | some (x, _, _) => decide (y = x) | none => false) = true then "right" else "wrong"]
def knR (v : Vw) : List Str := [if v.ot = true then "others" else "alone", if v.st = true then "strays" else "tidy"]
def kn (v : Vw) (w : List Str) : List Str := knT w v.th ++ knO v.th v.ow ++ knR v
theorem kn_congr {v : Vw} {w w' : List Str} (h : ∀ x, x ∈ w ↔ x ∈ w') : kn v w = kn v w' := by
  unfold kn
  cases v.th with
  | none => rfl
  | some p =>
    obtain ⟨x, g, h'⟩ := p
    have : decide (x ∈ w) = decide (x ∈ w') := decide_eq_decide.mpr (h x)
    simp only [knT, this]
/-- the first rule that fits -/
def dec (K : List Str) (rs : List Ru) : Option Nat := rs.findIdx? fun r => r.s.all fun z => decide (z ∈ K)
/-- what is chosen: the deed and the ascending checks -/
noncomputable def cho (K : List Str) (rs : List Ru) : Option (List Str × List Str) := (dec K rs).bind fun i => rs[i]?.map fun r => (r.d, srt r.k)
/-- all views of some words -/
def ths (ws : List Str) : List (Option (Str × Bool × Bool)) := none :: ws.flatMap fun w => [some (w, false, false), some (w, false, true), some (w, true, false), some (w, true, true)]
def ows (ws : List Str) : List (Option Str) := none :: ws.map some
def vws (ws : List Str) : List Vw := (ths ws).flatMap fun t => (ows ws).flatMap fun o => [⟨t, o, false, false⟩, ⟨t, o, false, true⟩, ⟨t, o, true, false⟩, ⟨t, o, true, true⟩]
theorem ths_ok {ws : List Str} (hw : ∀ z ∈ ws, Wd z) : ∀ t ∈ ths ws, ∀ w g h, t = some (w, g, h) → Wd w := by
  intro t ht w g h e
  subst e
  rcases List.mem_cons.mp ht with z | z
  · cases z
  · obtain ⟨x, hx, z⟩ := List.mem_flatMap.mp z
    have : w = x := by simp at z; rcases z with z | z | z | z <;> exact z.1
    subst this
    exact hw w hx
theorem vws_ok {ws : List Str} (hw : ∀ z ∈ ws, Wd z) : ∀ v ∈ vws ws, VwOk v := by
  intro v hv
  obtain ⟨t, ht, hv⟩ := List.mem_flatMap.mp hv
  obtain ⟨o, ho, hv⟩ := List.mem_flatMap.mp hv
  have h1 := ths_ok hw t ht
  have h2 : ∀ w, o = some w → Wd w := by
    intro w e
    subst e
    rcases List.mem_cons.mp ho with z | z
    · cases z
    · obtain ⟨x, hx, z⟩ := List.mem_map.mp z
      cases z
      exact hw w hx
  simp only [List.mem_cons, List.not_mem_nil, or_false] at hv
  rcases hv with rfl | rfl | rfl | rfl <;> exact ⟨h1, h2⟩
theorem ths_len (ws : List Str) : (ths ws).length = 1 + 4 * ws.length := by
  unfold ths
  rw [List.length_cons, List.length_flatMap]
  have : (ws.map fun w : Str => ([some (w, false, false), some (w, false, true), some (w, true, false), some (w, true, true)] : List (Option (Str × Bool × Bool))).length) = ws.map fun _ => 4 := rfl
  rw [this]
  induction ws with
  | nil => rfl
  | cons w ws ih =>
    rw [List.map_cons, List.sum_cons, List.length_cons]
    have := ih rfl
    omega
end TL

/-! KS2: the program's conditions and views. -/
namespace KP
open PySem PySem.Spec PyProof.Rows L2 TL
def S_is_list : DSp := fun args Q => ∃ d, args = [.fr d] ∧ (∃ xs, d = .lst xs ∨ d = .tup xs) ∧ Q (.dat (.bl true)) [.un]
def r_is_list : DTS := (dRet ((dCB gIsi (dCons ((dVar 0)) (dCons ((dTup (dCons ((dC (.ty "list"))) (dCons ((dC (.ty "tuple"))) dNil)))) dNil)))))
theorem k_is_list : Keeps S_is_list 1 1 r_is_list := by
  rintro args Q h0 ⟨d, rfl, ⟨xs, rfl | rfl⟩, h⟩
  · exact ⟨sz (by decide), rfl, by decide, by decide, h⟩
  · exact ⟨sz (by decide), rfl, by decide, by decide, h⟩
def S_thing_conditions : DSp := fun args Q => ∃ t w, args = [.fr (thD t), .fr (.tup (w.map .str))] ∧ Q (.nw (.ls ((knT w t).map .str))) [.un, .un]
def r_thing_conditions : DTS := (dSeq (dIf ((dTst (dBin (gEq false) ((dVar 0)) ((dTup dNil))))) (dRet ((dLst (dCons (dC (.str "gone")) dNil)))) dNext)
      (dSeq (dAsg ((dFrz (dVar 0))) (hTup 3 (hCons (hName 2) (hCons (hName 3) (hCons (hName 4) hNil)))))
      (dSeq (dSet 2 5 ((dLst (dCons ((dIfE ((dTst ((dVar 3)))) (dC (.str "going")) (dC (.str "there")))) (dCons ((dIfE ((dTst ((dVar 4)))) (dC (.str "held")) (dC (.str "free")))) dNil)))))
      (dRet ((dBin gAdd ((dVar 5)) ((dLst (dCons ((dIfE ((dTst (dBin (gIn false) ((dVar 2)) ((dVar 1))))) (dC (.str "wanted")) (dC (.str "unwanted")))) dNil)))))))))
theorem ifE_of {b : Bool} {x y : Str} {ρ : TL.Env} {R : Rs → TL.Env → Prop} (h : R (.dat (.str (if b = true then x else y))) ρ) : if b = true then dC (.str x) ρ R else dC (.str y) ρ R := by
  cases b with
  | true => exact h
  | false => exact h
theorem gIn_tup_eq {neg : Bool} {y : Str} {ss : List Str} {P : Rs → Prop} : gIn neg (.str y) (.tup (ss.map .str)) P = P (.dat (.bl (neg ^^ decide (y ∈ ss)))) := by
  unfold gIn
  show (match fvs (ss.map D.str) with | some bs => P (.dat (.bl (neg ^^ inV (.str y) bs))) | none => False) = _
  rw [fvs_strs]
  show P (.dat (.bl (neg ^^ inV (.str y) (ss.map V.str)))) = _
  rw [inV_str]
theorem gIn_lst_eq {neg : Bool} {y : Str} {ss : List Str} {P : Rs → Prop} : gIn neg (.str y) (.lst (ss.map .str)) P = P (.dat (.bl (neg ^^ decide (y ∈ ss)))) := by
  unfold gIn
  show (match fvs (ss.map D.str) with | some bs => P (.dat (.bl (neg ^^ inV (.str y) bs))) | none => False) = _
  rw [fvs_strs]
  show P (.dat (.bl (neg ^^ inV (.str y) (ss.map V.str)))) = _
  rw [inV_str]
theorem gEq_unit {neg : Bool} {x : D} {xs : List D} {P : Rs → Prop} : gEq neg (.tup (x :: xs)) (.tup []) P = P (.dat (.bl (neg ^^ false))) := rfl
theorem gEq_unit0 {neg : Bool} {P : Rs → Prop} : gEq neg (.tup []) (.tup []) P = P (.dat (.bl (neg ^^ true))) := rfl
theorem gEq_str {neg : Bool} {x y : Str} {P : Rs → Prop} : gEq neg (.str x) (.str y) P = P (.dat (.bl (neg ^^ decide (x = y)))) := by
  show P (.dat (.bl (neg ^^ decide (V.str x = V.str y)))) = _
  rw [show decide (V.str x = V.str y) = decide (x = y) from decide_eq_decide.mpr ⟨fun e => by injection e, fun e => by rw [e]⟩]
theorem gEq_int {neg : Bool} {x y : Int} {P : Rs → Prop} : gEq neg (.int x) (.int y) P = P (.dat (.bl (neg ^^ decide (x = y)))) := by
  show P (.dat (.bl (neg ^^ decide (V.int x = V.int y)))) = _
  rw [show decide (V.int x = V.int y) = decide (x = y) from decide_eq_decide.mpr ⟨fun e => by injection e, fun e => by rw [e]⟩]
theorem gIx_t0 {x : D} {xs : List D} {P : Rs → Prop} : gIx (.tup (x :: xs)) (.int 0) P = P (.dat x) := by
  unfold gIx
  have : atI (x :: xs) 0 = some x := atI_nat (j := 0) rfl
  simp only [this]
theorem gIx_t1 {x y : D} {xs : List D} {P : Rs → Prop} : gIx (.tup (x :: y :: xs)) (.int 1) P = P (.dat y) := by
  unfold gIx
  have : atI (x :: y :: xs) 1 = some y := atI_nat (j := 1) rfl
  simp only [this]
theorem gIx_t2 {x y z : D} {xs : List D} {P : Rs → Prop} : gIx (.tup (x :: y :: z :: xs)) (.int 2) P = P (.dat z) := by
  unfold gIx
  have : atI (x :: y :: z :: xs) 2 = some z := atI_nat (j := 2) rfl
  simp only [this]
theorem gLen_lst {xs : List D} {P : Rs → Prop} : gLen [.lst xs] P = P (.dat (.int xs.length)) := rfl
theorem gLen_tup {xs : List D} {P : Rs → Prop} : gLen [.tup xs] P = P (.dat (.int xs.length)) := rfl
theorem gAll_map_eq {bs : List Bool} {P : Rs → Prop} : gAll [.lst (bs.map .bl)] P = P (.dat (.bl (bs.all id))) := by
  unfold gAll
  show (match bls (bs.map D.bl) with | some bs => P (.dat (.bl (bs.all id))) | none => False) = _
  rw [bls_map]
theorem k_thing_conditions : Keeps S_thing_conditions 2 6 r_thing_conditions := by
  rintro args Q h0 ⟨t, w, rfl, h⟩
  clear h0
  cases t with
  | none =>
    refine ⟨sz0, ?_⟩
    exact ⟨sz (by decide), h⟩
  | some p =>
    obtain ⟨x, g, hh⟩ := p
    refine ⟨sz0, ?_⟩
    refine ⟨rfl, rfl, ?_⟩
    simp only [eq_self, decide_true, decide_false, Bool.xor_true, Bool.true_xor, Bool.xor_false, Option.some.injEq, Sl.ls.injEq, exists_eq', List.tail_cons, Bool.not_true, Bool.not_false, Nat.reduceAdd, dSeq, dIf, dTst, dBin, dVar, dTup, dNil, dCons, dLst, dC, dRet, dNext, dAsg, dFrz, hTup, hCons, hName, hNil, dSet, dPut, dIfE, dNotT, dAndT, dOrT, dAndV, dOrV, dCB, stl, val, vals, datL, WB, W1, W2, WL, ↓reduceIte, Bool.false_eq_true, backE, bFor, bLoop, bLast, dLc, dLcL, dForL, gEq_unit, gEq_unit0, gEq_str, gEq_int, gIx_t0, gIx_t1, gIx_t2, gLen_lst, gLen_tup, gAll_map_eq, gSorted2_lst_eq, gSorted2_tup_eq, gTuple_lst_eq, List.map_cons, List.map_nil, iSeq, dYes, wipeE, resto, frO, gIn_tup_eq, gIn_lst_eq, List.getElem?_cons_zero, List.getElem?_cons_succ, List.set_cons_zero, List.set_cons_succ, List.cons_append, List.nil_append, List.replicate, Nat.reduceSub, List.length_cons, List.length_nil, true_and, and_true, Bool.false_xor, dEnd, fin1, dFldSet, dFld, dMth, dSlice, dNoP, dPart, slotsOf, slotOf]
    cases g <;> cases hh <;> (
      simp only [Bool.false_eq_true, if_true, if_false]
      refine ⟨sz (Nat.le_of_ble_eq_true rfl), Nat.le_of_ble_eq_true rfl, ite2' (fun e => ⟨sz (Nat.le_of_ble_eq_true rfl), sz (Nat.le_of_ble_eq_true rfl), ?_⟩) (fun e => ⟨sz (Nat.le_of_ble_eq_true rfl), sz (Nat.le_of_ble_eq_true rfl), ?_⟩)⟩
      all_goals
        simp only [knT, e, Bool.false_eq_true, if_true, if_false] at h
        exact h)
def S_own_conditions : DSp := fun args Q => ∃ t o, args = [.fr (thD t), .fr (owD o)] ∧ Q (.nw (.ls ((knO t o).map .str))) [.un, .un]
def r_own_conditions : DTS := (dSeq (dIf ((dTst (dBin (gEq false) ((dVar 1)) ((dTup dNil))))) (dRet ((dLst (dCons (dC (.str "bare")) dNil)))) dNext)
      (dRet ((dLst (dCons (dC (.str "child")) (dCons ((dIfE ((dAndT ((dTst (dBin (gEq true) ((dVar 0)) ((dTup dNil))))) ((dTst (dBin (gEq false) ((dBin gIx ((dVar 1)) (dC (.int 1)))) ((dBin gIx ((dVar 0)) (dC (.int 0))))))))) (dC (.str "right")) (dC (.str "wrong")))) dNil))))))
theorem k_own_conditions : Keeps S_own_conditions 2 2 r_own_conditions := by
  rintro args Q h0 ⟨t, o, rfl, h⟩
  clear h0
  unfold r_own_conditions
  cases o with
  | none =>
    cases t with
    | none => exact ⟨sz0, sz (by decide), h⟩
    | some p => exact ⟨sz0, sz (by decide), h⟩
  | some y =>
    cases t with
    | none =>
      refine ⟨sz0, sz0, ?_⟩
      simp only [knO, Bool.false_eq_true, if_false] at h
      exact ⟨sz (by decide), h⟩
    | some p =>
      obtain ⟨x, g, hh⟩ := p
      simp only [eq_self, decide_true, decide_false, Bool.xor_true, Bool.true_xor, Bool.xor_false, Option.some.injEq, Sl.ls.injEq, exists_eq', List.tail_cons, Bool.not_true, Bool.not_false, Nat.reduceAdd, dSeq, dIf, dTst, dBin, dVar, dTup, dNil, dCons, dLst, dC, dRet, dNext, dAsg, dFrz, hTup, hCons, hName, hNil, dSet, dPut, dIfE, dNotT, dAndT, dOrT, dAndV, dOrV, dCB, stl, val, vals, datL, WB, W1, W2, WL, ↓reduceIte, Bool.false_eq_true, backE, bFor, bLoop, bLast, dLc, dLcL, dForL, gEq_unit, gEq_unit0, gEq_str, gEq_int, gIx_t0, gIx_t1, gIx_t2, gLen_lst, gLen_tup, gAll_map_eq, gSorted2_lst_eq, gSorted2_tup_eq, gTuple_lst_eq, List.map_cons, List.map_nil, iSeq, dYes, wipeE, resto, frO, gIn_tup_eq, gIn_lst_eq, List.getElem?_cons_zero, List.getElem?_cons_succ, List.set_cons_zero, List.set_cons_succ, List.cons_append, List.nil_append, List.replicate, Nat.reduceSub, List.length_cons, List.length_nil, true_and, and_true, Bool.false_xor, dEnd, fin1, dFldSet, dFld, dMth, dSlice, dNoP, dPart, slotsOf, slotOf]
      simp only [owD, thD, gEq_unit, gEq_str, gIx_t0, gIx_t1, WB, Bool.xor_false, Bool.false_xor, Bool.false_eq_true, if_true, if_false, W2]
      refine ⟨sz0, sz0, ite2' (fun e => ⟨sz (Nat.le_of_ble_eq_true rfl), ?_⟩) (fun e => ⟨sz (Nat.le_of_ble_eq_true rfl), ?_⟩)⟩
      all_goals
        simp only [knO, e, Bool.false_eq_true, if_true, if_false] at h
        exact h
/-- held_for: the conditions that hold, in some order -/
def S_held_for : DSp := fun args Q => ∃ v w, args = [.fr (vwD v), .fr (.tup (w.map .str))] ∧ Q (.nw (.ls ((srt (kn v w)).map .str))) [.un, .un]
def r_held_for : DTS := (dSeq (dAsg ((dFrz (dVar 0))) (hTup 4 (hCons (hName 2) (hCons (hName 3) (hCons (hName 4) (hCons (hName 5) hNil))))))
      (dSeq (dSet 2 6 ((dBin gAdd ((dCall 2 S_thing_conditions (dCons ((dFrz (dVar 2))) (dCons ((dFrz (dVar 1))) dNil)))) ((dCall 2 S_own_conditions (dCons ((dFrz (dVar 2))) (dCons ((dFrz (dVar 3))) dNil)))))))
      (dSeq (dSet 2 6 ((dBin gAdd ((dVar 6)) ((dLst (dCons ((dIfE ((dTst ((dVar 4)))) (dC (.str "others")) (dC (.str "alone")))) (dCons ((dIfE ((dTst (dBin (gEq false) ((dVar 5)) (dC (.int 0))))) (dC (.str "tidy")) (dC (.str "strays")))) dNil)))))))
      (dRet ((dCB gSorted2 (dCons ((dVar 6)) dNil)))))))
theorem knT_len (w : List Str) (t : Option (Str × Bool × Bool)) : (knT w t).length ≤ 3 := by
  cases t with
  | none => exact Nat.le_of_ble_eq_true rfl
  | some p => exact Nat.le_refl _
theorem knO_len (t : Option (Str × Bool × Bool)) (o : Option Str) : (knO t o).length ≤ 2 := by
  cases o with
  | none => exact Nat.le_of_ble_eq_true rfl
  | some p => exact Nat.le_refl _
theorem kn_len (v : Vw) (w : List Str) : (kn v w).length ≤ 7 := by
  unfold kn
  have h1 := knT_len w v.th
  have h2 := knO_len v.th v.ow
  have h3 : (knR v).length = 2 := rfl
  rw [List.length_append, List.length_append]
  omega
theorem add_strs {xs ys : List Str} {P : Rs → Prop} (hl : xs.length + ys.length ≤ 1000) (h : P (.nw (.ls ((xs ++ ys).map .str)))) : gAdd (.lst (xs.map .str)) (.lst (ys.map .str)) P := by
  refine ⟨by rw [List.length_map, List.length_map]; exact sz hl, ?_⟩
  rw [← List.map_append]
  exact h
theorem k_held_for : Keeps S_held_for 2 7 r_held_for := by
  rintro args Q h0 ⟨v, w, rfl, h⟩
  clear h0
  refine ⟨rfl, rfl, rfl, rfl, v.th, w, rfl, ?_⟩
  refine ⟨rfl, rfl, v.th, v.ow, rfl, ?_⟩
  have l1 := knT_len w v.th
  have l2 := knO_len v.th v.ow
  refine W2_mk (x := .lst ((knT w v.th).map .str)) (y := .lst ((knO v.th v.ow).map .str)) rfl rfl (add_strs (by omega) ?_)
  have lk : (knT w v.th ++ knO v.th v.ow).length ≤ 5 := by rw [List.length_append]; omega
  have fin : Q (.nw (.ls ((srt (knT w v.th ++ knO v.th v.ow ++ knR v)).map .str))) [.un, .un] := h
  generalize knT w v.th ++ knO v.th v.ow = ks at fin lk ⊢
  refine ⟨Nat.le_of_ble_eq_true rfl, ?_⟩
  obtain ⟨th, ow, ot, st⟩ := v
  simp only [eq_self, decide_true, decide_false, Bool.xor_true, Bool.true_xor, Bool.xor_false, Option.some.injEq, Sl.ls.injEq, exists_eq', List.tail_cons, Bool.not_true, Bool.not_false, Nat.reduceAdd, dSeq, dIf, dTst, dBin, dVar, dTup, dNil, dCons, dLst, dC, dRet, dNext, dAsg, dFrz, hTup, hCons, hName, hNil, dSet, dPut, dIfE, dNotT, dAndT, dOrT, dAndV, dOrV, dCB, stl, val, vals, datL, WB, W1, W2, WL, ↓reduceIte, Bool.false_eq_true, backE, bFor, bLoop, bLast, dLc, dLcL, dForL, gEq_unit, gEq_unit0, gEq_str, gEq_int, gIx_t0, gIx_t1, gIx_t2, gLen_lst, gLen_tup, gAll_map_eq, gSorted2_lst_eq, gSorted2_tup_eq, gTuple_lst_eq, List.map_cons, List.map_nil, iSeq, dYes, wipeE, resto, frO, gIn_tup_eq, gIn_lst_eq, List.getElem?_cons_zero, List.getElem?_cons_succ, List.set_cons_zero, List.set_cons_succ, List.cons_append, List.nil_append, List.replicate, Nat.reduceSub, List.length_cons, List.length_nil, true_and, and_true, Bool.false_xor, dEnd, fin1, dFldSet, dFld, dMth, dSlice, dNoP, dPart, slotsOf, slotOf]
  cases ot <;> cases st <;> (
    simp only [stD, Bool.false_eq_true, if_true, if_false]
    refine ⟨sz (Nat.le_of_ble_eq_true rfl), add_strs (ys := [_, _]) (by show ks.length + 2 ≤ 1000; omega) ⟨Nat.le_of_ble_eq_true rfl, sorted_lst (by rw [List.length_append]; show ks.length + 2 < 64; omega) ?_⟩⟩
    exact fin)
end KP

/-! KS3: all views, by the program. -/
namespace KP
open PySem PySem.Spec PyProof.Rows L2 TL
def S_things_of : DSp := fun args Q => ∃ ws : List Str, args = [.fr (.lst (ws.map .str))] ∧ ws.length ≤ 3 ∧ Q (.nw (.ls ((ths ws).map thD))) [.un]
def S_views_of : DSp := fun args Q => ∃ ws : List Str, args = [.fr (.lst (ws.map .str))] ∧ ws.length ≤ 3 ∧ Q (.nw (.ls ((vws ws).map vwD))) [.un]
def bThing : DTB := (bFor (iSeq ((dTup (dCons (dC (.bl false)) (dCons (dC (.bl true)) dNil))))) (hName 2) (dYes) (bFor (iSeq ((dTup (dCons (dC (.bl false)) (dCons (dC (.bl true)) dNil))))) (hName 3) (dYes) (bLast ((dTup (dCons ((dFrz (dVar 1))) (dCons ((dFrz (dVar 2))) (dCons ((dFrz (dVar 3))) dNil)))))) [3]) [2, 3])
def r_things_of : DTS := (dRet ((dBin gAdd ((dLst (dCons ((dTup dNil)) dNil))) ((dLcN (iSeq ((dFrz (dVar 0)))) (hName 1) (dYes) bThing [1, 2, 3])))))
theorem ll {acc : List D} {n : Nat} (h : acc.length + n ≤ 1000) : acc.length < sizeLine := fin_big (by omega)
theorem la {acc : List D} {n : Nat} {x : D} (h : acc.length ≤ n) (hn : n < 1000) : (acc ++ [x]).length < sizeLine := fin_big (by rw [List.length_append]; show acc.length + 1 ≤ 1000; omega)
theorem la2 {acc : List D} {n : Nat} {x y : D} (h : acc.length ≤ n) (hn : n < 990) : (acc ++ [x] ++ [y]).length < sizeLine := fin_big (by rw [List.length_append, List.length_append]; show acc.length + 1 + 1 ≤ 1000; omega)
theorem la3 {acc : List D} {n : Nat} {x y z : D} (h : acc.length ≤ n) (hn : n < 990) : (acc ++ [x] ++ [y] ++ [z]).length < sizeLine := fin_big (by rw [List.length_append, List.length_append, List.length_append]; show acc.length + 1 + 1 + 1 ≤ 1000; omega)
theorem app4 {acc : List D} {a b c d : D} {n : Nat} (h : acc.length + (4 + n) ≤ 900) : (acc ++ [a] ++ [b] ++ [c] ++ [d]).length + n ≤ 900 := by
  rw [List.length_append, List.length_append, List.length_append, List.length_append]
  show acc.length + 1 + 1 + 1 + 1 + n ≤ 900
  omega
theorem th_one {s0 o2 o3 : Sl} {w : Str} {Q : List D → TL.Env → Prop} (acc : List D) (hl : acc.length ≤ 900)
    (h : ∀ o2 o3, Q (acc ++ [thD (some (w, false, false))] ++ [thD (some (w, false, true))] ++ [thD (some (w, true, false))] ++ [thD (some (w, true, true))]) [s0, .fr (.str w), o2, o3]) :
    bThing acc [s0, .fr (.str w), o2, o3] Q := by
  have s2 : 2 ≤ sizeLine := sz (by decide)
  have s3 : 3 ≤ sizeLine := sz (by decide)
  unfold bThing
  simp only [eq_self, decide_true, decide_false, Bool.xor_true, Bool.true_xor, Bool.xor_false, Option.some.injEq, Sl.ls.injEq, exists_eq', List.tail_cons, Bool.not_true, Bool.not_false, Nat.reduceAdd, dSeq, dIf, dTst, dBin, dVar, dTup, dNil, dCons, dLst, dC, dRet, dNext, dAsg, dFrz, hTup, hCons, hName, hNil, dSet, dPut, dIfE, dNotT, dAndT, dOrT, dAndV, dOrV, dCB, stl, val, vals, datL, WB, W1, W2, WL, ↓reduceIte, Bool.false_eq_true, backE, bFor, bLoop, bLast, dLc, dLcL, dForL, gEq_unit, gEq_unit0, gEq_str, gEq_int, gIx_t0, gIx_t1, gIx_t2, gLen_lst, gLen_tup, gAll_map_eq, gSorted2_lst_eq, gSorted2_tup_eq, gTuple_lst_eq, List.map_cons, List.map_nil, iSeq, dYes, wipeE, resto, frO, gIn_tup_eq, gIn_lst_eq, List.getElem?_cons_zero, List.getElem?_cons_succ, List.set_cons_zero, List.set_cons_succ, List.cons_append, List.nil_append, List.replicate, Nat.reduceSub, List.length_cons, List.length_nil, true_and, and_true, Bool.false_xor, dEnd, fin1, dFldSet, dFld, dMth, dSlice, dNoP, dPart, slotsOf, slotOf]
  exact ⟨s2, s2, s3, fin_big (by omega), s3, la hl (by decide), s2, s3, la2 hl (by decide), s3, la3 hl (by decide), h _ _⟩
theorem things_loop {s0 : Sl} {Q : List D → TL.Env → Prop} : ∀ (ws : List Str) (acc : List D) (o1 o2 o3 : Sl), acc.length + 4 * ws.length ≤ 900 →
    (∀ o1 o2 o3, Q (acc ++ (ws.flatMap fun w => [some (w, false, false), some (w, false, true), some (w, true, false), some (w, true, true)]).map thD) [s0, o1, o2, o3]) →
    bLoop (hName 1) dYes bThing [1, 2, 3] (ws.map .str) acc [s0, o1, o2, o3] Q
  | [], acc, o1, o2, o3, _, h => by
    have := h .un .un .un
    rw [List.flatMap_nil, List.map_nil, List.append_nil] at this
    exact this
  | w :: ws, acc, o1, o2, o3, hl, h => by
    rw [List.length_cons] at hl
    refine th_one (s0 := s0) (w := w) acc (by omega) fun p2 p3 => ?_
    refine things_loop ws _ _ _ _ (app4 (by omega)) (fun o1 o2 o3 => ?_)
    have := h o1 o2 o3
    rw [List.flatMap_cons, List.map_append] at this
    simpa using this
theorem k_things_of : Keeps S_things_of 1 4 r_things_of := by
  rintro args Q h0 ⟨ws, rfl, hl, h⟩
  clear h0
  refine ⟨sz0, sz (Nat.le_of_ble_eq_true rfl), ?_⟩
  refine things_loop (s0 := .fr (.lst (ws.map .str))) ws [] .un .un .un (by simp; omega) fun o1 o2 o3 => ?_
  rw [List.nil_append]
  refine ⟨?_, ?_⟩
  · show 1 + _ ≤ sizeLine
    rw [List.length_map]
    have := ths_len ws
    unfold ths at this
    rw [List.length_cons] at this
    exact sz (by omega)
  · exact h
def bView : DTB := (bFor (iSeq ((dFrz (dVar 1)))) (hName 4) (dYes) (bFor (iSeq ((dTup (dCons (dC (.bl false)) (dCons (dC (.bl true)) dNil))))) (hName 5) (dYes) (bFor (iSeq ((dTup (dCons (dC (.int 0)) (dCons (dC (.int 2)) dNil))))) (hName 6) (dYes) (bLast ((dTup (dCons ((dFrz (dVar 3))) (dCons ((dFrz (dVar 4))) (dCons ((dFrz (dVar 5))) (dCons ((dFrz (dVar 6))) dNil))))))) [6]) [5, 6]) [4, 5, 6])
def bOwn : DTB := (bFor (iSeq ((dTup (dCons (dC (.bl false)) (dCons (dC (.bl true)) dNil))))) (hName 5) (dYes) (bFor (iSeq ((dTup (dCons (dC (.int 0)) (dCons (dC (.int 2)) dNil))))) (hName 6) (dYes) (bLast ((dTup (dCons ((dFrz (dVar 3))) (dCons ((dFrz (dVar 4))) (dCons ((dFrz (dVar 5))) (dCons ((dFrz (dVar 6))) dNil))))))) [6]) [5, 6])
def fourV (t : Option (Str × Bool × Bool)) (o : Option Str) : List Vw := [⟨t, o, false, false⟩, ⟨t, o, false, true⟩, ⟨t, o, true, false⟩, ⟨t, o, true, true⟩]
def r_views_of : DTS := (dSeq (dSet 1 1 ((dBin gAdd ((dLst (dCons ((dTup dNil)) dNil))) ((dLc (iSeq ((dFrz (dVar 0)))) (hName 2) (dYes) ((dTup (dCons (dC (.int 1)) (dCons ((dFrz (dVar 2))) dNil)))) [2])))))
      (dRet ((dLcN (iSeq ((dCall 1 S_things_of (dCons ((dFrz (dVar 0))) dNil)))) (hName 3) (dYes) bView [3, 4, 5, 6]))))
section
variable {s0 s1 s2 : Sl} {t : Option (Str × Bool × Bool)} {Q : List D → TL.Env → Prop}
theorem own_one {o5 o6 : Sl} {o : Option Str} (acc : List D) (hl : acc.length ≤ 900)
    (h : ∀ o5 o6, Q (acc ++ [vwD ⟨t, o, false, false⟩] ++ [vwD ⟨t, o, false, true⟩] ++ [vwD ⟨t, o, true, false⟩] ++ [vwD ⟨t, o, true, true⟩]) [s0, s1, s2, .fr (thD t), .fr (owD o), o5, o6]) :
    bOwn acc [s0, s1, s2, .fr (thD t), .fr (owD o), o5, o6] Q := by
  have z2 : 2 ≤ sizeLine := sz (by decide)
  have z4 : 4 ≤ sizeLine := sz (by decide)
  unfold bOwn
  simp only [eq_self, decide_true, decide_false, Bool.xor_true, Bool.true_xor, Bool.xor_false, Option.some.injEq, Sl.ls.injEq, exists_eq', List.tail_cons, Bool.not_true, Bool.not_false, Nat.reduceAdd, dSeq, dIf, dTst, dBin, dVar, dTup, dNil, dCons, dLst, dC, dRet, dNext, dAsg, dFrz, hTup, hCons, hName, hNil, dSet, dPut, dIfE, dNotT, dAndT, dOrT, dAndV, dOrV, dCB, stl, val, vals, datL, WB, W1, W2, WL, ↓reduceIte, Bool.false_eq_true, backE, bFor, bLoop, bLast, dLc, dLcL, dForL, gEq_unit, gEq_unit0, gEq_str, gEq_int, gIx_t0, gIx_t1, gIx_t2, gLen_lst, gLen_tup, gAll_map_eq, gSorted2_lst_eq, gSorted2_tup_eq, gTuple_lst_eq, List.map_cons, List.map_nil, iSeq, dYes, wipeE, resto, frO, gIn_tup_eq, gIn_lst_eq, List.getElem?_cons_zero, List.getElem?_cons_succ, List.set_cons_zero, List.set_cons_succ, List.cons_append, List.nil_append, List.replicate, Nat.reduceSub, List.length_cons, List.length_nil, true_and, and_true, Bool.false_xor, dEnd, fin1, dFldSet, dFld, dMth, dSlice, dNoP, dPart, slotsOf, slotOf]
  exact ⟨z2, z2, z4, fin_big (by omega), z4, la hl (by decide), z2, z4, la2 hl (by decide), z4, la3 hl (by decide), h _ _⟩
theorem owns_loop : ∀ (os : List (Option Str)) (acc : List D) (o4 o5 o6 : Sl), acc.length + 4 * os.length ≤ 900 →
    (∀ o4 o5 o6, Q (acc ++ (os.flatMap (fourV t)).map vwD) [s0, s1, s2, .fr (thD t), o4, o5, o6]) →
    bLoop (hName 4) dYes bOwn [4, 5, 6] (os.map owD) acc [s0, s1, s2, .fr (thD t), o4, o5, o6] Q
  | [], acc, o4, o5, o6, _, h => by
    have := h .un .un .un
    rw [List.flatMap_nil, List.map_nil, List.append_nil] at this
    exact this
  | o :: os, acc, o4, o5, o6, hl, h => by
    rw [List.length_cons] at hl
    refine own_one (o := o) acc (by omega) fun p5 p6 => ?_
    refine owns_loop os _ _ _ _ (app4 (by omega)) (fun o4 o5 o6 => ?_)
    have := h o4 o5 o6
    rw [List.flatMap_cons, List.map_append] at this
    simpa [fourV] using this
end
section
variable {s0 s2 : Sl} {Q : List D → TL.Env → Prop} {os : List (Option Str)}
theorem views_loop (ho : os.length ≤ 4) : ∀ (ts : List (Option (Str × Bool × Bool))) (acc : List D) (s1 o3 o4 o5 o6 : Sl), (s1 = .ls (os.map owD) ∨ s1 = .fr (.lst (os.map owD))) → acc.length + 16 * ts.length ≤ 900 →
    (∀ s1 o3 o4 o5 o6, Q (acc ++ (ts.flatMap fun t => os.flatMap (fourV t)).map vwD) [s0, s1, s2, o3, o4, o5, o6]) →
    bLoop (hName 3) dYes bView [3, 4, 5, 6] (ts.map thD) acc [s0, s1, s2, o3, o4, o5, o6] Q
  | [], acc, s1, o3, o4, o5, o6, _, _, h => by
    have := h s1 .un .un .un .un
    rw [List.flatMap_nil, List.map_nil, List.append_nil] at this
    exact this
  | t :: ts, acc, s1, o3, o4, o5, o6, hs, hl, h => by
    rw [List.length_cons] at hl
    have len4 : ((os.flatMap (fourV t)).map vwD).length = 4 * os.length := by
      rw [List.length_map, List.length_flatMap]
      have : (os.map fun o => (fourV t o).length) = os.map fun _ => 4 := rfl
      rw [this]
      clear this hs h ho
      induction os with
      | nil => rfl
      | cons o os ih => rw [List.map_cons, List.sum_cons, ih, List.length_cons]; omega
    have go : bLoop (hName 4) dYes bOwn [4, 5, 6] (os.map owD) acc [s0, .fr (.lst (os.map owD)), s2, .fr (thD t), .un, .un, .un] fun acc' ρ3 => bLoop (hName 3) dYes bView [3, 4, 5, 6] (ts.map thD) acc' ρ3 Q := by
      refine owns_loop os acc _ _ _ (by omega) fun p4 p5 p6 => ?_
      refine views_loop ho ts _ _ _ _ _ _ (.inr rfl) (by rw [List.length_append, len4]; omega) fun s1 q3 q4 q5 q6 => ?_
      have := h s1 q3 q4 q5 q6
      rw [List.flatMap_cons, List.map_append, ← List.append_assoc] at this
      exact this
    rcases hs with rfl | rfl
    · exact go
    · exact go
theorem own_lc {ρ0 : TL.Env} {s0 s1 o3 o4 o5 o6 : Sl} {Q : Rs → TL.Env → Prop} : ∀ (ws : List Str) (acc : List D) (o : Sl), acc.length + ws.length ≤ 900 →
    Q (.nw (.ls (acc ++ (ws.map some).map owD))) [s0, s1, frO ρ0[2]?, o3, o4, o5, o6] →
    dLcL (hName 2) dYes (dTup (dCons (dC (.int 1)) (dCons (dFrz (dVar 2)) dNil))) [2] ρ0 (ws.map .str) acc [s0, s1, o, o3, o4, o5, o6] Q
  | [], acc, o, _, h => by
    rw [List.map_nil, List.map_nil, List.append_nil] at h
    exact h
  | w :: ws, acc, o, hl, h => by
    rw [List.length_cons] at hl
    refine ⟨sz (Nat.le_of_ble_eq_true rfl), fin_big (by omega), ?_⟩
    refine own_lc ws (acc ++ [owD (some w)]) _ (by simp; omega) ?_
    simpa using h
theorem k_views_of : Keeps S_views_of 1 7 r_views_of := by
  rintro args Q h0 ⟨ws, rfl, hl, h⟩
  clear h0
  refine ⟨sz0, sz (Nat.le_of_ble_eq_true rfl), ?_⟩
  refine own_lc ws [] .un (by simp; omega) ?_
  rw [List.nil_append]
  refine ⟨by show 1 + _ ≤ sizeLine; rw [List.length_map, List.length_map]; exact sz (by omega), Nat.le_of_ble_eq_true rfl, ?_⟩
  refine ⟨rfl, rfl, ws, rfl, hl, ?_⟩
  refine views_loop (os := ows ws) (by unfold ows; rw [List.length_cons, List.length_map]; omega) (ths ws) [] _ _ _ _ _ (.inl rfl) (by rw [ths_len]; simp; omega) fun s1 o3 o4 o5 o6 => ?_
  rw [List.nil_append]
  exact h
end
end KP

/-! KS4: keepers made. -/
namespace KP
open PySem PySem.Spec PyProof.Rows L2 TL
def S_is_word : DSp := Sp_is_word
theorem k_is_word : Keeps S_is_word 1 2 rd_is_word := kd_is_word
def S_are_different : DSp := Lk04.S_are_different
theorem k_are_different : Keeps S_are_different 2 3 Lk04.r_are_different := Lk04.k_are_different
def S_is_deed : DSp := Lk04.S_is_deed
theorem k_is_deed : Keeps S_is_deed 1 1 Lk04.r_is_deed := Lk04.k_is_deed
def S_is_rule : DSp := Lk04.S_is_rule
theorem k_is_rule : Keeps S_is_rule 1 4 Lk04.r_is_rule := Lk04.k_is_rule
theorem isWord_wd {z : Str} (h : Wd z) : isWord (.str z) = true := by
  have h' : (decide (1 ≤ z.length) && (decide (z.length ≤ 8) && z.cps.toList.all fun c => decide (c ∈ lets))) = true := h
  show (decide (1 ≤ z.length) && decide (z.length ≤ 8) && z.cps.toList.all fun c => decide (c ∈ lets)) = true
  rw [Bool.and_assoc]
  exact h'
theorem lk_wd {z : Str} (h : Wd z) : Lk (.str z) := h.fine (by decide)
theorem met_nodup : ∀ (l acc : List Str), (acc ++ l).Nodup → met acc l = acc ++ l
  | [], acc, _ => by rw [List.append_nil]; rfl
  | x :: l, acc, h => by
    have hx : x ∉ acc := fun z => by
      rw [List.nodup_append] at h
      exact h.2.2 x z x (by simp) rfl
    show met (if x ∈ acc then acc else acc ++ [x]) l = _
    rw [if_neg hx, met_nodup l (acc ++ [x]) (by rw [List.append_assoc]; exact h), List.append_assoc]
    rfl
theorem distinct_nodup {xs : List Str} (h : xs.Nodup) : distinct xs = xs.length := by
  unfold distinct
  rw [met_nodup xs [] h]
  rfl
def Ws (xs : List D) : Prop := ∀ x ∈ xs, ∃ z, x = .str z ∧ Wd z
theorem Ws.fine {xs : List D} (h : Ws xs) {n : Nat} (hl : xs.length ≤ n) {N m : Nat} : FineL N (9 * n) m xs := by
  refine .of (fun x hx => ?_) ?_
  · obtain ⟨z, rfl, wz⟩ := h x hx
    have f := wz.fine (N := N) (m := m) (Nat.le_refl 8)
    exact ⟨f.ok, f.ld⟩
  · have : wtL xs ≤ 9 * xs.length := by
      clear hl
      induction xs with
      | nil => exact Nat.le_refl _
      | cons x xs ih =>
        obtain ⟨z, rfl, wz⟩ := h x (by simp)
        have := ih fun y hy => h y (List.mem_cons_of_mem _ hy)
        have f := (wz.fine (N := N) (m := m) (Nat.le_refl 8)).lw
        rw [wtL_cons, List.length_cons]
        omega
    omega
theorem Ws.strs {ss : List Str} (h : ∀ z ∈ ss, Wd z) : Ws (ss.map .str) := fun x hx => by
  obtain ⟨z, hz, rfl⟩ := List.mem_map.mp hx
  exact ⟨z, rfl, h z hz⟩
theorem marks_wd : Lk04.marks.all wdB = true := by decide +kernel
theorem kinds_wd : Lk04.kinds.all wdB = true := by decide +kernel
theorem _root_.TL.RuOk.sw {r : Ru} (h : RuOk r) : ∀ z ∈ r.s, Wd z := fun z hz => List.all_eq_true.mp marks_wd z (h.sm z hz)
theorem _root_.TL.RuOk.kw {r : Ru} (h : RuOk r) : ∀ z ∈ r.k, Wd z := fun z hz => List.all_eq_true.mp kinds_wd z (h.km z hz)
theorem ru_fine {r : Ru} (h : RuOk r) {N : Nat} : Fine N 113 2 (ruD r) := by
  have f1 := Fine.tup ((Ws.strs h.sw).fine (n := 6) (by rw [List.length_map]; exact h.sl) (N := N) (m := 0))
  have f2 := Fine.tup ((Ws.strs h.dw).fine (n := 2) (by rw [List.length_map]; exact h.dl) (N := N) (m := 0))
  have f3 := Fine.tup ((Ws.strs h.kw).fine (n := 4) (by rw [List.length_map]; exact h.kl) (N := N) (m := 0))
  exact (Fine.tup (FineL.cons f1 (FineL.cons f2 (FineL.cons f3 (FineL.nil (w := 0)))))).mono (by decide) (Nat.le_refl _)
theorem ru_lk4 {r : Ru} (h : RuOk r) : Lk04.Lk4 (ruD r) := (ru_fine h).mono (by decide) (by decide)
theorem diff_true {ss xs : List Str} (h1 : ∀ z ∈ xs, z ∈ ss) (h2 : xs.Nodup) : Lk04.diffB ss (.tup (xs.map .str)) = true := by
  have e1 : (xs.map D.str).all (Lk04.inS ss) = true := by
    rw [List.all_map, List.all_eq_true]
    intro z hz
    exact decide_eq_true (h1 z hz)
  show ((xs.map D.str).all (Lk04.inS ss) && decide (distinct ((txs (xs.map .str)).getD []) = (xs.map D.str).length)) = true
  rw [e1, txs_map, List.length_map]
  show (true && decide (distinct xs = xs.length)) = true
  rw [distinct_nodup h2]
  simp
theorem rule_true {r : Ru} (h : RuOk r) : Lk04.isRuleB (ruD r) = true := by
  show (Lk04.diffB Lk04.marks (.tup (r.s.map .str)) && (decide ((r.s.map D.str).length ≤ 6) && (Lk04.isDeed (.tup (r.d.map .str)) && Lk04.diffB Lk04.kinds (.tup (r.k.map .str))))) = true
  rw [diff_true h.sm h.sn, diff_true h.km h.kn, h.d, List.length_map, decide_eq_true h.sl]
  rfl
/-! ### wants -/
def S_are_wants : DSp := fun args Q => ∃ (w : List Str) (d : D), args = [.fr d] ∧ (d = .lst (w.map .str) ∨ d = .tup (w.map .str)) ∧ (∀ z ∈ w, Wd z) ∧ w.Nodup ∧ w.length ≤ 3 ∧ Q (.dat (.bl true)) [.un]
def r_are_wants : DTS := (dSeq (dIf ((dOrT ((dNotT ((dTst ((dCall 1 S_is_list (dCons ((dFrz (dVar 0))) dNil))))))) ((dOrT ((dTst (dBin gGt ((dCB gLen (dCons ((dVar 0)) dNil))) ((dC (.int 3)))))) ((dNotT ((dTst ((dCB gAll (dCons ((dLc (iSeq ((dFrz (dVar 0)))) (hName 1) (dYes) ((dCall 1 S_is_word (dCons ((dFrz (dVar 1))) dNil))) [1])) dNil))))))))))) (dRet (dC (.bl false))) dNext)
      (dRet ((dBin (gEq false) ((dLenSet2 ((dVar 0)))) ((dCB gLen (dCons ((dVar 0)) dNil)))))))
theorem all_words {ρ0 : TL.Env} {s0 : Sl} {Q : Rs → TL.Env → Prop} : ∀ (ws : List Str) (acc : List Bool) (o : Sl), (∀ z ∈ ws, Wd z) → acc.length + ws.length ≤ 900 → (acc.all id = true → Q (.nw (.ls ((acc ++ ws.map fun _ => true).map .bl))) [s0, frO ρ0[1]?]) → acc.all id = true →
    dLcL (hName 1) dYes (dCall 1 S_is_word (dCons (dFrz (dVar 1)) dNil)) [1] ρ0 (ws.map .str) (acc.map .bl) [s0, o] Q
  | [], acc, o, _, _, h, ha => by
    have := h ha
    rw [List.map_nil, List.append_nil] at this
    exact this
  | z :: ws, acc, o, hw, hl, h, ha => by
    rw [List.length_cons] at hl
    have wz := hw z (by simp)
    refine ⟨rfl, rfl, .str z, rfl, lk_wd wz, ?_⟩
    rw [isWord_wd wz]
    refine ⟨by rw [List.length_map]; exact fin_big (by omega), ?_⟩
    have ha2 : (acc ++ [true]).all id = true := by rw [List.all_append, ha]; rfl
    have := all_words (ρ0 := ρ0) (s0 := s0) (Q := Q) ws (acc ++ [true]) (.fr (.str z)) (fun y hy => hw y (List.mem_cons_of_mem _ hy)) (by simp; omega) (fun _ => by
      have := h ha
      simpa using this) ha2
    rw [List.map_append] at this
    exact this
theorem lenSet2_lst {zs : List Str} {ρ : TL.Env} {R : Rs → TL.Env → Prop} : dLenSet2 (dVar 0) (.fr (.lst (zs.map .str)) :: ρ) R = (zs.length ≤ 4000 ∧ R (.dat (.int (distinct zs : Nat))) (.fr (.lst (zs.map .str)) :: ρ)) := by
  show (match txs (zs.map D.str) with | some xs => xs.length ≤ 4000 ∧ R (.dat (.int (distinct xs : Nat))) (.fr (.lst (zs.map .str)) :: ρ) | none => False) = _
  rw [txs_map]
theorem lenSet2_tup {zs : List Str} {ρ : TL.Env} {R : Rs → TL.Env → Prop} : dLenSet2 (dVar 0) (.fr (.tup (zs.map .str)) :: ρ) R = (zs.length ≤ 4000 ∧ R (.dat (.int (distinct zs : Nat))) (.fr (.tup (zs.map .str)) :: ρ)) := by
  show (match txs (zs.map D.str) with | some xs => xs.length ≤ 4000 ∧ R (.dat (.int (distinct xs : Nat))) (.fr (.tup (zs.map .str)) :: ρ) | none => False) = _
  rw [txs_map]
theorem all_true (ws : List Str) : (ws.map fun _ => true).all id = true := by rw [List.all_map]; simp
theorem k_are_wants : Keeps S_are_wants 1 2 r_are_wants := by
  rintro args Q h0 ⟨w, d, rfl, hd, hw, hn, hl, h⟩
  clear h0
  have l3 : decide ((w.length : Int) > 3) = false := decide_eq_false (by omega)
  have dn := distinct_nodup hn
  unfold r_are_wants
  rcases hd with rfl | rfl
  · refine ⟨rfl, rfl, _, rfl, ⟨_, .inl rfl⟩, ?_⟩
    refine ite2' (c := decide (((w.map D.str).length : Int) > 3)) (fun e => by rw [List.length_map, l3] at e; cases e) (fun _ => ?_)
    refine all_words (ρ0 := [.fr (.lst (w.map .str)), .un]) w [] .un hw (by simp; omega) (fun _ => ?_) rfl
    rw [List.nil_append]
    dsimp only [stl, dNil, vals, val, WL]
    refine Lk04.gAll_map ?_
    rw [all_true]
    simp only [WB, Bool.not_true, ↓reduceIte, Bool.false_eq_true, dNext, dRet, dBin, frO, List.getElem?_cons_succ, List.getElem?_cons_zero, lenSet2_lst, dn]
    refine ⟨by omega, ?_⟩
    show Q (.dat (.bl (false ^^ decide (V.int (w.length : Nat) = V.int ((w.map D.str).length : Nat))))) _
    rw [List.length_map, decide_eq_true rfl]
    exact h
  · refine ⟨rfl, rfl, _, rfl, ⟨_, .inr rfl⟩, ?_⟩
    refine ite2' (c := decide (((w.map D.str).length : Int) > 3)) (fun e => by rw [List.length_map, l3] at e; cases e) (fun _ => ?_)
    refine all_words (ρ0 := [.fr (.tup (w.map .str)), .un]) w [] .un hw (by simp; omega) (fun _ => ?_) rfl
    rw [List.nil_append]
    dsimp only [stl, dNil, vals, val, WL]
    refine Lk04.gAll_map ?_
    rw [all_true]
    simp only [WB, Bool.not_true, ↓reduceIte, Bool.false_eq_true, dNext, dRet, dBin, frO, List.getElem?_cons_succ, List.getElem?_cons_zero, lenSet2_tup, dn]
    refine ⟨by omega, ?_⟩
    show Q (.dat (.bl (false ^^ decide (V.int (w.length : Nat) = V.int ((w.map D.str).length : Nat))))) _
    rw [List.length_map, decide_eq_true rfl]
    exact h
end KP

/-! KS5: a keeper made. -/
namespace KP
open PySem PySem.Spec PyProof.Rows L2 TL
theorem fNW : ¬ (("own_name" : Str) = "own_wants") := by decide +kernel
theorem fNR : ¬ (("own_name" : Str) = "own_rules") := by decide +kernel
theorem fWR : ¬ (("own_wants" : Str) = "own_rules") := by decide +kernel
theorem fDN : ¬ (("decided" : Str) = "own_name") := by decide +kernel
theorem fDW : ¬ (("decided" : Str) = "own_wants") := by decide +kernel
theorem fDR : ¬ (("decided" : Str) = "own_rules") := by decide +kernel
theorem lookup_putD (f g : Str) (v : D) : ∀ fs : List (Str × D), (putD f v fs).lookup g = if g = f then some v else fs.lookup g
  | [] => by
    show List.lookup g [(f, v)] = _
    by_cases h : g = f
    · simp only [List.lookup, beq_iff_eq.mpr h, if_pos h]
    · simp only [List.lookup, beq_eq_false_iff_ne.mpr h, if_neg h]
  | (k, x) :: r => by
    have ih := lookup_putD f g v r
    rw [show putD f v ((k, x) :: r) = (if k = f then (k, v) :: r else (k, x) :: putD f v r) from rfl]
    by_cases hk : k = f
    · rw [if_pos hk]
      by_cases h : g = k
      · simp only [List.lookup, beq_iff_eq.mpr h, if_pos (h.trans hk)]
      · simp only [List.lookup, beq_eq_false_iff_ne.mpr h, if_neg (fun e : g = f => h (e.trans hk.symm))]
    · rw [if_neg hk]
      by_cases h : g = k
      · simp only [List.lookup, beq_iff_eq.mpr h, if_neg (fun e : g = f => hk (h.symm.trans e))]
      · simp only [List.lookup, beq_eq_false_iff_ne.mpr h]
        exact ih
theorem length_putD (f : Str) (v : D) : ∀ fs : List (Str × D), (putD f v fs).length ≤ fs.length + 1
  | [] => Nat.le_refl _
  | (k, x) :: r => by
    have ih := length_putD f v r
    show (if k = f then (k, v) :: r else (k, x) :: putD f v r).length ≤ _
    by_cases hk : k = f
    · rw [if_pos hk, List.length_cons, List.length_cons]; omega
    · rw [if_neg hk, List.length_cons, List.length_cons]; omega
noncomputable def srtRu (r : Ru) : Ru := ⟨srt r.s, r.d, srt r.k⟩
noncomputable def kpW (t : Tk) : D := .tup ((srt t.w).map .str)
noncomputable def kpR (t : Tk) : D := .tup ((t.r.map srtRu).map ruD)
/-- the attributes of a keeper -/
noncomputable def kpF (t : Tk) : List (Str × D) := putD "own_rules" (kpR t) (putD "own_wants" (kpW t) (putD "own_name" (.str t.tag) []))
theorem kp_w (t : Tk) : (kpF t).lookup ("own_wants" : Str) = some (kpW t) := by unfold kpF; rw [lookup_putD, if_neg fWR, lookup_putD, if_pos rfl]
theorem kp_r (t : Tk) : (kpF t).lookup ("own_rules" : Str) = some (kpR t) := by unfold kpF; rw [lookup_putD, if_pos rfl]
theorem kp_n (t : Tk) : (kpF t).lookup ("own_name" : Str) = some (.str t.tag) := by unfold kpF; rw [lookup_putD, if_neg fNR, lookup_putD, if_neg fNW, lookup_putD, if_pos rfl]
theorem kp_d (t : Tk) : (kpF t).lookup ("decided" : Str) = none := by unfold kpF; rw [lookup_putD, if_neg fDR, lookup_putD, if_neg fDW, lookup_putD, if_neg fDN]; rfl
noncomputable def kpD (c : Ca) (t : Tk) : D := .obj c.Keeper (kpF t)
/-! ### __init__ -/
noncomputable def S_Keeper___init__ (c : Ca) : DSp := fun args Q => ∃ t : Tk, args = [.rs (.ob c.Keeper []), .fr (.str t.tag), .fr (.lst (t.w.map .str)), .fr (.lst (t.r.map ruD))] ∧ TkOk t ∧ Q (.dat .non) [.rs (.ob c.Keeper (kpF t)), .un, .un, .un]
noncomputable def rRules (c : Ca) : DTS := (dFldSet c.Keeper 0 "own_rules" ((dCB gTuple (dCons ((dLc (iSeq ((dFrz (dVar 3)))) (hTup 3 (hCons (hName 6) (hCons (hName 7) (hCons (hName 8) hNil)))) (dYes) ((dTup (dCons ((dCB gTuple (dCons ((dCB gSorted2 (dCons ((dVar 6)) dNil))) dNil))) (dCons ((dFrz (dVar 7))) (dCons ((dCB gTuple (dCons ((dCB gSorted2 (dCons ((dVar 8)) dNil))) dNil))) dNil))))) [6, 7, 8])) dNil))))
noncomputable def rSets (c : Ca) : DTS := (dSeq (dFldSet c.Keeper 0 "own_name" ((dFrz (dVar 1))))
      (dSeq (dFldSet c.Keeper 0 "own_wants" ((dCB gTuple (dCons ((dCB gSorted2 (dCons ((dVar 2)) dNil))) dNil))))
      (rRules c)))
noncomputable def r_Keeper___init__ (c : Ca) : DTS := (dSeq (dIf ((dNotT ((dTst ((dCall 1 S_is_word (dCons ((dFrz (dVar 1))) dNil))))))) dNever dNext)
      (dSeq (dIf ((dNotT ((dTst ((dCall 1 S_are_wants (dCons ((dFrz (dVar 2))) dNil))))))) dNever dNext)
      (dSeq (dIf ((dOrT ((dNotT ((dTst ((dCall 1 S_is_list (dCons ((dFrz (dVar 3))) dNil))))))) ((dTst (dBin gGt ((dCB gLen (dCons ((dVar 3)) dNil))) ((dC (.int 8)))))))) dNever dNext)
      (dSeq (dFor (iEnumB (dCons ((dFrz (dVar 3))) dNil)) (hTup 2 (hCons (hName 4) (hCons (hName 5) hNil))) (dIf ((dNotT ((dTst ((dCall 1 S_is_rule (dCons ((dFrz (dVar 5))) dNil))))))) dNever dNext))
      (rSets c)))))
theorem enum_map {α : Type} (f : α → D) (l : List α) : enumD (l.map f) = (l.zipIdx 0).map fun p => .tup [.int p.2, f p.1] := by
  unfold enumD
  rw [List.zipIdx_map, List.map_map]
  rfl
section
variable {E : DEnds} {s0 s1 s2 s3 : Sl}
theorem check_loop : ∀ (l : List (Ru × Nat)) (o4 o5 : Sl), (∀ p ∈ l, RuOk p.1) → (∀ o4 o5, E.nx [s0, s1, s2, s3, o4, o5, .un, .un, .un]) →
    dForL (hTup 2 (hCons (hName 4) (hCons (hName 5) hNil))) (dIf ((dNotT ((dTst ((dCall 1 S_is_rule (dCons ((dFrz (dVar 5))) dNil))))))) dNever dNext) E (l.map fun p => .tup [.int p.2, ruD p.1]) [s0, s1, s2, s3, o4, o5, .un, .un, .un]
  | [], o4, o5, _, h => h o4 o5
  | p :: l, o4, o5, hl, h => by
    have hp := hl p (by simp)
    refine ⟨rfl, rfl, rfl, rfl, ruD p.1, rfl, ru_lk4 hp, ?_⟩
    rw [rule_true hp]
    exact check_loop l _ _ (fun q hq => hl q (List.mem_cons_of_mem _ hq)) h
theorem rules_lc {ρ0 : TL.Env} {Q : Rs → TL.Env → Prop} {o4 o5 : Sl} : ∀ (l : List Ru) (acc : List D) (o6 o7 o8 : Sl), (∀ r ∈ l, RuOk r) → acc.length + l.length ≤ 900 →
    Q (.nw (.ls (acc ++ (l.map srtRu).map ruD))) [s0, s1, s2, s3, o4, o5, frO ρ0[6]?, frO ρ0[7]?, frO ρ0[8]?] →
    dLcL (hTup 3 (hCons (hName 6) (hCons (hName 7) (hCons (hName 8) hNil)))) (dYes) ((dTup (dCons ((dCB gTuple (dCons ((dCB gSorted2 (dCons ((dVar 6)) dNil))) dNil))) (dCons ((dFrz (dVar 7))) (dCons ((dCB gTuple (dCons ((dCB gSorted2 (dCons ((dVar 8)) dNil))) dNil))) dNil))))) [6, 7, 8] ρ0 (l.map ruD) acc [s0, s1, s2, s3, o4, o5, o6, o7, o8] Q
  | [], acc, o6, o7, o8, _, _, h => by
    rw [List.map_nil, List.map_nil, List.append_nil] at h
    exact h
  | r :: l, acc, o6, o7, o8, hr, hl, h => by
    rw [List.length_cons] at hl
    have hp := hr r (by simp)
    simp only [List.map_cons, ruD]
    simp only [eq_self, decide_true, decide_false, Bool.xor_true, Bool.true_xor, Bool.xor_false, Option.some.injEq, Sl.ls.injEq, exists_eq', List.tail_cons, Bool.not_true, Bool.not_false, Nat.reduceAdd, dSeq, dIf, dTst, dBin, dVar, dTup, dNil, dCons, dLst, dC, dRet, dNext, dAsg, dFrz, hTup, hCons, hName, hNil, dSet, dPut, dIfE, dNotT, dAndT, dOrT, dAndV, dOrV, dCB, stl, val, vals, datL, WB, W1, W2, WL, ↓reduceIte, Bool.false_eq_true, backE, bFor, bLoop, bLast, dLc, dLcL, dForL, gEq_unit, gEq_unit0, gEq_str, gEq_int, gIx_t0, gIx_t1, gIx_t2, gLen_lst, gLen_tup, gAll_map_eq, gSorted2_lst_eq, gSorted2_tup_eq, gTuple_lst_eq, List.map_cons, List.map_nil, iSeq, dYes, wipeE, resto, frO, gIn_tup_eq, gIn_lst_eq, List.getElem?_cons_zero, List.getElem?_cons_succ, List.set_cons_zero, List.set_cons_succ, List.cons_append, List.nil_append, List.replicate, Nat.reduceSub, List.length_cons, List.length_nil, true_and, and_true, Bool.false_xor, dEnd, fin1, dFldSet, dFld, dMth, dSlice, dNoP, dPart, slotsOf, slotOf]
    refine ⟨by have := hp.sl; omega, by have := hp.kl; omega, sz (Nat.le_of_ble_eq_true rfl), fin_big (by omega), ?_⟩
    refine rules_lc l (acc ++ [ruD (srtRu r)]) _ _ _ (fun q hq => hr q (List.mem_cons_of_mem _ hq)) (by simp; omega) ?_
    simpa using h
end
theorem k_Keeper___init__ (c : Ca) : Keeps (S_Keeper___init__ c) 4 9 (r_Keeper___init__ c) := by
  rintro args Q h0 ⟨t, rfl, ht, h⟩
  clear h0
  refine ⟨rfl, rfl, _, rfl, lk_wd ht.tag, ?_⟩
  rw [isWord_wd ht.tag]
  refine ⟨rfl, rfl, t.w, _, rfl, .inl rfl, ht.w, ht.wn, ht.wl, ?_⟩
  refine ⟨rfl, rfl, _, rfl, ⟨_, .inl rfl⟩, ?_⟩
  refine ite2' (c := decide (((t.r.map ruD).length : Int) > 8)) (fun e => by rw [List.length_map] at e; have := ht.rl; have := of_decide_eq_true e; omega) (fun _ => ?_)
  show dForL (hTup 2 (hCons (hName 4) (hCons (hName 5) hNil))) (dIf ((dNotT ((dTst ((dCall 1 S_is_rule (dCons ((dFrz (dVar 5))) dNil))))))) dNever dNext) _ (enumD (t.r.map ruD)) [.rs (.ob c.Keeper []), .fr (.str t.tag), .fr (.lst (t.w.map .str)), .fr (.lst (t.r.map ruD)), .un, .un, .un, .un, .un]
  rw [enum_map]
  refine check_loop (t.r.zipIdx 0) .un .un (fun p hp => ht.r p.1 (by
    obtain ⟨i, hi, e⟩ := List.mem_iff_getElem.mp hp
    rw [List.getElem_zipIdx] at e
    rw [← e]
    exact List.getElem_mem _)) fun o4 o5 => ?_
  have lw : t.w.length < 64 := by have := ht.wl; omega
  show rSets c (dEnd 4 Q) [.rs (.ob c.Keeper []), .fr (.str t.tag), .fr (.lst (t.w.map .str)), .fr (.lst (t.r.map ruD)), o4, o5, .un, .un, .un]
  simp only [rSets]
  simp only [eq_self, decide_true, decide_false, Bool.xor_true, Bool.true_xor, Bool.xor_false, Option.some.injEq, Sl.ls.injEq, exists_eq', List.tail_cons, Bool.not_true, Bool.not_false, Nat.reduceAdd, dSeq, dIf, dTst, dBin, dVar, dTup, dNil, dCons, dLst, dC, dRet, dNext, dAsg, dFrz, hTup, hCons, hName, hNil, dSet, dPut, dIfE, dNotT, dAndT, dOrT, dAndV, dOrV, dCB, stl, val, vals, datL, WB, W1, W2, WL, ↓reduceIte, Bool.false_eq_true, backE, bFor, bLoop, bLast, dLc, dLcL, dForL, gEq_unit, gEq_unit0, gEq_str, gEq_int, gIx_t0, gIx_t1, gIx_t2, gLen_lst, gLen_tup, gAll_map_eq, gSorted2_lst_eq, gSorted2_tup_eq, gTuple_lst_eq, List.map_cons, List.map_nil, iSeq, dYes, wipeE, resto, frO, gIn_tup_eq, gIn_lst_eq, List.getElem?_cons_zero, List.getElem?_cons_succ, List.set_cons_zero, List.set_cons_succ, List.cons_append, List.nil_append, List.replicate, Nat.reduceSub, List.length_cons, List.length_nil, true_and, and_true, Bool.false_xor, dEnd, fin1, dFldSet, dFld, dMth, dSlice, dNoP, dPart, slotsOf, slotOf]
  refine ⟨by decide, lw, Nat.lt_of_le_of_lt (length_putD _ _ _) (by decide), ?_⟩
  show rRules c (dEnd 4 Q) [.rs (.ob c.Keeper (putD "own_wants" (kpW t) (putD "own_name" (.str t.tag) []))), .fr (.str t.tag), .fr (.lst (t.w.map .str)), .fr (.lst (t.r.map ruD)), o4, o5, .un, .un, .un]
  refine rules_lc (ρ0 := [.rs (.ob c.Keeper (putD "own_wants" (kpW t) (putD "own_name" (.str t.tag) []))), .fr (.str t.tag), .fr (.lst (t.w.map .str)), .fr (.lst (t.r.map ruD)), o4, o5, .un, .un, .un]) t.r [] _ _ _ ht.r (by have := ht.rl; simp; omega) ?_
  rw [List.nil_append]
  refine ⟨rfl, ?_, h⟩
  have h1 := length_putD "own_name" (.str t.tag) []
  have h2 := length_putD "own_wants" (kpW t) (putD "own_name" (.str t.tag) [])
  show (putD "own_wants" (kpW t) (putD "own_name" (.str t.tag) [])).length < 1000
  have : ([] : List (Str × D)).length = 0 := rfl
  omega
/-! ### decided -/
def decD : Option Nat → D
  | none => .non
  | some i => .int i
noncomputable def S_Keeper_decided (c : Ca) : DSp := fun args Q => ∃ (t : Tk) (v : Vw), args = [.fr (kpD c t), .fr (vwD v)] ∧ TkOk t ∧ Q (.dat (decD (dec (kn v t.w) t.r))) [.un, .un]
def bDec : DTS := (dIf ((dTst ((dCB gAll (dCons ((dLc (iSeq ((dBin gIx ((dVar 4)) (dC (.int 0))))) (hName 5) (dYes) ((dBin (gIn false) ((dVar 5)) ((dVar 2)))) [5])) dNil))))) (dRet ((dVar 3))) dNext)
noncomputable def r_Keeper_decided (c : Ca) : DTS := (dSeq (dSet 2 2 (dFrz (dCall 2 S_held_for (dCons ((dFrz (dVar 1))) (dCons ((dFld c.Keeper "own_wants" ((dVar 0)))) dNil)))))
      (dSeq (dFor (iEnumB (dCons ((dFld c.Keeper "own_rules" ((dVar 0)))) dNil)) (hTup 2 (hCons (hName 3) (hCons (hName 4) hNil))) bDec)
      (dRet (dC .non))))
section
variable {E : DEnds} {s0 s1 s2 s3 s4 : Sl} {K : List Str}
theorem fits_lc {ρ0 : TL.Env} {Q : Rs → TL.Env → Prop} : ∀ (zs : List Str) (acc : List Bool) (o5 : Sl), acc.length + zs.length ≤ 900 →
    Q (.nw (.ls ((acc ++ zs.map fun z => decide (z ∈ K)).map .bl))) [s0, s1, .fr (.lst (K.map .str)), s3, s4, frO ρ0[5]?] →
    dLcL (hName 5) dYes (dBin (gIn false) (dVar 5) (dVar 2)) [5] ρ0 (zs.map .str) (acc.map .bl) [s0, s1, .fr (.lst (K.map .str)), s3, s4, o5] Q
  | [], acc, o5, _, h => by
    rw [List.map_nil, List.append_nil] at h
    exact h
  | z :: zs, acc, o5, hl, h => by
    rw [List.length_cons] at hl
    have ih := fits_lc (ρ0 := ρ0) (Q := Q) zs (acc ++ [decide (z ∈ K)]) (.fr (.str z)) (by simp; omega) (by simpa using h)
    rw [List.map_append] at ih
    simp only [eq_self, decide_true, decide_false, Bool.xor_true, Bool.true_xor, Bool.xor_false, Option.some.injEq, Sl.ls.injEq, exists_eq', List.tail_cons, Bool.not_true, Bool.not_false, Nat.reduceAdd, dSeq, dIf, dTst, dBin, dVar, dTup, dNil, dCons, dLst, dC, dRet, dNext, dAsg, dFrz, hTup, hCons, hName, hNil, dSet, dPut, dIfE, dNotT, dAndT, dOrT, dAndV, dOrV, dCB, stl, val, vals, datL, WB, W1, W2, WL, ↓reduceIte, Bool.false_eq_true, backE, bFor, bLoop, bLast, dLc, dLcL, dForL, gEq_unit, gEq_unit0, gEq_str, gEq_int, gIx_t0, gIx_t1, gIx_t2, gLen_lst, gLen_tup, gAll_map_eq, gSorted2_lst_eq, gSorted2_tup_eq, gTuple_lst_eq, List.map_cons, List.map_nil, iSeq, dYes, wipeE, resto, frO, gIn_tup_eq, gIn_lst_eq, List.getElem?_cons_zero, List.getElem?_cons_succ, List.set_cons_zero, List.set_cons_succ, List.cons_append, List.nil_append, List.replicate, Nat.reduceSub, List.length_cons, List.length_nil, true_and, and_true, Bool.false_xor, dEnd, fin1, dFldSet, dFld, dMth, dSlice, dNoP, dPart, slotsOf, slotOf]
    exact ⟨by rw [List.length_map]; exact fin_big (by omega), ih⟩
theorem dec_one {i : Nat} {r : Ru} {o3 o4 o5 : Sl} (hl : r.s.length ≤ 6) (h : if (r.s.all fun z => decide (z ∈ K)) = true then E.rt (.dat (.int i)) [s0, s1, .fr (.lst (K.map .str)), .fr (.int i), .fr (ruD r), .un] else E.nx [s0, s1, .fr (.lst (K.map .str)), .fr (.int i), .fr (ruD r), .un]) :
    bDec E [s0, s1, .fr (.lst (K.map .str)), .fr (.int i), .fr (ruD r), .un] := by
  simp only [bDec, ruD]
  simp only [eq_self, decide_true, decide_false, Bool.xor_true, Bool.true_xor, Bool.xor_false, Option.some.injEq, Sl.ls.injEq, exists_eq', List.tail_cons, Bool.not_true, Bool.not_false, Nat.reduceAdd, dSeq, dIf, dTst, dBin, dVar, dTup, dNil, dCons, dLst, dC, dRet, dNext, dAsg, dFrz, hTup, hCons, hName, hNil, dSet, dPut, dIfE, dNotT, dAndT, dOrT, dAndV, dOrV, dCB, stl, val, vals, datL, WB, W1, W2, WL, ↓reduceIte, Bool.false_eq_true, backE, bFor, bLoop, bLast, dLc, dLcL, dForL, gEq_unit, gEq_unit0, gEq_str, gEq_int, gIx_t0, gIx_t1, gIx_t2, gLen_lst, gLen_tup, gAll_map_eq, gSorted2_lst_eq, gSorted2_tup_eq, gTuple_lst_eq, List.map_cons, List.map_nil, iSeq, dYes, wipeE, resto, frO, gIn_tup_eq, gIn_lst_eq, List.getElem?_cons_zero, List.getElem?_cons_succ, List.set_cons_zero, List.set_cons_succ, List.cons_append, List.nil_append, List.replicate, Nat.reduceSub, List.length_cons, List.length_nil, true_and, and_true, Bool.false_xor, dEnd, fin1, dFldSet, dFld, dMth, dSlice, dNoP, dPart, slotsOf, slotOf]
  refine fits_lc (ρ0 := [s0, s1, .fr (.lst (K.map .str)), .fr (.int i), .fr (ruD r), .un]) r.s [] .un (by simp; omega) ?_
  rw [List.nil_append]
  simp only [eq_self, decide_true, decide_false, Bool.xor_true, Bool.true_xor, Bool.xor_false, Option.some.injEq, Sl.ls.injEq, exists_eq', List.tail_cons, Bool.not_true, Bool.not_false, Nat.reduceAdd, dSeq, dIf, dTst, dBin, dVar, dTup, dNil, dCons, dLst, dC, dRet, dNext, dAsg, dFrz, hTup, hCons, hName, hNil, dSet, dPut, dIfE, dNotT, dAndT, dOrT, dAndV, dOrV, dCB, stl, val, vals, datL, WB, W1, W2, WL, ↓reduceIte, Bool.false_eq_true, backE, bFor, bLoop, bLast, dLc, dLcL, dForL, gEq_unit, gEq_unit0, gEq_str, gEq_int, gIx_t0, gIx_t1, gIx_t2, gLen_lst, gLen_tup, gAll_map_eq, gSorted2_lst_eq, gSorted2_tup_eq, gTuple_lst_eq, List.map_cons, List.map_nil, iSeq, dYes, wipeE, resto, frO, gIn_tup_eq, gIn_lst_eq, List.getElem?_cons_zero, List.getElem?_cons_succ, List.set_cons_zero, List.set_cons_succ, List.cons_append, List.nil_append, List.replicate, Nat.reduceSub, List.length_cons, List.length_nil, true_and, and_true, Bool.false_xor, dEnd, fin1, dFldSet, dFld, dMth, dSlice, dNoP, dPart, slotsOf, slotOf]
  have e : (r.s.map fun z => decide (z ∈ K)).all id = r.s.all fun z => decide (z ∈ K) := by rw [List.all_map]; rfl
  rw [e]
  exact h
theorem dec_loop : ∀ (l : List Ru) (n : Nat) (o3 o4 : Sl), (∀ r ∈ l, r.s.length ≤ 6) →
    (∀ o3 o4, match l.findIdx? (fun r => r.s.all fun z => decide (z ∈ K)) with
      | none => E.nx [s0, s1, .fr (.lst (K.map .str)), o3, o4, .un]
      | some i => E.rt (.dat (.int (n + i : Nat))) [s0, s1, .fr (.lst (K.map .str)), o3, o4, .un]) →
    dForL (hTup 2 (hCons (hName 3) (hCons (hName 4) hNil))) bDec E ((l.zipIdx n).map fun p => .tup [.int p.2, ruD p.1]) [s0, s1, .fr (.lst (K.map .str)), o3, o4, .un]
  | [], n, o3, o4, _, h => h o3 o4
  | r :: l, n, o3, o4, hl, h => by
    refine ⟨rfl, rfl, dec_one (i := n) (o3 := o3) (o4 := o4) (o5 := .un) (hl r (by simp)) ?_⟩
    cases e : r.s.all fun z => decide (z ∈ K) with
    | true =>
      refine iteT ?_
      have := h (.fr (.int n)) (.fr (ruD r))
      rw [List.findIdx?_cons, e] at this
      exact this
    | false =>
      refine iteF ?_
      refine dec_loop l (n + 1) _ _ (fun q hq => hl q (List.mem_cons_of_mem _ hq)) fun o3 o4 => ?_
      have := h o3 o4
      rw [List.findIdx?_cons, e] at this
      simp only [Bool.false_eq_true, if_false] at this
      cases f : l.findIdx? (fun r => r.s.all fun z => decide (z ∈ K)) with
      | none =>
        rw [f] at this
        exact this
      | some i =>
        rw [f] at this
        have e2 : n + 1 + i = n + (i + 1) := by omega
        show E.rt (.dat (.int ((n + 1 + i : Nat) : Int))) _
        rw [e2]
        exact this
end
end KP

/-! KS6: keepers decide; parted. -/
namespace KP
open PySem PySem.Spec PyProof.Rows L2 TL
theorem all_perm {a b : List Str} (p : a.Perm b) (f : Str → Bool) : a.all f = b.all f := by
  cases h : b.all f with
  | true => rw [List.all_eq_true] at h ⊢; exact fun x hx => h x (p.mem_iff.mp hx)
  | false =>
    cases h2 : a.all f with
    | false => rfl
    | true =>
      rw [List.all_eq_true] at h2
      have : b.all f = true := List.all_eq_true.mpr fun x hx => h2 x (p.mem_iff.mpr hx)
      rw [this] at h
      cases h
theorem mem_dec {a b : List Str} (h : ∀ z, z ∈ a ↔ z ∈ b) : (fun z => decide (z ∈ a)) = fun z => decide (z ∈ b) := funext fun z => decide_eq_decide.mpr (h z)
/-- sorted rules, sorted conditions: the same rule -/
theorem dec_srt (K : List Str) (rs : List Ru) : (rs.map srtRu).findIdx? (fun r => r.s.all fun z => decide (z ∈ srt K)) = dec K rs := by
  unfold dec
  rw [List.findIdx?_map]
  congr 1
  funext r
  show ((srt r.s).all fun z => decide (z ∈ srt K)) = r.s.all fun z => decide (z ∈ K)
  rw [mem_dec (fun z => srt_mem), all_perm (srt_perm r.s)]
theorem k_Keeper_decided (c : Ca) : Keeps (S_Keeper_decided c) 2 6 (r_Keeper_decided c) := by
  rintro args Q h0 ⟨t, v, rfl, ht, h⟩
  clear h0
  have ew : kn v (srt t.w) = kn v t.w := kn_congr fun x => srt_mem
  have key : dSeq (dFor (iEnumB (dCons ((dFld c.Keeper "own_rules" ((dVar 0)))) dNil)) (hTup 2 (hCons (hName 3) (hCons (hName 4) hNil))) bDec)
      (dRet (dC .non)) (dEnd 2 Q) [.fr (kpD c t), .fr (vwD v), .fr (.lst ((srt (kn v t.w)).map .str)), .un, .un, .un] := by
    unfold dSeq dFor iEnumB dCons dFld dVar
    simp only [List.getElem?_cons_zero, val, kpD, kp_r]
    refine ⟨trivial, ?_⟩
    show dForL (hTup 2 (hCons (hName 3) (hCons (hName 4) hNil))) bDec _ (enumD ((t.r.map srtRu).map ruD)) [.fr (kpD c t), .fr (vwD v), .fr (.lst ((srt (kn v t.w)).map .str)), .un, .un, .un]
    rw [enum_map]
    refine dec_loop (t.r.map srtRu) 0 .un .un (fun r hr => ?_) fun o3 o4 => ?_
    · obtain ⟨q, hq, rfl⟩ := List.mem_map.mp hr
      show (srt q.s).length ≤ 6
      rw [srt_len]
      exact (ht.r q hq).sl
    · rw [dec_srt]
      cases e : dec (kn v t.w) t.r with
      | none => rw [e] at h; exact h
      | some i =>
        rw [e] at h
        show Q (.dat (.int ((0 + i : Nat) : Int))) _
        rw [Nat.zero_add]
        exact h
  simp only [r_Keeper_decided, kpD] at key ⊢
  simp only [eq_self, decide_true, decide_false, Bool.xor_true, Bool.true_xor, Bool.xor_false, Option.some.injEq, Sl.ls.injEq, exists_eq', List.tail_cons, Bool.not_true, Bool.not_false, Nat.reduceAdd, dSeq, dIf, dTst, dBin, dVar, dTup, dNil, dCons, dLst, dC, dRet, dNext, dAsg, dFrz, hTup, hCons, hName, hNil, dSet, dPut, dIfE, dNotT, dAndT, dOrT, dAndV, dOrV, dCB, stl, val, vals, datL, WB, W1, W2, WL, ↓reduceIte, Bool.false_eq_true, backE, bFor, bLoop, bLast, dLc, dLcL, dForL, gEq_unit, gEq_unit0, gEq_str, gEq_int, gIx_t0, gIx_t1, gIx_t2, gLen_lst, gLen_tup, gAll_map_eq, gSorted2_lst_eq, gSorted2_tup_eq, gTuple_lst_eq, List.map_cons, List.map_nil, iSeq, dYes, wipeE, resto, frO, gIn_tup_eq, gIn_lst_eq, List.getElem?_cons_zero, List.getElem?_cons_succ, List.set_cons_zero, List.set_cons_succ, List.cons_append, List.nil_append, List.replicate, Nat.reduceSub, List.length_cons, List.length_nil, true_and, and_true, Bool.false_xor, dEnd, fin1, dFldSet, dFld, dMth, dSlice, dNoP, dPart, slotsOf, slotOf, dCall, kp_w]
  refine ⟨rfl, v, srt t.w, rfl, ?_⟩
  rw [ew]
  exact key
/-! ### the views -/
def S_need_words : DSp := fun args Q => ∃ (ws : List Str) (d : D), args = [.fr d] ∧ (d = .lst (ws.map .str) ∨ d = .tup (ws.map .str)) ∧ (∀ z ∈ ws, Wd z) ∧ ws.Nodup ∧ 1 ≤ ws.length ∧ ws.length ≤ 3 ∧ Q (.dat .non) [.un]
def bNeed : DTS := (dIf ((dOrT ((dNotT ((dTst ((dCall 1 S_is_word (dCons ((dFrz (dVar 2))) dNil))))))) ((dTst (dBin (gIn false) ((dVar 2)) ((dSlice ((dVar 0)) dNoP (dPart ((dVar 1)))))))))) dNever dNext)
def r_need_words : DTS := (dSeq (dIf ((dOrT ((dNotT ((dTst ((dCall 1 S_is_list (dCons ((dFrz (dVar 0))) dNil))))))) ((dNotT ((dTst (dChain gLe gLe (dC (.int 1)) ((dCB gLen (dCons ((dVar 0)) dNil))) ((dC (.int 3)))))))))) dNever dNext)
      (dFor (iEnumB (dCons ((dFrz (dVar 0))) dNil)) (hTup 2 (hCons (hName 1) (hCons (hName 2) hNil))) bNeed))
theorem cut_take {α : Type} (xs : List α) (n : Nat) : ((xs.drop (HT.sIx xs.length 0 none)).take (HT.sIx xs.length xs.length (some ((n : Nat) : Int)) - HT.sIx xs.length 0 none)) = xs.take n := by
  rw [HT.sIx_none, HT.sIx_nat, List.drop_zero, Nat.sub_zero]
  by_cases h : n ≤ xs.length
  · rw [Nat.min_eq_left h]
  · rw [Nat.min_eq_right (by omega), List.take_length, List.take_of_length_le (by omega)]
theorem cutD_take (xs : List D) (n : Nat) : cutD xs none (some (n : Int)) = xs.take n := cut_take xs n
section
variable {E : DEnds} {ws : List Str}
theorem need_one {d : D} (hd : d = .lst (ws.map .str) ∨ d = .tup (ws.map .str)) (hl : ws.length ≤ 3) {i : Nat} {z : Str} (wz : Wd z) (hz : z ∉ ws.take i) (h : E.nx [.fr d, .fr (.int i), .fr (.str z)]) :
    bNeed E [.fr d, .fr (.int i), .fr (.str z)] := by
  refine ⟨rfl, rfl, _, rfl, lk_wd wz, ?_⟩
  rw [isWord_wd wz]
  have hd2 : decide (z ∈ ws.take i) = false := decide_eq_false hz
  have e : cutD (ws.map .str) none (some (i : Int)) = (ws.take i).map .str := by rw [cutD_take, List.map_take]
  rcases hd with rfl | rfl <;> (
    simp only [eq_self, decide_true, decide_false, Bool.xor_true, Bool.true_xor, Bool.xor_false, Option.some.injEq, Sl.ls.injEq, exists_eq', List.tail_cons, Bool.not_true, Bool.not_false, Nat.reduceAdd, dSeq, dIf, dTst, dBin, dVar, dTup, dNil, dCons, dLst, dC, dRet, dNext, dAsg, dFrz, hTup, hCons, hName, hNil, dSet, dPut, dIfE, dNotT, dAndT, dOrT, dAndV, dOrV, dCB, stl, val, vals, datL, WB, W1, W2, WL, ↓reduceIte, Bool.false_eq_true, backE, bFor, bLoop, bLast, dLc, dLcL, dForL, gEq_unit, gEq_unit0, gEq_str, gEq_int, gIx_t0, gIx_t1, gIx_t2, gLen_lst, gLen_tup, gAll_map_eq, gSorted2_lst_eq, gSorted2_tup_eq, gTuple_lst_eq, List.map_cons, List.map_nil, iSeq, dYes, wipeE, resto, frO, gIn_tup_eq, gIn_lst_eq, List.getElem?_cons_zero, List.getElem?_cons_succ, List.set_cons_zero, List.set_cons_succ, List.cons_append, List.nil_append, List.replicate, Nat.reduceSub, List.length_cons, List.length_nil, true_and, and_true, Bool.false_xor, dEnd, fin1, dFldSet, dFld, dMth, dSlice, dNoP, dPart, slotsOf, slotOf, gSlice, e, hd2]
    exact h)
theorem need_loop {d : D} (hd : d = .lst (ws.map .str) ∨ d = .tup (ws.map .str)) (hl : ws.length ≤ 3) : ∀ (l : List (Str × Nat)) (o1 o2 : Sl), (∀ p ∈ l, Wd p.1 ∧ p.1 ∉ ws.take p.2) → (∀ o1 o2, E.nx [.fr d, o1, o2]) →
    dForL (hTup 2 (hCons (hName 1) (hCons (hName 2) hNil))) bNeed E (l.map fun p => .tup [.int p.2, .str p.1]) [.fr d, o1, o2]
  | [], o1, o2, _, h => h o1 o2
  | p :: l, o1, o2, hp, h => by
    obtain ⟨h1, h2⟩ := hp p (by simp)
    refine ⟨rfl, rfl, need_one (i := p.2) (z := p.1) hd hl h1 h2 ?_⟩
    exact need_loop hd hl l _ _ (fun q hq => hp q (List.mem_cons_of_mem _ hq)) h
theorem nodup_zip {ws : List Str} (hn : ws.Nodup) : ∀ p ∈ ws.zipIdx 0, p.1 ∈ ws ∧ p.1 ∉ ws.take p.2 := by
  intro p hp
  obtain ⟨i, hi, e⟩ := List.mem_iff_getElem.mp hp
  rw [List.getElem_zipIdx] at e
  rw [List.length_zipIdx] at hi
  subst e
  refine ⟨List.getElem_mem _, fun z => ?_⟩
  simp only [Nat.zero_add] at z
  obtain ⟨j, hj, e2⟩ := List.mem_iff_getElem.mp z
  rw [List.getElem_take] at e2
  rw [List.length_take] at hj
  exact List.pairwise_iff_getElem.mp hn j i (by omega) hi (by omega) e2
theorem k_need_words : Keeps S_need_words 1 3 r_need_words := by
  rintro args Q h0 ⟨ws, d, rfl, hd, hw, hn, h1, h3, h⟩
  clear h0
  have main : ∀ o1 o2, dForL (hTup 2 (hCons (hName 1) (hCons (hName 2) hNil))) bNeed (dEnd 1 Q) (enumD (ws.map .str)) [.fr d, o1, o2] := by
    intro o1 o2
    rw [enum_map]
    exact need_loop hd h3 _ _ _ (fun p hp => ⟨hw _ (nodup_zip hn p hp).1, (nodup_zip hn p hp).2⟩) fun o1 o2 => h
  have g1 : decide ((1 : Int) ≤ ws.length) = true := decide_eq_true (by omega)
  have g2 : decide ((ws.length : Int) ≤ 3) = true := decide_eq_true (by omega)
  refine ⟨rfl, rfl, d, rfl, ?_, ?_⟩
  · rcases hd with rfl | rfl
    · exact ⟨_, .inl rfl⟩
    · exact ⟨_, .inr rfl⟩
  · rcases hd with rfl | rfl <;> (
      simp only [eq_self, decide_true, decide_false, Bool.xor_true, Bool.true_xor, Bool.xor_false, Option.some.injEq, Sl.ls.injEq, exists_eq', List.tail_cons, Bool.not_true, Bool.not_false, Nat.reduceAdd, dSeq, dIf, dTst, dBin, dVar, dTup, dNil, dCons, dLst, dC, dRet, dNext, dAsg, dFrz, hTup, hCons, hName, hNil, dSet, dPut, dIfE, dNotT, dAndT, dOrT, dAndV, dOrV, dCB, stl, val, vals, datL, WB, W1, W2, WL, ↓reduceIte, Bool.false_eq_true, backE, bFor, bLoop, bLast, dLc, dLcL, dForL, gEq_unit, gEq_unit0, gEq_str, gEq_int, gIx_t0, gIx_t1, gIx_t2, gLen_lst, gLen_tup, gAll_map_eq, gSorted2_lst_eq, gSorted2_tup_eq, gTuple_lst_eq, List.map_cons, List.map_nil, iSeq, dYes, wipeE, resto, frO, gIn_tup_eq, gIn_lst_eq, List.getElem?_cons_zero, List.getElem?_cons_succ, List.set_cons_zero, List.set_cons_succ, List.cons_append, List.nil_append, List.replicate, Nat.reduceSub, List.length_cons, List.length_nil, true_and, and_true, Bool.false_xor, dEnd, fin1, dFldSet, dFld, dMth, dSlice, dNoP, dPart, slotsOf, slotOf, dChain, gLe, gOrd, List.length_map, g1, g2]
      exact main _ _)
/-! ### all views -/
noncomputable def S_all_views : DSp := fun args Q => ∃ (ws : List Str) (d : D), args = [.fr d] ∧ (d = .lst (ws.map .str) ∨ d = .tup (ws.map .str)) ∧ (∀ z ∈ ws, Wd z) ∧ ws.Nodup ∧ 1 ≤ ws.length ∧ ws.length ≤ 3 ∧ Q (.nw (.ls ((vws (srt ws)).map vwD))) [.un]
def r_all_views : DTS := (dSeq (dDrop ((dCall 1 S_need_words (dCons ((dFrz (dVar 0))) dNil))))
      (dRet ((dCall 1 S_views_of (dCons ((dCB gSorted2 (dCons ((dVar 0)) dNil))) dNil)))))
theorem k_all_views : Keeps S_all_views 1 1 r_all_views := by
  rintro args Q h0 ⟨ws, d, rfl, hd, hw, hn, h1, h3, h⟩
  clear h0
  refine ⟨rfl, rfl, ws, d, rfl, hd, hw, hn, h1, h3, ?_⟩
  rcases hd with rfl | rfl
  · simp only [eq_self, decide_true, decide_false, Bool.xor_true, Bool.true_xor, Bool.xor_false, Option.some.injEq, Sl.ls.injEq, exists_eq', List.tail_cons, Bool.not_true, Bool.not_false, Nat.reduceAdd, dSeq, dIf, dTst, dBin, dVar, dTup, dNil, dCons, dLst, dC, dRet, dNext, dAsg, dFrz, hTup, hCons, hName, hNil, dSet, dPut, dIfE, dNotT, dAndT, dOrT, dAndV, dOrV, dCB, stl, val, vals, datL, WB, W1, W2, WL, ↓reduceIte, Bool.false_eq_true, backE, bFor, bLoop, bLast, dLc, dLcL, dForL, gEq_unit, gEq_unit0, gEq_str, gEq_int, gIx_t0, gIx_t1, gIx_t2, gLen_lst, gLen_tup, gAll_map_eq, gSorted2_lst_eq, gSorted2_tup_eq, gTuple_lst_eq, List.map_cons, List.map_nil, iSeq, dYes, wipeE, resto, frO, gIn_tup_eq, gIn_lst_eq, List.getElem?_cons_zero, List.getElem?_cons_succ, List.set_cons_zero, List.set_cons_succ, List.cons_append, List.nil_append, List.replicate, Nat.reduceSub, List.length_cons, List.length_nil, true_and, and_true, Bool.false_xor, dEnd, fin1, dFldSet, dFld, dMth, dSlice, dNoP, dPart, slotsOf, slotOf, dCall]
    exact ⟨by omega, rfl, srt ws, rfl, by rw [srt_len]; exact h3, h⟩
  · simp only [eq_self, decide_true, decide_false, Bool.xor_true, Bool.true_xor, Bool.xor_false, Option.some.injEq, Sl.ls.injEq, exists_eq', List.tail_cons, Bool.not_true, Bool.not_false, Nat.reduceAdd, dSeq, dIf, dTst, dBin, dVar, dTup, dNil, dCons, dLst, dC, dRet, dNext, dAsg, dFrz, hTup, hCons, hName, hNil, dSet, dPut, dIfE, dNotT, dAndT, dOrT, dAndV, dOrV, dCB, stl, val, vals, datL, WB, W1, W2, WL, ↓reduceIte, Bool.false_eq_true, backE, bFor, bLoop, bLast, dLc, dLcL, dForL, gEq_unit, gEq_unit0, gEq_str, gEq_int, gIx_t0, gIx_t1, gIx_t2, gLen_lst, gLen_tup, gAll_map_eq, gSorted2_lst_eq, gSorted2_tup_eq, gTuple_lst_eq, List.map_cons, List.map_nil, iSeq, dYes, wipeE, resto, frO, gIn_tup_eq, gIn_lst_eq, List.getElem?_cons_zero, List.getElem?_cons_succ, List.set_cons_zero, List.set_cons_succ, List.cons_append, List.nil_append, List.replicate, Nat.reduceSub, List.length_cons, List.length_nil, true_and, and_true, Bool.false_xor, dEnd, fin1, dFldSet, dFld, dMth, dSlice, dNoP, dPart, slotsOf, slotOf, dCall]
    exact ⟨by omega, rfl, srt ws, rfl, by rw [srt_len]; exact h3, h⟩
/-! ### choice -/
noncomputable def S_choice (c : Ca) : DSp := fun args Q => ∃ (t : Tk) (v : Vw), args = [.fr (kpD c t), .fr (vwD v)] ∧ TkOk t ∧ Q (.dat (choD true (cho (kn v t.w) t.r))) [.un, .un]
noncomputable def r_choice (c : Ca) : DTS := (dSeq (dSet 2 2 ((dMth c.Keeper "decided" 2 (S_Keeper_decided c) ((dVar 0)) (dCons ((dFrz (dVar 1))) dNil))))
      (dRet ((dIfE ((dTst (dBin (gIsN false) ((dVar 2)) (dC .non)))) (dC .non) ((dSlice ((dBin gIx ((dFld c.Keeper "own_rules" ((dVar 0)))) ((dVar 2)))) (dPart (dC (.int 1))) dNoP))))))
theorem dec_some {K : List Str} {rs : List Ru} {i : Nat} (h : dec K rs = some i) : ∃ r, rs[i]? = some r := by
  unfold dec at h
  obtain ⟨hi, _⟩ := List.findIdx?_eq_some_iff_getElem.mp h
  exact ⟨rs[i], List.getElem?_eq_getElem hi⟩
theorem gIx_tupn {xs : List D} {i : Nat} {x : D} {P : Rs → Prop} (h : xs[i]? = some x) : gIx (.tup xs) (.int (i : Nat)) P = P (.dat x) := by
  unfold gIx
  simp only [atI_nat h]
theorem k_choice (c : Ca) : Keeps (S_choice c) 2 3 (r_choice c) := by
  rintro args Q h0 ⟨t, v, rfl, ht, h⟩
  clear h0
  simp only [r_choice, kpD]
  simp only [eq_self, decide_true, decide_false, Bool.xor_true, Bool.true_xor, Bool.xor_false, Option.some.injEq, Sl.ls.injEq, exists_eq', List.tail_cons, Bool.not_true, Bool.not_false, Nat.reduceAdd, dSeq, dIf, dTst, dBin, dVar, dTup, dNil, dCons, dLst, dC, dRet, dNext, dAsg, dFrz, hTup, hCons, hName, hNil, dSet, dPut, dIfE, dNotT, dAndT, dOrT, dAndV, dOrV, dCB, stl, val, vals, datL, WB, W1, W2, WL, ↓reduceIte, Bool.false_eq_true, backE, bFor, bLoop, bLast, dLc, dLcL, dForL, gEq_unit, gEq_unit0, gEq_str, gEq_int, gIx_t0, gIx_t1, gIx_t2, gLen_lst, gLen_tup, gAll_map_eq, gSorted2_lst_eq, gSorted2_tup_eq, gTuple_lst_eq, List.map_cons, List.map_nil, iSeq, dYes, wipeE, resto, frO, gIn_tup_eq, gIn_lst_eq, List.getElem?_cons_zero, List.getElem?_cons_succ, List.set_cons_zero, List.set_cons_succ, List.cons_append, List.nil_append, List.replicate, Nat.reduceSub, List.length_cons, List.length_nil, true_and, and_true, Bool.false_xor, dEnd, fin1, dFldSet, dFld, dMth, dSlice, dNoP, dPart, slotsOf, slotOf, kp_d]
  refine ⟨rfl, t, v, rfl, ht, ?_⟩
  simp only [eq_self, decide_true, decide_false, Bool.xor_true, Bool.true_xor, Bool.xor_false, Option.some.injEq, Sl.ls.injEq, exists_eq', List.tail_cons, Bool.not_true, Bool.not_false, Nat.reduceAdd, dSeq, dIf, dTst, dBin, dVar, dTup, dNil, dCons, dLst, dC, dRet, dNext, dAsg, dFrz, hTup, hCons, hName, hNil, dSet, dPut, dIfE, dNotT, dAndT, dOrT, dAndV, dOrV, dCB, stl, val, vals, datL, WB, W1, W2, WL, ↓reduceIte, Bool.false_eq_true, backE, bFor, bLoop, bLast, dLc, dLcL, dForL, gEq_unit, gEq_unit0, gEq_str, gEq_int, gIx_t0, gIx_t1, gIx_t2, gLen_lst, gLen_tup, gAll_map_eq, gSorted2_lst_eq, gSorted2_tup_eq, gTuple_lst_eq, List.map_cons, List.map_nil, iSeq, dYes, wipeE, resto, frO, gIn_tup_eq, gIn_lst_eq, List.getElem?_cons_zero, List.getElem?_cons_succ, List.set_cons_zero, List.set_cons_succ, List.cons_append, List.nil_append, List.replicate, Nat.reduceSub, List.length_cons, List.length_nil, true_and, and_true, Bool.false_xor, dEnd, fin1, dFldSet, dFld, dMth, dSlice, dNoP, dPart, slotsOf, slotOf]
  unfold cho at h
  cases e : dec (kn v t.w) t.r with
  | none =>
    rw [e] at h
    exact h
  | some i =>
    rw [e] at h
    obtain ⟨r, hr⟩ := dec_some e
    simp only [Option.bind_some, hr, Option.map_some] at h
    have e2 : ((t.r.map srtRu).map ruD)[i]? = some (ruD (srtRu r)) := by rw [List.getElem?_map, List.getElem?_map, hr]; rfl
    simp only [eq_self, decide_true, decide_false, Bool.xor_true, Bool.true_xor, Bool.xor_false, Option.some.injEq, Sl.ls.injEq, exists_eq', List.tail_cons, Bool.not_true, Bool.not_false, Nat.reduceAdd, dSeq, dIf, dTst, dBin, dVar, dTup, dNil, dCons, dLst, dC, dRet, dNext, dAsg, dFrz, hTup, hCons, hName, hNil, dSet, dPut, dIfE, dNotT, dAndT, dOrT, dAndV, dOrV, dCB, stl, val, vals, datL, WB, W1, W2, WL, ↓reduceIte, Bool.false_eq_true, backE, bFor, bLoop, bLast, dLc, dLcL, dForL, gEq_unit, gEq_unit0, gEq_str, gEq_int, gIx_t0, gIx_t1, gIx_t2, gLen_lst, gLen_tup, gAll_map_eq, gSorted2_lst_eq, gSorted2_tup_eq, gTuple_lst_eq, List.map_cons, List.map_nil, iSeq, dYes, wipeE, resto, frO, gIn_tup_eq, gIn_lst_eq, List.getElem?_cons_zero, List.getElem?_cons_succ, List.set_cons_zero, List.set_cons_succ, List.cons_append, List.nil_append, List.replicate, Nat.reduceSub, List.length_cons, List.length_nil, true_and, and_true, Bool.false_xor, dEnd, fin1, dFldSet, dFld, dMth, dSlice, dNoP, dPart, slotsOf, slotOf, backE, decD, gIsN, TL.isNon, kp_r, kpR, gIx_tupn e2, gSlice]
    exact h
theorem cho_ok {t : Tk} (ht : TkOk t) (K : List Str) : chOk (cho K t.r) = true := by
  unfold cho
  cases e : dec K t.r with
  | none => rfl
  | some i =>
    obtain ⟨r, hr⟩ := dec_some e
    simp only [Option.bind_some, hr, Option.map_some]
    have hm := ht.r r (List.mem_of_getElem? hr)
    show (r.d.all okS && (srt r.k).all okS) = true
    rw [Bool.and_eq_true, List.all_eq_true, List.all_eq_true]
    exact ⟨fun z hz => okS_wd (hm.dw z hz), fun z hz => okS_wd (hm.kw z (srt_mem.mp hz))⟩
/-! ### parted -/
def prtD : Option Vw → D
  | none => .non
  | some v => vwD v
noncomputable def unl (t u : Tk) (v : Vw) : Bool := true ^^ decide (cho (kn v t.w) t.r = cho (kn v u.w) u.r)
noncomputable def S_parted (c : Ca) : DSp := fun args Q => ∃ (t u : Tk) (ws : List Str) (d : D), args = [.fr (kpD c t), .fr (kpD c u), .fr d] ∧ (d = .lst (ws.map .str) ∨ d = .tup (ws.map .str)) ∧ TkOk t ∧ TkOk u ∧ (∀ z ∈ ws, Wd z) ∧ ws.Nodup ∧ 1 ≤ ws.length ∧ ws.length ≤ 3 ∧ Q (.dat (prtD ((vws (srt ws)).find? (unl t u)))) [.un, .un, .un]
noncomputable def bPart (c : Ca) : DTS := (dIf ((dTst (dBin (gEq true) ((dCall 2 (S_choice c) (dCons ((dFrz (dVar 0))) (dCons ((dFrz (dVar 3))) dNil)))) ((dCall 2 (S_choice c) (dCons ((dFrz (dVar 1))) (dCons ((dFrz (dVar 3))) dNil))))))) (dRet ((dVar 3))) dNext)
noncomputable def r_parted (c : Ca) : DTS := (dSeq (dFor (iSeq ((dCall 1 S_all_views (dCons ((dFrz (dVar 2))) dNil)))) (hName 3) (bPart c))
      (dRet (dC .non)))
theorem part_loop {c : Ca} {E : DEnds} {t u : Tk} (ht : TkOk t) (hu : TkOk u) {s2 : Sl} : ∀ (vs : List Vw) (o3 : Sl),
    (∀ o3, match vs.find? (unl t u) with
      | none => E.nx [.fr (kpD c t), .fr (kpD c u), s2, o3]
      | some v => E.rt (.dat (vwD v)) [.fr (kpD c t), .fr (kpD c u), s2, o3]) →
    dForL (hName 3) (bPart c) E (vs.map vwD) [.fr (kpD c t), .fr (kpD c u), s2, o3]
  | [], o3, h => h o3
  | v :: vs, o3, h => by
    refine ⟨rfl, rfl, t, v, rfl, ht, rfl, rfl, u, v, rfl, hu, ?_⟩
    refine W2_mk rfl rfl (gNe_ch true (cho_ok ht _) (cho_ok hu _) ?_)
    show if unl t u v = true then _ else _
    cases e : unl t u v with
    | true =>
      refine iteT ?_
      have := h (.fr (vwD v))
      rw [List.find?_cons_of_pos e] at this
      exact this
    | false =>
      refine iteF ?_
      refine part_loop ht hu vs _ fun o3 => ?_
      have := h o3
      rw [List.find?_cons_of_neg (by rw [e]; simp)] at this
      exact this
theorem k_parted (c : Ca) : Keeps (S_parted c) 3 4 (r_parted c) := by
  rintro args Q h0 ⟨t, u, ws, d, rfl, hd, ht, hu, hw, hn, h1, h3, h⟩
  clear h0
  refine ⟨rfl, rfl, ws, d, rfl, hd, hw, hn, h1, h3, ?_⟩
  refine part_loop (c := c) ht hu (vws (srt ws)) .un fun o3 => ?_
  cases e : (vws (srt ws)).find? (unl t u) with
  | none => rw [e] at h; exact h
  | some v => rw [e] at h; exact h
end
end KP

/-! KS7: the law's own look: known, decided, choice. -/
namespace KP
open PySem PySem.Spec PyProof.Rows L2 TL
def baO : Option Str → Str
  | none => "bare"
  | some _ => "child"
def hd3 (ot st : Bool) (ow : Option Str) : List Str := [if ot = true then "others" else "alone", if st = true then "strays" else "tidy", baO ow]
def rwB : Option (Str × Bool × Bool) → Str → Bool
  | some (x, _, _), y => decide (x = y)
  | none, _ => false
def rwO (th : Option (Str × Bool × Bool)) : Option Str → List Str
  | none => []
  | some y => [if rwB th y = true then "right" else "wrong"]
def knL (v : Vw) (w : List Str) : List Str :=
  hd3 v.ot v.st v.ow ++ knT w v.th ++
    rwO v.th v.ow
theorem dec_symm (x y : Str) : decide (x = y) = decide (y = x) := decide_eq_decide.mpr ⟨Eq.symm, Eq.symm⟩
theorem knL_mem (v : Vw) (w : List Str) (z : Str) : z ∈ knL v w ↔ z ∈ kn v w := by
  obtain ⟨th, ow, ot, st⟩ := v
  unfold knL kn knR hd3
  generalize (if ot = true then ("others" : Str) else "alone") = a
  generalize (if st = true then ("strays" : Str) else "tidy") = b
  generalize knT w th = ts
  cases ow with
  | none =>
    simp only [knO, baO, rwO, List.mem_append, List.mem_cons, List.not_mem_nil, or_false]
    grind
  | some y =>
    have e : rwB th y = (match th with | some (x, _, _) => decide (y = x) | none => false) := by
      cases th with
      | none => rfl
      | some p => exact dec_symm _ _
    simp only [knO, baO, rwO, e, List.mem_append, List.mem_cons, List.not_mem_nil, or_false]
    grind
def S__law_known : DSp := fun args Q => ∃ v w, args = [.fr (vwD v), .fr (.lst (w.map .str))] ∧ Q (.nw (.ls ((knL v w).map .str))) [.un, .un]
def kn2 : DTS := (dIf ((dTst (dBin (gEq false) ((dVar 2)) ((dTup dNil))))) (dDrop ((dMethF 6 mAppend (dCons (dC (.str "gone")) dNil)))) (dSeq (dDrop ((dMethF 6 mAppend (dCons ((dIfE ((dTst ((dBin gIx ((dVar 2)) (dC (.int 1)))))) (dC (.str "going")) (dC (.str "there")))) dNil))))
      (dSeq (dDrop ((dMethF 6 mAppend (dCons ((dIfE ((dTst ((dBin gIx ((dVar 2)) (dC (.int 2)))))) (dC (.str "held")) (dC (.str "free")))) dNil))))
      (dDrop ((dMethF 6 mAppend (dCons ((dIfE ((dTst (dBin (gIn false) ((dBin gIx ((dVar 2)) (dC (.int 0)))) ((dVar 1))))) (dC (.str "wanted")) (dC (.str "unwanted")))) dNil)))))))
def kn3 : DTS := (dIf ((dTst (dBin (gEq true) ((dVar 3)) ((dTup dNil))))) (dDrop ((dMethF 6 mAppend (dCons ((dIfE ((dAndT ((dTst (dBin (gEq true) ((dVar 2)) ((dTup dNil))))) ((dTst (dBin (gEq false) ((dBin gIx ((dVar 2)) (dC (.int 0)))) ((dBin gIx ((dVar 3)) (dC (.int 1))))))))) (dC (.str "right")) (dC (.str "wrong")))) dNil)))) dNext)
def r__law_known : DTS := (dSeq (dAsg ((dFrz (dVar 0))) (hTup 4 (hCons (hName 2) (hCons (hName 3) (hCons (hName 4) (hCons (hName 5) hNil))))))
      (dSeq (dSet 2 6 ((dLst (dCons ((dIfE ((dTst ((dVar 4)))) (dC (.str "others")) (dC (.str "alone")))) (dCons ((dIfE ((dTst (dBin (gEq false) ((dVar 5)) (dC (.int 0))))) (dC (.str "tidy")) (dC (.str "strays")))) (dCons ((dIfE ((dTst (dBin (gEq false) ((dVar 3)) ((dTup dNil))))) (dC (.str "bare")) (dC (.str "child")))) dNil))))))
      (dSeq kn2
      (dSeq kn3
      (dRet ((dVar 6)))))))
section
variable {E : DEnds} {s0 s1 s3 s4 s5 : Sl} {w : List Str} {L : List D}
theorem fb {n : Nat} (h : L.length ≤ n) (hn : n ≤ 1000) : L.length < sizeLine := fin_big (by omega)
theorem fba {n : Nat} {x : D} (h : L.length ≤ n) (hn : n ≤ 900) : (L ++ [x]).length < sizeLine := fin_big (by rw [List.length_append]; show L.length + 1 ≤ 1000; omega)
theorem fbb {n : Nat} {x y : D} (h : L.length ≤ n) (hn : n ≤ 900) : (L ++ [x] ++ [y]).length < sizeLine := fin_big (by rw [List.length_append, List.length_append]; show L.length + 1 + 1 ≤ 1000; omega)
theorem kn2_ok {th : Option (Str × Bool × Bool)} (hl : L.length ≤ 100) (h : E.nx [s0, .fr (.lst (w.map .str)), .fr (thD th), s3, s4, s5, .ls (L ++ (knT w th).map .str)]) : kn2 E [s0, .fr (.lst (w.map .str)), .fr (thD th), s3, s4, s5, .ls L] := by
  cases th with
  | none =>
    simp only [kn2, thD, knT] at h ⊢
    simp only [eq_self, decide_true, decide_false, Bool.xor_true, Bool.true_xor, Bool.xor_false, Option.some.injEq, Sl.ls.injEq, exists_eq', List.tail_cons, Bool.not_true, Bool.not_false, Nat.reduceAdd, dSeq, dIf, dTst, dBin, dVar, dTup, dNil, dCons, dLst, dC, dRet, dNext, dAsg, dFrz, hTup, hCons, hName, hNil, dSet, dPut, dIfE, dNotT, dAndT, dOrT, dAndV, dOrV, dCB, stl, val, vals, datL, WB, W1, W2, WL, ↓reduceIte, Bool.false_eq_true, backE, bFor, bLoop, bLast, dLc, dLcL, dForL, gEq_unit, gEq_unit0, gEq_str, gEq_int, gIx_t0, gIx_t1, gIx_t2, gLen_lst, gLen_tup, gAll_map_eq, gSorted2_lst_eq, gSorted2_tup_eq, gTuple_lst_eq, List.map_cons, List.map_nil, iSeq, dYes, wipeE, resto, frO, gIn_tup_eq, gIn_lst_eq, List.getElem?_cons_zero, List.getElem?_cons_succ, List.set_cons_zero, List.set_cons_succ, List.cons_append, List.nil_append, List.replicate, Nat.reduceSub, List.length_cons, List.length_nil, true_and, and_true, Bool.false_xor, dEnd, fin1, dFldSet, dFld, dMth, dSlice, dNoP, dPart, slotsOf, slotOf, dDrop, dMethF, mAppend] at h ⊢
    exact ⟨sz0, fb hl (by decide), h⟩
  | some p =>
    obtain ⟨x, g, hh⟩ := p
    simp only [kn2, thD, knT] at h ⊢
    cases g <;> cases hh <;> cases e : decide (x ∈ w) <;> (
      simp only [eq_self, decide_true, decide_false, Bool.xor_true, Bool.true_xor, Bool.xor_false, Option.some.injEq, Sl.ls.injEq, exists_eq', List.tail_cons, Bool.not_true, Bool.not_false, Nat.reduceAdd, dSeq, dIf, dTst, dBin, dVar, dTup, dNil, dCons, dLst, dC, dRet, dNext, dAsg, dFrz, hTup, hCons, hName, hNil, dSet, dPut, dIfE, dNotT, dAndT, dOrT, dAndV, dOrV, dCB, stl, val, vals, datL, WB, W1, W2, WL, ↓reduceIte, Bool.false_eq_true, backE, bFor, bLoop, bLast, dLc, dLcL, dForL, gEq_unit, gEq_unit0, gEq_str, gEq_int, gIx_t0, gIx_t1, gIx_t2, gLen_lst, gLen_tup, gAll_map_eq, gSorted2_lst_eq, gSorted2_tup_eq, gTuple_lst_eq, List.map_cons, List.map_nil, iSeq, dYes, wipeE, resto, frO, gIn_tup_eq, gIn_lst_eq, List.getElem?_cons_zero, List.getElem?_cons_succ, List.set_cons_zero, List.set_cons_succ, List.cons_append, List.nil_append, List.replicate, Nat.reduceSub, List.length_cons, List.length_nil, true_and, and_true, Bool.false_xor, dEnd, fin1, dFldSet, dFld, dMth, dSlice, dNoP, dPart, slotsOf, slotOf, dDrop, dMethF, mAppend, e] at h ⊢
      refine ⟨sz0, fb hl (by decide), fba hl (by decide), fbb hl (by decide), ?_⟩
      simpa only [List.append_assoc, List.cons_append, List.nil_append] using h)
theorem kn3_ok {th : Option (Str × Bool × Bool)} {ow : Option Str} (hl : L.length ≤ 100) (h : E.nx [s0, s1, .fr (thD th), .fr (owD ow), s4, s5, .ls (L ++ (rwO th ow).map .str)]) : kn3 E [s0, s1, .fr (thD th), .fr (owD ow), s4, s5, .ls L] := by
  cases ow with
  | none =>
    simp only [kn3, owD, rwO] at h ⊢
    simp only [eq_self, decide_true, decide_false, Bool.xor_true, Bool.true_xor, Bool.xor_false, Option.some.injEq, Sl.ls.injEq, exists_eq', List.tail_cons, Bool.not_true, Bool.not_false, Nat.reduceAdd, dSeq, dIf, dTst, dBin, dVar, dTup, dNil, dCons, dLst, dC, dRet, dNext, dAsg, dFrz, hTup, hCons, hName, hNil, dSet, dPut, dIfE, dNotT, dAndT, dOrT, dAndV, dOrV, dCB, stl, val, vals, datL, WB, W1, W2, WL, ↓reduceIte, Bool.false_eq_true, backE, bFor, bLoop, bLast, dLc, dLcL, dForL, gEq_unit, gEq_unit0, gEq_str, gEq_int, gIx_t0, gIx_t1, gIx_t2, gLen_lst, gLen_tup, gAll_map_eq, gSorted2_lst_eq, gSorted2_tup_eq, gTuple_lst_eq, List.map_cons, List.map_nil, iSeq, dYes, wipeE, resto, frO, gIn_tup_eq, gIn_lst_eq, List.getElem?_cons_zero, List.getElem?_cons_succ, List.set_cons_zero, List.set_cons_succ, List.cons_append, List.nil_append, List.replicate, Nat.reduceSub, List.length_cons, List.length_nil, true_and, and_true, Bool.false_xor, dEnd, fin1, dFldSet, dFld, dMth, dSlice, dNoP, dPart, slotsOf, slotOf, dDrop, dMethF, mAppend, List.append_nil] at h ⊢
    exact ⟨sz0, h⟩
  | some y =>
    cases th with
    | none =>
      simp only [kn3, owD, thD, rwO, rwB] at h ⊢
      simp only [eq_self, decide_true, decide_false, Bool.xor_true, Bool.true_xor, Bool.xor_false, Option.some.injEq, Sl.ls.injEq, exists_eq', List.tail_cons, Bool.not_true, Bool.not_false, Nat.reduceAdd, dSeq, dIf, dTst, dBin, dVar, dTup, dNil, dCons, dLst, dC, dRet, dNext, dAsg, dFrz, hTup, hCons, hName, hNil, dSet, dPut, dIfE, dNotT, dAndT, dOrT, dAndV, dOrV, dCB, stl, val, vals, datL, WB, W1, W2, WL, ↓reduceIte, Bool.false_eq_true, backE, bFor, bLoop, bLast, dLc, dLcL, dForL, gEq_unit, gEq_unit0, gEq_str, gEq_int, gIx_t0, gIx_t1, gIx_t2, gLen_lst, gLen_tup, gAll_map_eq, gSorted2_lst_eq, gSorted2_tup_eq, gTuple_lst_eq, List.map_cons, List.map_nil, iSeq, dYes, wipeE, resto, frO, gIn_tup_eq, gIn_lst_eq, List.getElem?_cons_zero, List.getElem?_cons_succ, List.set_cons_zero, List.set_cons_succ, List.cons_append, List.nil_append, List.replicate, Nat.reduceSub, List.length_cons, List.length_nil, true_and, and_true, Bool.false_xor, dEnd, fin1, dFldSet, dFld, dMth, dSlice, dNoP, dPart, slotsOf, slotOf, dDrop, dMethF, mAppend] at h ⊢
      exact ⟨sz0, sz0, fb hl (by decide), h⟩
    | some p =>
      obtain ⟨x, g, hh⟩ := p
      simp only [kn3, owD, thD, rwO, rwB] at h ⊢
      cases e : decide (x = y) <;> (
        simp only [eq_self, decide_true, decide_false, Bool.xor_true, Bool.true_xor, Bool.xor_false, Option.some.injEq, Sl.ls.injEq, exists_eq', List.tail_cons, Bool.not_true, Bool.not_false, Nat.reduceAdd, dSeq, dIf, dTst, dBin, dVar, dTup, dNil, dCons, dLst, dC, dRet, dNext, dAsg, dFrz, hTup, hCons, hName, hNil, dSet, dPut, dIfE, dNotT, dAndT, dOrT, dAndV, dOrV, dCB, stl, val, vals, datL, WB, W1, W2, WL, ↓reduceIte, Bool.false_eq_true, backE, bFor, bLoop, bLast, dLc, dLcL, dForL, gEq_unit, gEq_unit0, gEq_str, gEq_int, gIx_t0, gIx_t1, gIx_t2, gLen_lst, gLen_tup, gAll_map_eq, gSorted2_lst_eq, gSorted2_tup_eq, gTuple_lst_eq, List.map_cons, List.map_nil, iSeq, dYes, wipeE, resto, frO, gIn_tup_eq, gIn_lst_eq, List.getElem?_cons_zero, List.getElem?_cons_succ, List.set_cons_zero, List.set_cons_succ, List.cons_append, List.nil_append, List.replicate, Nat.reduceSub, List.length_cons, List.length_nil, true_and, and_true, Bool.false_xor, dEnd, fin1, dFldSet, dFld, dMth, dSlice, dNoP, dPart, slotsOf, slotOf, dDrop, dMethF, mAppend, e] at h ⊢
        exact ⟨sz0, sz0, fb hl (by decide), h⟩)
end
theorem k__law_known : Keeps S__law_known 2 7 r__law_known := by
  rintro args Q h0 ⟨⟨th, ow, ot, st⟩, w, rfl, h⟩
  clear h0
  have fin : ∀ a b d : Str, [a, b, d] = hd3 ot st ow →
      dSeq kn2 (dSeq kn3 (dRet ((dVar 6)))) (dEnd 2 Q) [.fr (vwD ⟨th, ow, ot, st⟩), .fr (.lst (w.map .str)), .fr (thD th), .fr (owD ow), .fr (.bl ot), .fr (stD st), .ls [.str a, .str b, .str d]] := by
    intro a b d e
    refine kn2_ok (by show 3 ≤ 100; decide) ?_
    have := knT_len w th
    refine kn3_ok (by rw [List.length_append, List.length_map]; show 3 + _ ≤ 100; omega) ?_
    refine ⟨by decide, _, rfl, rfl, ?_⟩
    have h' : Q (.nw (.ls ((knL ⟨th, ow, ot, st⟩ w).map .str))) [.un, .un] := h
    unfold knL at h'
    rw [List.map_append, List.map_append] at h'
    have e2 : (hd3 ot st ow).map D.str = [.str a, .str b, .str d] := by rw [← e]; rfl
    have h2 : Q (.nw (.ls ([D.str a, .str b, .str d] ++ (knT w th).map D.str ++ (rwO th ow).map D.str))) [.un, .un] := by rw [← e2]; exact h'
    exact h2
  simp only [r__law_known, vwD] at fin ⊢
  cases ot <;> cases st <;> cases ow <;> (
    simp only [eq_self, decide_true, decide_false, Bool.xor_true, Bool.true_xor, Bool.xor_false, Option.some.injEq, Sl.ls.injEq, exists_eq', List.tail_cons, Bool.not_true, Bool.not_false, Nat.reduceAdd, dSeq, dIf, dTst, dBin, dVar, dTup, dNil, dCons, dLst, dC, dRet, dNext, dAsg, dFrz, hTup, hCons, hName, hNil, dSet, dPut, dIfE, dNotT, dAndT, dOrT, dAndV, dOrV, dCB, stl, val, vals, datL, WB, W1, W2, WL, ↓reduceIte, Bool.false_eq_true, backE, bFor, bLoop, bLast, dLc, dLcL, dForL, gEq_unit, gEq_unit0, gEq_str, gEq_int, gIx_t0, gIx_t1, gIx_t2, gLen_lst, gLen_tup, gAll_map_eq, gSorted2_lst_eq, gSorted2_tup_eq, gTuple_lst_eq, List.map_cons, List.map_nil, iSeq, dYes, wipeE, resto, frO, gIn_tup_eq, gIn_lst_eq, List.getElem?_cons_zero, List.getElem?_cons_succ, List.set_cons_zero, List.set_cons_succ, List.cons_append, List.nil_append, List.replicate, Nat.reduceSub, List.length_cons, List.length_nil, true_and, and_true, Bool.false_xor, dEnd, fin1, dFldSet, dFld, dMth, dSlice, dNoP, dPart, slotsOf, slotOf, owD, stD, thD]
    refine ⟨sz0, sz (Nat.le_of_ble_eq_true rfl), by decide, ?_⟩
    exact fin _ _ _ rfl)
end KP

/-! KS8: the law's decided, choice, all views. -/
namespace KP
open PySem PySem.Spec PyProof.Rows L2 TL
def S__law_decided : DSp := fun args Q => ∃ (t : Tk) (v : Vw), args = [.fr (tkD t), .fr (vwD v)] ∧ TkOk t ∧ Q (.dat (decD (dec (kn v t.w) t.r))) [.un, .un]
def bLd : DTS := (dIf ((dTst (dBin (gEq false) ((dLc (iSeq ((dBin gIx ((dVar 4)) (dC (.int 0))))) (hName 5) ((dTst (dBin (gIn true) ((dVar 5)) ((dVar 2))))) ((dFrz (dVar 5))) [5])) ((dLst dNil))))) (dRet ((dVar 3))) dNext)
def r__law_decided : DTS := (dSeq (dSet 2 2 (dFrz (dCall 2 S__law_known (dCons ((dFrz (dVar 1))) (dCons ((dBin gIx ((dVar 0)) (dC (.int 1)))) dNil)))))
      (dSeq (dFor (iEnumB (dCons ((dBin gIx ((dVar 0)) (dC (.int 2)))) dNil)) (hTup 2 (hCons (hName 3) (hCons (hName 4) hNil))) bLd)
      (dRet (dC .non))))
section
variable {E : DEnds} {s0 s1 s2 s3 s4 : Sl} {K : List Str}
theorem miss_lc {ρ0 : TL.Env} {Q : Rs → TL.Env → Prop} : ∀ (zs acc : List Str) (o5 : Sl), acc.length + zs.length ≤ 900 →
    Q (.nw (.ls ((acc ++ zs.filter fun z => !decide (z ∈ K)).map .str))) [s0, s1, .fr (.lst (K.map .str)), s3, s4, frO ρ0[5]?] →
    dLcL (hName 5) (dTst (dBin (gIn true) (dVar 5) (dVar 2))) (dFrz (dVar 5)) [5] ρ0 (zs.map .str) (acc.map .str) [s0, s1, .fr (.lst (K.map .str)), s3, s4, o5] Q
  | [], acc, o5, _, h => by
    rw [List.filter_nil, List.append_nil] at h
    exact h
  | z :: zs, acc, o5, hl, h => by
    rw [List.length_cons] at hl
    simp only [eq_self, decide_true, decide_false, Bool.xor_true, Bool.true_xor, Bool.xor_false, Option.some.injEq, Sl.ls.injEq, exists_eq', List.tail_cons, Bool.not_true, Bool.not_false, Nat.reduceAdd, dSeq, dIf, dTst, dBin, dVar, dTup, dNil, dCons, dLst, dC, dRet, dNext, dAsg, dFrz, hTup, hCons, hName, hNil, dSet, dPut, dIfE, dNotT, dAndT, dOrT, dAndV, dOrV, dCB, stl, val, vals, datL, WB, W1, W2, WL, ↓reduceIte, Bool.false_eq_true, backE, bFor, bLoop, bLast, dLc, dLcL, dForL, gEq_unit, gEq_unit0, gEq_str, gEq_int, gIx_t0, gIx_t1, gIx_t2, gLen_lst, gLen_tup, gAll_map_eq, gSorted2_lst_eq, gSorted2_tup_eq, gTuple_lst_eq, List.map_cons, List.map_nil, iSeq, dYes, wipeE, resto, frO, gIn_tup_eq, gIn_lst_eq, List.getElem?_cons_zero, List.getElem?_cons_succ, List.set_cons_zero, List.set_cons_succ, List.cons_append, List.nil_append, List.replicate, Nat.reduceSub, List.length_cons, List.length_nil, true_and, and_true, Bool.false_xor, dEnd, fin1, dFldSet, dFld, dMth, dSlice, dNoP, dPart, slotsOf, slotOf]
    cases e : decide (z ∈ K) with
    | true =>
      have ih := miss_lc (ρ0 := ρ0) (Q := Q) zs acc (.fr (.str z)) (by omega) (by
        rw [List.filter_cons_of_neg (by rw [e]; simp)] at h
        exact h)
      simp only [eq_self, decide_true, decide_false, Bool.xor_true, Bool.true_xor, Bool.xor_false, Option.some.injEq, Sl.ls.injEq, exists_eq', List.tail_cons, Bool.not_true, Bool.not_false, Nat.reduceAdd, dSeq, dIf, dTst, dBin, dVar, dTup, dNil, dCons, dLst, dC, dRet, dNext, dAsg, dFrz, hTup, hCons, hName, hNil, dSet, dPut, dIfE, dNotT, dAndT, dOrT, dAndV, dOrV, dCB, stl, val, vals, datL, WB, W1, W2, WL, ↓reduceIte, Bool.false_eq_true, backE, bFor, bLoop, bLast, dLc, dLcL, dForL, gEq_unit, gEq_unit0, gEq_str, gEq_int, gIx_t0, gIx_t1, gIx_t2, gLen_lst, gLen_tup, gAll_map_eq, gSorted2_lst_eq, gSorted2_tup_eq, gTuple_lst_eq, List.map_cons, List.map_nil, iSeq, dYes, wipeE, resto, frO, gIn_tup_eq, gIn_lst_eq, List.getElem?_cons_zero, List.getElem?_cons_succ, List.set_cons_zero, List.set_cons_succ, List.cons_append, List.nil_append, List.replicate, Nat.reduceSub, List.length_cons, List.length_nil, true_and, and_true, Bool.false_xor, dEnd, fin1, dFldSet, dFld, dMth, dSlice, dNoP, dPart, slotsOf, slotOf]
      exact ih
    | false =>
      have ih := miss_lc (ρ0 := ρ0) (Q := Q) zs (acc ++ [z]) (.fr (.str z)) (by simp; omega) (by
        rw [List.filter_cons_of_pos (by rw [e]; rfl)] at h
        simpa using h)
      rw [List.map_append] at ih
      simp only [eq_self, decide_true, decide_false, Bool.xor_true, Bool.true_xor, Bool.xor_false, Option.some.injEq, Sl.ls.injEq, exists_eq', List.tail_cons, Bool.not_true, Bool.not_false, Nat.reduceAdd, dSeq, dIf, dTst, dBin, dVar, dTup, dNil, dCons, dLst, dC, dRet, dNext, dAsg, dFrz, hTup, hCons, hName, hNil, dSet, dPut, dIfE, dNotT, dAndT, dOrT, dAndV, dOrV, dCB, stl, val, vals, datL, WB, W1, W2, WL, ↓reduceIte, Bool.false_eq_true, backE, bFor, bLoop, bLast, dLc, dLcL, dForL, gEq_unit, gEq_unit0, gEq_str, gEq_int, gIx_t0, gIx_t1, gIx_t2, gLen_lst, gLen_tup, gAll_map_eq, gSorted2_lst_eq, gSorted2_tup_eq, gTuple_lst_eq, List.map_cons, List.map_nil, iSeq, dYes, wipeE, resto, frO, gIn_tup_eq, gIn_lst_eq, List.getElem?_cons_zero, List.getElem?_cons_succ, List.set_cons_zero, List.set_cons_succ, List.cons_append, List.nil_append, List.replicate, Nat.reduceSub, List.length_cons, List.length_nil, true_and, and_true, Bool.false_xor, dEnd, fin1, dFldSet, dFld, dMth, dSlice, dNoP, dPart, slotsOf, slotOf]
      exact ⟨by rw [List.length_map]; exact fin_big (by omega), ih⟩
theorem gEq_lst0 {neg : Bool} {xs : List D} {P : Rs → Prop} : gEq neg (.lst xs) (.lst []) P = P (.dat (.bl (neg ^^ xs.isEmpty))) := rfl
theorem filter_empty (zs : List Str) : ((zs.filter fun z => !decide (z ∈ K)).map D.str).isEmpty = zs.all fun z => decide (z ∈ K) := by
  induction zs with
  | nil => rfl
  | cons z zs ih =>
    cases e : decide (z ∈ K) with
    | true =>
      rw [List.filter_cons_of_neg (by rw [e]; simp), ih, List.all_cons, e]
      rfl
    | false =>
      rw [List.filter_cons_of_pos (by rw [e]; rfl), List.all_cons, e]
      rfl
theorem ld_one {i : Nat} {r : Ru} (hl : r.s.length ≤ 6) (h : if (r.s.all fun z => decide (z ∈ K)) = true then E.rt (.dat (.int i)) [s0, s1, .fr (.lst (K.map .str)), .fr (.int i), .fr (ruD r), .un] else E.nx [s0, s1, .fr (.lst (K.map .str)), .fr (.int i), .fr (ruD r), .un]) :
    bLd E [s0, s1, .fr (.lst (K.map .str)), .fr (.int i), .fr (ruD r), .un] := by
  simp only [bLd, ruD] at h ⊢
  simp only [eq_self, decide_true, decide_false, Bool.xor_true, Bool.true_xor, Bool.xor_false, Option.some.injEq, Sl.ls.injEq, exists_eq', List.tail_cons, Bool.not_true, Bool.not_false, Nat.reduceAdd, dSeq, dIf, dTst, dBin, dVar, dTup, dNil, dCons, dLst, dC, dRet, dNext, dAsg, dFrz, hTup, hCons, hName, hNil, dSet, dPut, dIfE, dNotT, dAndT, dOrT, dAndV, dOrV, dCB, stl, val, vals, datL, WB, W1, W2, WL, ↓reduceIte, Bool.false_eq_true, backE, bFor, bLoop, bLast, dLc, dLcL, dForL, gEq_unit, gEq_unit0, gEq_str, gEq_int, gIx_t0, gIx_t1, gIx_t2, gLen_lst, gLen_tup, gAll_map_eq, gSorted2_lst_eq, gSorted2_tup_eq, gTuple_lst_eq, List.map_cons, List.map_nil, iSeq, dYes, wipeE, resto, frO, gIn_tup_eq, gIn_lst_eq, List.getElem?_cons_zero, List.getElem?_cons_succ, List.set_cons_zero, List.set_cons_succ, List.cons_append, List.nil_append, List.replicate, Nat.reduceSub, List.length_cons, List.length_nil, true_and, and_true, Bool.false_xor, dEnd, fin1, dFldSet, dFld, dMth, dSlice, dNoP, dPart, slotsOf, slotOf]
  refine miss_lc (ρ0 := [s0, s1, .fr (.lst (K.map .str)), .fr (.int i), .fr (ruD r), .un]) r.s [] .un (by simp; omega) ?_
  rw [List.nil_append]
  simp only [eq_self, decide_true, decide_false, Bool.xor_true, Bool.true_xor, Bool.xor_false, Option.some.injEq, Sl.ls.injEq, exists_eq', List.tail_cons, Bool.not_true, Bool.not_false, Nat.reduceAdd, dSeq, dIf, dTst, dBin, dVar, dTup, dNil, dCons, dLst, dC, dRet, dNext, dAsg, dFrz, hTup, hCons, hName, hNil, dSet, dPut, dIfE, dNotT, dAndT, dOrT, dAndV, dOrV, dCB, stl, val, vals, datL, WB, W1, W2, WL, ↓reduceIte, Bool.false_eq_true, backE, bFor, bLoop, bLast, dLc, dLcL, dForL, gEq_unit, gEq_unit0, gEq_str, gEq_int, gIx_t0, gIx_t1, gIx_t2, gLen_lst, gLen_tup, gAll_map_eq, gSorted2_lst_eq, gSorted2_tup_eq, gTuple_lst_eq, List.map_cons, List.map_nil, iSeq, dYes, wipeE, resto, frO, gIn_tup_eq, gIn_lst_eq, List.getElem?_cons_zero, List.getElem?_cons_succ, List.set_cons_zero, List.set_cons_succ, List.cons_append, List.nil_append, List.replicate, Nat.reduceSub, List.length_cons, List.length_nil, true_and, and_true, Bool.false_xor, dEnd, fin1, dFldSet, dFld, dMth, dSlice, dNoP, dPart, slotsOf, slotOf, gEq_lst0, filter_empty]
  exact ⟨sz0, h⟩
theorem ld_loop : ∀ (l : List Ru) (n : Nat) (o3 o4 : Sl), (∀ r ∈ l, r.s.length ≤ 6) →
    (∀ o3 o4, match l.findIdx? (fun r => r.s.all fun z => decide (z ∈ K)) with
      | none => E.nx [s0, s1, .fr (.lst (K.map .str)), o3, o4, .un]
      | some i => E.rt (.dat (.int (n + i : Nat))) [s0, s1, .fr (.lst (K.map .str)), o3, o4, .un]) →
    dForL (hTup 2 (hCons (hName 3) (hCons (hName 4) hNil))) bLd E ((l.zipIdx n).map fun p => .tup [.int p.2, ruD p.1]) [s0, s1, .fr (.lst (K.map .str)), o3, o4, .un]
  | [], n, o3, o4, _, h => h o3 o4
  | r :: l, n, o3, o4, hl, h => by
    refine ⟨rfl, rfl, ld_one (i := n) (hl r (by simp)) ?_⟩
    cases e : r.s.all fun z => decide (z ∈ K) with
    | true =>
      refine iteT ?_
      have := h (.fr (.int n)) (.fr (ruD r))
      rw [List.findIdx?_cons, e] at this
      exact this
    | false =>
      refine iteF ?_
      refine ld_loop l (n + 1) _ _ (fun q hq => hl q (List.mem_cons_of_mem _ hq)) fun o3 o4 => ?_
      have := h o3 o4
      rw [List.findIdx?_cons, e] at this
      simp only [Bool.false_eq_true, if_false] at this
      cases f : l.findIdx? (fun r => r.s.all fun z => decide (z ∈ K)) with
      | none =>
        rw [f] at this
        exact this
      | some i =>
        rw [f] at this
        have e2 : n + 1 + i = n + (i + 1) := by omega
        show E.rt (.dat (.int ((n + 1 + i : Nat) : Int))) _
        rw [e2]
        exact this
end
theorem dec_knL (v : Vw) (w : List Str) (rs : List Ru) : rs.findIdx? (fun r => r.s.all fun z => decide (z ∈ knL v w)) = dec (kn v w) rs := by
  unfold dec
  rw [mem_dec (knL_mem v w)]
theorem k__law_decided : Keeps S__law_decided 2 6 r__law_decided := by
  rintro args Q h0 ⟨t, v, rfl, ht, h⟩
  clear h0
  simp only [r__law_decided, tkD]
  simp only [eq_self, decide_true, decide_false, Bool.xor_true, Bool.true_xor, Bool.xor_false, Option.some.injEq, Sl.ls.injEq, exists_eq', List.tail_cons, Bool.not_true, Bool.not_false, Nat.reduceAdd, dSeq, dIf, dTst, dBin, dVar, dTup, dNil, dCons, dLst, dC, dRet, dNext, dAsg, dFrz, hTup, hCons, hName, hNil, dSet, dPut, dIfE, dNotT, dAndT, dOrT, dAndV, dOrV, dCB, stl, val, vals, datL, WB, W1, W2, WL, ↓reduceIte, Bool.false_eq_true, backE, bFor, bLoop, bLast, dLc, dLcL, dForL, gEq_unit, gEq_unit0, gEq_str, gEq_int, gIx_t0, gIx_t1, gIx_t2, gLen_lst, gLen_tup, gAll_map_eq, gSorted2_lst_eq, gSorted2_tup_eq, gTuple_lst_eq, List.map_cons, List.map_nil, iSeq, dYes, wipeE, resto, frO, gIn_tup_eq, gIn_lst_eq, List.getElem?_cons_zero, List.getElem?_cons_succ, List.set_cons_zero, List.set_cons_succ, List.cons_append, List.nil_append, List.replicate, Nat.reduceSub, List.length_cons, List.length_nil, true_and, and_true, Bool.false_xor, dEnd, fin1, dFldSet, dFld, dMth, dSlice, dNoP, dPart, slotsOf, slotOf, dCall]
  refine ⟨rfl, v, t.w, rfl, ?_⟩
  simp only [eq_self, decide_true, decide_false, Bool.xor_true, Bool.true_xor, Bool.xor_false, Option.some.injEq, Sl.ls.injEq, exists_eq', List.tail_cons, Bool.not_true, Bool.not_false, Nat.reduceAdd, dSeq, dIf, dTst, dBin, dVar, dTup, dNil, dCons, dLst, dC, dRet, dNext, dAsg, dFrz, hTup, hCons, hName, hNil, dSet, dPut, dIfE, dNotT, dAndT, dOrT, dAndV, dOrV, dCB, stl, val, vals, datL, WB, W1, W2, WL, ↓reduceIte, Bool.false_eq_true, backE, bFor, bLoop, bLast, dLc, dLcL, dForL, gEq_unit, gEq_unit0, gEq_str, gEq_int, gIx_t0, gIx_t1, gIx_t2, gLen_lst, gLen_tup, gAll_map_eq, gSorted2_lst_eq, gSorted2_tup_eq, gTuple_lst_eq, List.map_cons, List.map_nil, iSeq, dYes, wipeE, resto, frO, gIn_tup_eq, gIn_lst_eq, List.getElem?_cons_zero, List.getElem?_cons_succ, List.set_cons_zero, List.set_cons_succ, List.cons_append, List.nil_append, List.replicate, Nat.reduceSub, List.length_cons, List.length_nil, true_and, and_true, Bool.false_xor, dEnd, fin1, dFldSet, dFld, dMth, dSlice, dNoP, dPart, slotsOf, slotOf, dFor]
  show dForL (hTup 2 (hCons (hName 3) (hCons (hName 4) hNil))) bLd _ (enumD (t.r.map ruD)) [.fr (tkD t), .fr (vwD v), .fr (.lst ((knL v t.w).map .str)), .un, .un, .un]
  rw [enum_map]
  refine ld_loop t.r 0 .un .un (fun r hr => (ht.r r hr).sl) fun o3 o4 => ?_
  rw [dec_knL]
  cases e : dec (kn v t.w) t.r with
  | none => rw [e] at h; exact h
  | some i =>
    rw [e] at h
    show Q (.dat (.int ((0 + i : Nat) : Int))) _
    rw [Nat.zero_add]
    exact h
noncomputable def S__law_choice : DSp := fun args Q => ∃ (t : Tk) (v : Vw), args = [.fr (tkD t), .fr (vwD v)] ∧ TkOk t ∧ Q (.dat (choD false (cho (kn v t.w) t.r))) [.un, .un]
def r__law_choice : DTS := (dSeq (dSet 2 2 (dFrz (dCall 2 S__law_decided (dCons ((dFrz (dVar 0))) (dCons ((dFrz (dVar 1))) dNil)))))
      (dRet ((dIfE ((dTst (dBin (gIsN false) ((dVar 2)) (dC .non)))) (dC .non) ((dTup (dCons ((dBin gIx ((dBin gIx ((dBin gIx ((dVar 0)) (dC (.int 2)))) ((dVar 2)))) (dC (.int 1)))) (dCons ((dCB gSorted2 (dCons ((dBin gIx ((dBin gIx ((dBin gIx ((dVar 0)) (dC (.int 2)))) ((dVar 2)))) (dC (.int 2)))) dNil))) dNil))))))))
theorem gIx_lstn {xs : List D} {i : Nat} {x : D} {P : Rs → Prop} (h : xs[i]? = some x) : gIx (.lst xs) (.int (i : Nat)) P = P (.dat x) := by
  unfold gIx
  simp only [atI_nat h]
theorem k__law_choice : Keeps S__law_choice 2 3 r__law_choice := by
  rintro args Q h0 ⟨t, v, rfl, ht, h⟩
  clear h0
  refine ⟨rfl, rfl, t, v, rfl, ht, ?_⟩
  unfold cho at h
  cases e : dec (kn v t.w) t.r with
  | none =>
    rw [e] at h
    exact h
  | some i =>
    rw [e] at h
    obtain ⟨r, hr⟩ := dec_some e
    simp only [Option.bind_some, hr, Option.map_some] at h
    have e2 : (t.r.map ruD)[i]? = some (ruD r) := by rw [List.getElem?_map, hr]; rfl
    have hk := (ht.r r (List.mem_of_getElem? hr)).kl
    simp only [eq_self, decide_true, decide_false, Bool.xor_true, Bool.true_xor, Bool.xor_false, Option.some.injEq, Sl.ls.injEq, exists_eq', List.tail_cons, Bool.not_true, Bool.not_false, Nat.reduceAdd, dSeq, dIf, dTst, dBin, dVar, dTup, dNil, dCons, dLst, dC, dRet, dNext, dAsg, dFrz, hTup, hCons, hName, hNil, dSet, dPut, dIfE, dNotT, dAndT, dOrT, dAndV, dOrV, dCB, stl, val, vals, datL, WB, W1, W2, WL, ↓reduceIte, Bool.false_eq_true, backE, bFor, bLoop, bLast, dLc, dLcL, dForL, gEq_unit, gEq_unit0, gEq_str, gEq_int, gIx_t0, gIx_t1, gIx_t2, gLen_lst, gLen_tup, gAll_map_eq, gSorted2_lst_eq, gSorted2_tup_eq, gTuple_lst_eq, List.map_cons, List.map_nil, iSeq, dYes, wipeE, resto, frO, gIn_tup_eq, gIn_lst_eq, List.getElem?_cons_zero, List.getElem?_cons_succ, List.set_cons_zero, List.set_cons_succ, List.cons_append, List.nil_append, List.replicate, Nat.reduceSub, List.length_cons, List.length_nil, true_and, and_true, Bool.false_xor, dEnd, fin1, dFldSet, dFld, dMth, dSlice, dNoP, dPart, slotsOf, slotOf, decD, gIsN, TL.isNon, tkD, gIx_lstn e2, ruD]
    refine ⟨by omega, sz (Nat.le_of_ble_eq_true rfl), ?_⟩
    exact h
end KP

/-! KS9: all views, by the law. -/
namespace KP
open PySem PySem.Spec PyProof.Rows L2 TL
noncomputable def S__law_all_views : DSp := fun args Q => ∃ ws : List Str, args = [.fr (.lst (ws.map .str))] ∧ ws.length ≤ 3 ∧ Q (.nw (.ls ((vws (srt ws)).map vwD))) [.un]
def bv1 : DTS := (dSeq (dSet 1 1 ((dBin gAdd ((dVar 1)) ((dLst (dCons ((dTup (dCons ((dFrz (dVar 4))) (dCons (dC (.bl false)) (dCons (dC (.bl false)) dNil))))) (dCons ((dTup (dCons ((dFrz (dVar 4))) (dCons (dC (.bl false)) (dCons (dC (.bl true)) dNil))))) (dCons ((dTup (dCons ((dFrz (dVar 4))) (dCons (dC (.bl true)) (dCons (dC (.bl false)) dNil))))) (dCons ((dTup (dCons ((dFrz (dVar 4))) (dCons (dC (.bl true)) (dCons (dC (.bl true)) dNil))))) dNil)))))))))
      (dDrop ((dMethF 2 mAppend (dCons ((dTup (dCons (dC (.int 1)) (dCons ((dFrz (dVar 4))) dNil)))) dNil)))))
def bv3 : DTS := (dFor (iSeq ((dLst (dCons (dC (.bl false)) (dCons (dC (.bl true)) dNil))))) (hName 7) (dSet 1 3 ((dBin gAdd ((dVar 3)) ((dLst (dCons ((dTup (dCons ((dFrz (dVar 5))) (dCons ((dFrz (dVar 6))) (dCons ((dFrz (dVar 7))) (dCons (dC (.int 0)) dNil)))))) (dCons ((dTup (dCons ((dFrz (dVar 5))) (dCons ((dFrz (dVar 6))) (dCons ((dFrz (dVar 7))) (dCons (dC (.int 2)) dNil)))))) dNil))))))))
def bv2 : DTS := (dFor (iSeq ((dFrz (dVar 2)))) (hName 6) bv3)
def r__law_all_views : DTS := (dSeq (dPar3M 1 1 2 3 ((dLst (dCons ((dTup dNil)) dNil))) ((dLst (dCons ((dTup dNil)) dNil))) ((dLst dNil)))
      (dSeq (dFor (iSeq ((dCB gSorted2 (dCons ((dVar 0)) dNil)))) (hName 4) bv1)
      (dSeq (dFor (iSeq ((dFrz (dVar 1)))) (hName 5) bv2)
      (dRet ((dVar 3))))))
def LS (s : Sl) (xs : List D) : Prop := s = .ls xs ∨ s = .fr (.lst xs)
section
variable {E : DEnds} {s0 s1 s2 s3 s4 s5 s6 s7 : Sl}
theorem bv1_ok {w : Str} {ts os : List D} (h1 : LS s1 ts) (hl : ts.length ≤ 900) (hl2 : os.length ≤ 900)
    (h : E.nx [s0, .ls (ts ++ [thD (some (w, false, false)), thD (some (w, false, true)), thD (some (w, true, false)), thD (some (w, true, true))]), .ls (os ++ [owD (some w)]), s3, .fr (.str w), s5, s6, s7]) :
    bv1 E [s0, s1, .ls os, s3, .fr (.str w), s5, s6, s7] := by
  have z3 : 3 ≤ sizeLine := sz (by decide)
  have z4 : 4 ≤ sizeLine := sz (by decide)
  have z2 : 2 ≤ sizeLine := sz (by decide)
  simp only [bv1]
  rcases h1 with rfl | rfl <;> (
    simp only [eq_self, decide_true, decide_false, Bool.xor_true, Bool.true_xor, Bool.xor_false, Option.some.injEq, Sl.ls.injEq, exists_eq', List.tail_cons, Bool.not_true, Bool.not_false, Nat.reduceAdd, dSeq, dIf, dTst, dBin, dVar, dTup, dNil, dCons, dLst, dC, dRet, dNext, dAsg, dFrz, hTup, hCons, hName, hNil, dSet, dPut, dIfE, dNotT, dAndT, dOrT, dAndV, dOrV, dCB, stl, val, vals, datL, WB, W1, W2, WL, ↓reduceIte, Bool.false_eq_true, backE, bFor, bLoop, bLast, dLc, dLcL, dForL, gEq_unit, gEq_unit0, gEq_str, gEq_int, gIx_t0, gIx_t1, gIx_t2, gLen_lst, gLen_tup, gAll_map_eq, gSorted2_lst_eq, gSorted2_tup_eq, gTuple_lst_eq, List.map_cons, List.map_nil, iSeq, dYes, wipeE, resto, frO, gIn_tup_eq, gIn_lst_eq, List.getElem?_cons_zero, List.getElem?_cons_succ, List.set_cons_zero, List.set_cons_succ, List.cons_append, List.nil_append, List.replicate, Nat.reduceSub, List.length_cons, List.length_nil, true_and, and_true, Bool.false_xor, dEnd, fin1, dFldSet, dFld, dMth, dSlice, dNoP, dPart, slotsOf, slotOf, gAdd, dDrop, dMethF, mAppend]
    exact ⟨z3, z3, z3, z3, z4, sz (by omega), by decide, z2, fin_big (by omega), h⟩)
theorem bv1_loop : ∀ (ws : List Str) (s1 : Sl) (ts os : List D) (s4 : Sl), LS s1 ts → ts.length + 4 * ws.length ≤ 900 → os.length + ws.length ≤ 900 →
    (∀ s1 s4, LS s1 (ts ++ (ws.flatMap fun w => [some (w, false, false), some (w, false, true), some (w, true, false), some (w, true, true)]).map thD) → E.nx [s0, s1, .ls (os ++ (ws.map some).map owD), s3, s4, s5, s6, s7]) →
    dForL (hName 4) bv1 E (ws.map .str) [s0, s1, .ls os, s3, s4, s5, s6, s7]
  | [], s1, ts, os, s4, h1, hl, hl2, h => by
    have := h s1 s4 (by rw [List.flatMap_nil, List.map_nil, List.append_nil]; exact h1)
    rw [List.map_nil, List.map_nil, List.append_nil] at this
    exact this
  | w :: ws, s1, ts, os, s4, h1, hl, hl2, h => by
    rw [List.length_cons] at hl hl2
    refine bv1_ok (E := { nx := dForL (hName 4) bv1 E (ws.map .str), rt := E.rt, bk := E.nx, ct := dForL (hName 4) bv1 E (ws.map .str) }) h1 (by omega) (by omega) ?_
    refine bv1_loop ws _ _ _ _ (.inl rfl) (by rw [List.length_append]; show ts.length + 4 + _ ≤ 900; omega) (by rw [List.length_append]; show os.length + 1 + _ ≤ 900; omega) fun s1 s4 h1 => ?_
    have := h s1 s4 (by rw [List.flatMap_cons, List.map_append]; simpa using h1)
    simpa using this
theorem bv3_ok {t : Option (Str × Bool × Bool)} {o : Option Str} {vs : List D} (h3 : LS s3 vs) (hl : vs.length ≤ 900)
    (h : ∀ s7, E.nx [s0, s1, s2, .ls (vs ++ (fourV t o).map vwD), s4, .fr (thD t), .fr (owD o), s7]) : bv3 E [s0, s1, s2, s3, s4, .fr (thD t), .fr (owD o), s7] := by
  have z2 : 2 ≤ sizeLine := sz (by decide)
  have z4 : 4 ≤ sizeLine := sz (by decide)
  have hl2 : (vs ++ [D.tup [thD t, owD o, .bl false, .int 0], .tup [thD t, owD o, .bl false, .int 2]]).length + 2 ≤ sizeLine := by rw [List.length_append]; show vs.length + 2 + 2 ≤ sizeLine; exact sz (by omega)
  have h' : ∀ s7, E.nx [s0, s1, s2, .ls (vs ++ [D.tup [thD t, owD o, .bl false, .int 0], .tup [thD t, owD o, .bl false, .int 2]] ++ [D.tup [thD t, owD o, .bl true, .int 0], .tup [thD t, owD o, .bl true, .int 2]]), s4, .fr (thD t), .fr (owD o), s7] := fun s7 => by
    rw [List.append_assoc]
    exact h s7
  simp only [bv3]
  rcases h3 with rfl | rfl <;> (
    simp only [eq_self, decide_true, decide_false, Bool.xor_true, Bool.true_xor, Bool.xor_false, Option.some.injEq, Sl.ls.injEq, exists_eq', List.tail_cons, Bool.not_true, Bool.not_false, Nat.reduceAdd, dSeq, dIf, dTst, dBin, dVar, dTup, dNil, dCons, dLst, dC, dRet, dNext, dAsg, dFrz, hTup, hCons, hName, hNil, dSet, dPut, dIfE, dNotT, dAndT, dOrT, dAndV, dOrV, dCB, stl, val, vals, datL, WB, W1, W2, WL, ↓reduceIte, Bool.false_eq_true, backE, bFor, bLoop, bLast, dLc, dLcL, dForL, gEq_unit, gEq_unit0, gEq_str, gEq_int, gIx_t0, gIx_t1, gIx_t2, gLen_lst, gLen_tup, gAll_map_eq, gSorted2_lst_eq, gSorted2_tup_eq, gTuple_lst_eq, List.map_cons, List.map_nil, iSeq, dYes, wipeE, resto, frO, gIn_tup_eq, gIn_lst_eq, List.getElem?_cons_zero, List.getElem?_cons_succ, List.set_cons_zero, List.set_cons_succ, List.cons_append, List.nil_append, List.replicate, Nat.reduceSub, List.length_cons, List.length_nil, true_and, and_true, Bool.false_xor, dEnd, fin1, dFldSet, dFld, dMth, dSlice, dNoP, dPart, slotsOf, slotOf, gAdd, dFor]
    exact ⟨z2, z4, z4, z2, sz (by omega), by decide, z4, z4, z2, hl2, by decide, h' _⟩)
theorem bv2_loop {t : Option (Str × Bool × Bool)} : ∀ (os : List (Option Str)) (vs : List D) (s3 s6 s7 : Sl), LS s3 vs → vs.length + 4 * os.length ≤ 900 → (os ≠ [] ∨ s3 = .ls vs) →
    (∀ s6 s7, E.nx [s0, s1, s2, .ls (vs ++ (os.flatMap (fourV t)).map vwD), s4, .fr (thD t), s6, s7]) →
    dForL (hName 6) bv3 E (os.map owD) [s0, s1, s2, s3, s4, .fr (thD t), s6, s7]
  | [], vs, s3, s6, s7, h3, hl, hn, h => by
    rcases hn with hn | rfl
    · exact absurd rfl hn
    · have := h s6 s7
      rw [List.flatMap_nil, List.map_nil, List.append_nil] at this
      exact this
  | o :: os, vs, s3, s6, s7, h3, hl, hn, h => by
    rw [List.length_cons] at hl
    refine bv3_ok (E := { nx := dForL (hName 6) bv3 E (os.map owD), rt := E.rt, bk := E.nx, ct := dForL (hName 6) bv3 E (os.map owD) }) (o := o) h3 (by omega) fun s7 => ?_
    refine bv2_loop os _ _ _ _ (.inl rfl) (by rw [List.length_append]; show vs.length + 4 + _ ≤ 900; omega) (.inr rfl) fun s6 s7 => ?_
    have := h s6 s7
    rw [List.flatMap_cons, List.map_append, ← List.append_assoc] at this
    exact this
theorem four_len (t : Option (Str × Bool × Bool)) : ∀ os : List (Option Str), ((os.flatMap (fourV t)).map vwD).length = 4 * os.length
  | [] => rfl
  | o :: os => by
    have := four_len t os
    rw [List.length_map] at this ⊢
    rw [List.flatMap_cons, List.length_append, this, List.length_cons]
    show 4 + _ = _
    omega
theorem bv_loop {os : List (Option Str)} (ho : os ≠ []) (hol : os.length ≤ 4) : ∀ (ts : List (Option (Str × Bool × Bool))) (vs : List D) (s2 s3 s5 s6 s7 : Sl), LS s2 (os.map owD) → LS s3 vs → vs.length + 16 * ts.length ≤ 900 → (ts ≠ [] ∨ s3 = .ls vs) →
    (∀ s2 s5 s6 s7, E.nx [s0, s1, s2, .ls (vs ++ (ts.flatMap fun t => os.flatMap (fourV t)).map vwD), s4, s5, s6, s7]) →
    dForL (hName 5) bv2 E (ts.map thD) [s0, s1, s2, s3, s4, s5, s6, s7]
  | [], vs, s2, s3, s5, s6, s7, h2, h3, hl, hn, h => by
    rcases hn with hn | rfl
    · exact absurd rfl hn
    · have := h s2 s5 s6 s7
      rw [List.flatMap_nil, List.map_nil, List.append_nil] at this
      exact this
  | t :: ts, vs, s2, s3, s5, s6, s7, h2, h3, hl, hn, h => by
    rw [List.length_cons] at hl
    have go : dForL (hName 6) bv3 { nx := dForL (hName 5) bv2 E (ts.map thD), rt := E.rt, bk := E.nx, ct := dForL (hName 5) bv2 E (ts.map thD) } (os.map owD) [s0, s1, .fr (.lst (os.map owD)), s3, s4, .fr (thD t), s6, s7] := by
      refine bv2_loop os vs _ _ _ h3 (by omega) (.inl ho) fun s6 s7 => ?_
      refine bv_loop ho hol ts _ _ _ _ _ _ (.inr rfl) (.inl rfl) (by rw [List.length_append, four_len]; omega) (.inr rfl) fun s2 s5 s6 s7 => ?_
      have := h s2 s5 s6 s7
      rw [List.flatMap_cons, List.map_append, ← List.append_assoc] at this
      exact this
    rcases h2 with rfl | rfl
    · exact go
    · exact go
theorem k__law_all_views : Keeps S__law_all_views 1 8 r__law_all_views := by
  rintro args Q h0 ⟨ws, rfl, hl, h⟩
  clear h0
  simp only [r__law_all_views]
  simp only [eq_self, decide_true, decide_false, Bool.xor_true, Bool.true_xor, Bool.xor_false, Option.some.injEq, Sl.ls.injEq, exists_eq', List.tail_cons, Bool.not_true, Bool.not_false, Nat.reduceAdd, dSeq, dIf, dTst, dBin, dVar, dTup, dNil, dCons, dLst, dC, dRet, dNext, dAsg, dFrz, hTup, hCons, hName, hNil, dSet, dPut, dIfE, dNotT, dAndT, dOrT, dAndV, dOrV, dCB, stl, val, vals, datL, WB, W1, W2, WL, ↓reduceIte, Bool.false_eq_true, backE, bFor, bLoop, bLast, dLc, dLcL, dForL, gEq_unit, gEq_unit0, gEq_str, gEq_int, gIx_t0, gIx_t1, gIx_t2, gLen_lst, gLen_tup, gAll_map_eq, gSorted2_lst_eq, gSorted2_tup_eq, gTuple_lst_eq, List.map_cons, List.map_nil, iSeq, dYes, wipeE, resto, frO, gIn_tup_eq, gIn_lst_eq, List.getElem?_cons_zero, List.getElem?_cons_succ, List.set_cons_zero, List.set_cons_succ, List.cons_append, List.nil_append, List.replicate, Nat.reduceSub, List.length_cons, List.length_nil, true_and, and_true, Bool.false_xor, dEnd, fin1, dFldSet, dFld, dMth, dSlice, dNoP, dPart, slotsOf, slotOf, dPar3M, dFor]
  refine ⟨sz0, sz (by decide), sz0, sz (by decide), by decide, sz0, by omega, ?_⟩
  refine bv1_loop (srt ws) _ [.tup []] [.tup []] _ (.inr rfl) (by rw [srt_len]; show 1 + _ ≤ 900; omega) (by rw [srt_len]; show 1 + _ ≤ 900; omega) fun s1 s4 h1 => ?_
  have key : ∀ s1, s1 = Sl.fr (.lst ((ths (srt ws)).map thD)) → dForL (hName 5) bv2 { nx := dRet (dVar 3) (dEnd 1 Q), rt := (dEnd 1 Q).rt, bk := (dEnd 1 Q).bk, ct := (dEnd 1 Q).ct } ((ths (srt ws)).map thD) [.fr (.lst (ws.map .str)), s1, .ls ((ows (srt ws)).map owD), .fr (.lst []), s4, .un, .un, .un] := by
    intro s1 _
    refine bv_loop (os := ows (srt ws)) (by unfold ows; simp) (by unfold ows; rw [List.length_cons, List.length_map, srt_len]; omega) (ths (srt ws)) [] _ _ _ _ _ (.inl rfl) (.inr rfl) (by rw [ths_len, srt_len]; simp; omega) (.inl (by unfold ths; simp)) fun s2 s5 s6 s7 => ?_
    exact ⟨by decide, _, rfl, rfl, h⟩
  rcases h1 with rfl | rfl
  · exact key _ rfl
  · exact key _ rfl
end
end KP

/-! KS10: drawn rules and keepers. -/
namespace KP
open PySem PySem.Spec PyProof.Rows L2 TL
section
variable {Q : Rs → TL.Env → Prop} {ρ0 : TL.Env} {f : Nat → Sl → TL.Env} {j : Nat} {n : Int}
/-- some of the items, by draws -/
theorem draw_lc (hf0 : ∀ b s, (f b s)[0]? = some (.rs (.sg b))) (hfj : ∀ b s, (f b s)[j]? = some s) (hset : ∀ b s s', (f b s).set j s' = f b s') (hset0 : ∀ b s b', (f b s).set 0 (.rs (.sg b')) = f b' s) (hn : 0 < n) (hn2 : n < 1073741824) :
    ∀ (zs acc : List Str) (b : Nat) (o : Sl), acc.length + zs.length ≤ 900 → zs.length ≤ b → (∀ (ys : List Str) (b' : Nat), ys.Sublist zs → b ≤ b' + zs.length → Q (.nw (.ls ((acc ++ ys).map .str))) (f b' (frO ρ0[j]?))) →
      dLcL (hName j) (dTst (dBin (gEq false) (dCall 2 Sg_take (dCons (dVar 0) (dCons (dC (.int n)) dNil))) (dC (.int 0)))) (dFrz (dVar j)) [j] ρ0 (zs.map .str) (acc.map .str) (f b o) Q
  | [], acc, b, o, _, _, h => by
    have := h [] b (List.Sublist.refl _) (Nat.le_refl _)
    rw [List.append_nil] at this
    show Q _ ((f b o).set j (frO ρ0[j]?))
    rw [hset]
    exact this
  | z :: zs, acc, b, o, hl, hb, h => by
    rw [List.length_cons] at hl hb
    simp only [eq_self, decide_true, decide_false, Bool.xor_true, Bool.true_xor, Bool.xor_false, Option.some.injEq, Sl.ls.injEq, exists_eq', List.tail_cons, Bool.not_true, Bool.not_false, Nat.reduceAdd, dSeq, dIf, dTst, dBin, dVar, dTup, dNil, dCons, dLst, dC, dRet, dNext, dAsg, dFrz, hTup, hCons, hName, hNil, dSet, dPut, dIfE, dNotT, dAndT, dOrT, dAndV, dOrV, dCB, stl, val, vals, datL, WB, W1, W2, WL, ↓reduceIte, Bool.false_eq_true, backE, bFor, bLoop, bLast, dLc, dLcL, dForL, gEq_unit, gEq_unit0, gEq_str, gEq_int, gIx_t0, gIx_t1, gIx_t2, gLen_lst, gLen_tup, gAll_map_eq, gSorted2_lst_eq, gSorted2_tup_eq, gTuple_lst_eq, List.map_cons, List.map_nil, iSeq, dYes, wipeE, resto, frO, gIn_tup_eq, gIn_lst_eq, List.getElem?_cons_zero, List.getElem?_cons_succ, List.set_cons_zero, List.set_cons_succ, List.cons_append, List.nil_append, List.replicate, Nat.reduceSub, List.length_cons, List.length_nil, true_and, and_true, Bool.false_xor, dEnd, fin1, dFldSet, dFld, dMth, dSlice, dNoP, dPart, slotsOf, slotOf, dCall, hset, hf0, Sl.own]
    refine ⟨rfl, b, n, rfl, by omega, hn, hn2, fun k b' k0 k1 hb' => ?_⟩
    simp only [eq_self, decide_true, decide_false, Bool.xor_true, Bool.true_xor, Bool.xor_false, Option.some.injEq, Sl.ls.injEq, exists_eq', List.tail_cons, Bool.not_true, Bool.not_false, Nat.reduceAdd, dSeq, dIf, dTst, dBin, dVar, dTup, dNil, dCons, dLst, dC, dRet, dNext, dAsg, dFrz, hTup, hCons, hName, hNil, dSet, dPut, dIfE, dNotT, dAndT, dOrT, dAndV, dOrV, dCB, stl, val, vals, datL, WB, W1, W2, WL, ↓reduceIte, Bool.false_eq_true, backE, bFor, bLoop, bLast, dLc, dLcL, dForL, gEq_unit, gEq_unit0, gEq_str, gEq_int, gIx_t0, gIx_t1, gIx_t2, gLen_lst, gLen_tup, gAll_map_eq, gSorted2_lst_eq, gSorted2_tup_eq, gTuple_lst_eq, List.map_cons, List.map_nil, iSeq, dYes, wipeE, resto, frO, gIn_tup_eq, gIn_lst_eq, List.getElem?_cons_zero, List.getElem?_cons_succ, List.set_cons_zero, List.set_cons_succ, List.cons_append, List.nil_append, List.replicate, Nat.reduceSub, List.length_cons, List.length_nil, true_and, and_true, Bool.false_xor, dEnd, fin1, dFldSet, dFld, dMth, dSlice, dNoP, dPart, slotsOf, slotOf, own', Sl.own, hset0, hfj]
    cases e : decide (k = 0) with
    | true =>
      simp only [eq_self, decide_true, decide_false, Bool.xor_true, Bool.true_xor, Bool.xor_false, Option.some.injEq, Sl.ls.injEq, exists_eq', List.tail_cons, Bool.not_true, Bool.not_false, Nat.reduceAdd, dSeq, dIf, dTst, dBin, dVar, dTup, dNil, dCons, dLst, dC, dRet, dNext, dAsg, dFrz, hTup, hCons, hName, hNil, dSet, dPut, dIfE, dNotT, dAndT, dOrT, dAndV, dOrV, dCB, stl, val, vals, datL, WB, W1, W2, WL, ↓reduceIte, Bool.false_eq_true, backE, bFor, bLoop, bLast, dLc, dLcL, dForL, gEq_unit, gEq_unit0, gEq_str, gEq_int, gIx_t0, gIx_t1, gIx_t2, gLen_lst, gLen_tup, gAll_map_eq, gSorted2_lst_eq, gSorted2_tup_eq, gTuple_lst_eq, List.map_cons, List.map_nil, iSeq, dYes, wipeE, resto, frO, gIn_tup_eq, gIn_lst_eq, List.getElem?_cons_zero, List.getElem?_cons_succ, List.set_cons_zero, List.set_cons_succ, List.cons_append, List.nil_append, List.replicate, Nat.reduceSub, List.length_cons, List.length_nil, true_and, and_true, Bool.false_xor, dEnd, fin1, dFldSet, dFld, dMth, dSlice, dNoP, dPart, slotsOf, slotOf]
      refine ⟨by rw [List.length_map]; exact fin_big (by omega), ?_⟩
      have := draw_lc hf0 hfj hset hset0 hn hn2 zs (acc ++ [z]) b' (.fr (.str z)) (by simp; omega) (by omega) (fun ys b2 hs h2 => by
        have := h (z :: ys) b2 (hs.cons₂ z) (by rw [List.length_cons]; omega)
        simpa using this)
      rw [List.map_append] at this
      exact this
    | false =>
      simp only [eq_self, decide_true, decide_false, Bool.xor_true, Bool.true_xor, Bool.xor_false, Option.some.injEq, Sl.ls.injEq, exists_eq', List.tail_cons, Bool.not_true, Bool.not_false, Nat.reduceAdd, dSeq, dIf, dTst, dBin, dVar, dTup, dNil, dCons, dLst, dC, dRet, dNext, dAsg, dFrz, hTup, hCons, hName, hNil, dSet, dPut, dIfE, dNotT, dAndT, dOrT, dAndV, dOrV, dCB, stl, val, vals, datL, WB, W1, W2, WL, ↓reduceIte, Bool.false_eq_true, backE, bFor, bLoop, bLast, dLc, dLcL, dForL, gEq_unit, gEq_unit0, gEq_str, gEq_int, gIx_t0, gIx_t1, gIx_t2, gLen_lst, gLen_tup, gAll_map_eq, gSorted2_lst_eq, gSorted2_tup_eq, gTuple_lst_eq, List.map_cons, List.map_nil, iSeq, dYes, wipeE, resto, frO, gIn_tup_eq, gIn_lst_eq, List.getElem?_cons_zero, List.getElem?_cons_succ, List.set_cons_zero, List.set_cons_succ, List.cons_append, List.nil_append, List.replicate, Nat.reduceSub, List.length_cons, List.length_nil, true_and, and_true, Bool.false_xor, dEnd, fin1, dFldSet, dFld, dMth, dSlice, dNoP, dPart, slotsOf, slotOf]
      exact draw_lc hf0 hfj hset hset0 hn hn2 zs acc b' (.fr (.str z)) (by omega) (by omega) (fun ys b2 hs h2 => h ys b2 (hs.cons z) (by rw [List.length_cons]; omega))
end
def knA : List Str := ["gone", "there", "going", "free", "held", "wanted", "unwanted", "bare", "child", "right", "wrong", "alone"]
def knB : List Str := ["others", "tidy", "strays"]
def ckA : List Str := ["thing", "stray", "own", "other"]
def ddA : List Str := ["make", "mark", "correct", "strike", "clear", "hold", "release", "turn"]
theorem kn_marks : (knA ++ knB).all (fun z => decide (z ∈ Lk04.marks)) = true := by decide +kernel
theorem kn_nd : (knA ++ knB).Nodup := by decide +kernel
theorem ck_kinds : ckA.all (fun z => decide (z ∈ Lk04.kinds)) = true := by decide +kernel
theorem ck_nd : ckA.Nodup := by decide +kernel
theorem dd_wd : ddA.all wdB = true := by decide +kernel
theorem dd_deeds : ddA.all (fun z => decide (z = "turn") || decide (z ∈ Lk04.deeds)) = true := by decide +kernel
theorem turn_wd : wdB "turn" = true := by decide +kernel
def S__law_any_rule : DSp := fun args Q => ∃ (b : Nat) (ws : List Str), args = [.rs (.sg b), .fr (.lst (ws.map .str))] ∧ ws ≠ [] ∧ ws.length ≤ 3 ∧ (∀ z ∈ ws, Wd z) ∧ 22 ≤ b ∧ ∀ r b', RuOk r → b ≤ b' + 22 → Q (.dat (ruD r)) [.rs (.sg b'), .un]
def arTail : DTS := (dRet ((dTup (dCons ((dCB gTuple (dCons ((dUn gRev ((dVar 3)))) dNil))) (dCons ((dIfE ((dTst (dBin (gEq false) ((dVar 5)) (dC (.str "turn"))))) ((dTup (dCons (dC (.str "turn")) (dCons ((dCall 2 Sg_pick (dCons ((dVar 0)) (dCons ((dFrz (dVar 1))) dNil)))) dNil)))) ((dTup (dCons ((dFrz (dVar 5))) dNil))))) (dCons ((dCB gTuple (dCons ((dVar 6)) dNil))) dNil))))))
def arChecks : DTS := (dSeq (dSet 2 6 (dLc (iSeq ((dLst (dCons (dC (.str "thing")) (dCons (dC (.str "stray")) (dCons (dC (.str "own")) (dCons (dC (.str "other")) dNil))))))) (hName 7) ((dTst (dBin (gEq false) ((dCall 2 Sg_take (dCons ((dVar 0)) (dCons (dC (.int 4)) dNil)))) (dC (.int 0))))) ((dFrz (dVar 7))) [7]))
      arTail)
def arWord : DTS := (dSeq (dSet 2 5 (dFrz (dCall 2 Sg_pick (dCons ((dVar 0)) (dCons ((dLst (dCons (dC (.str "make")) (dCons (dC (.str "mark")) (dCons (dC (.str "correct")) (dCons (dC (.str "strike")) (dCons (dC (.str "clear")) (dCons (dC (.str "hold")) (dCons (dC (.str "release")) (dCons (dC (.str "turn")) dNil)))))))))) dNil)))))
      arChecks)
def arSight : DTS := (dSeq (dSet 2 3 ((dSlice ((dLc (iSeq ((dFrz (dVar 2)))) (hName 4) ((dTst (dBin (gEq false) ((dCall 2 Sg_take (dCons ((dVar 0)) (dCons (dC (.int 6)) dNil)))) (dC (.int 0))))) ((dFrz (dVar 4))) [4])) dNoP (dPart ((dCall 2 Sg_take (dCons ((dVar 0)) (dCons (dC (.int 5)) dNil))))))))
      arWord)
def r__law_any_rule : DTS := (dSeq (dSet 2 2 ((dLst (dCons (dC (.str "gone")) (dCons (dC (.str "there")) (dCons (dC (.str "going")) (dCons (dC (.str "free")) (dCons (dC (.str "held")) (dCons (dC (.str "wanted")) (dCons (dC (.str "unwanted")) (dCons (dC (.str "bare")) (dCons (dC (.str "child")) (dCons (dC (.str "right")) (dCons (dC (.str "wrong")) (dCons (dC (.str "alone")) dNil)))))))))))))))
      (dSeq (dSet 2 2 ((dBin gAdd ((dVar 2)) ((dLst (dCons (dC (.str "others")) (dCons (dC (.str "tidy")) (dCons (dC (.str "strays")) dNil))))))))
      arSight))
section
variable {E : DEnds} {Q : Rs → List Sl → Prop} {s2 s3 s4 s5 s6 s7 : Sl} {ws ss ks : List Str} {b : Nat}
theorem deed_ok {z : Str} (hz : z ∈ ddA) (ht : z ≠ "turn") : Lk04.isDeed (.tup [.str z]) = true := by
  have := List.all_eq_true.mp dd_deeds z hz
  have hd : z ∈ Lk04.deeds := by simpa [ht] using this
  show (if z = "turn" then Lk04.one [] else ([] : List D).isEmpty && decide (z ∈ Lk04.deeds)) = true
  rw [if_neg ht, decide_eq_true hd]
  rfl
theorem turn_ok {y : Str} (hy : Wd y) : Lk04.isDeed (.tup [.str "turn", .str y]) = true := by
  show (if ("turn" : Str) = "turn" then Lk04.one [.str y] else ([.str y] : List D).isEmpty && decide (("turn" : Str) ∈ Lk04.deeds)) = true
  rw [if_pos rfl]
  exact isWord_wd hy
theorem gRev_strs {P : Rs → Prop} (h : P (.nw (.ls (ss.reverse.map .str)))) : gRev (.lst (ss.map .str)) P := by
  rw [List.map_reverse] at h
  exact h
theorem arTail_ok {z : Str} (hz : z ∈ ddA) (hb : 1 ≤ b) (hne : ws ≠ []) (hwl : ws.length ≤ 3) (hw : ∀ z ∈ ws, Wd z) (h : ∀ d b', Lk04.isDeed (.tup (d.map .str)) = true → (∀ z ∈ d, Wd z) → d.length ≤ 2 → b ≤ b' + 1 → Q (.dat (ruD ⟨ss.reverse, d, ks⟩)) [.rs (.sg b'), .un]) :
    arTail (dEnd 2 Q) [.rs (.sg b), .fr (.lst (ws.map .str)), s2, .ls (ss.map .str), s4, .fr (.str z), .ls (ks.map .str), s7] := by
  simp only [arTail]
  simp only [eq_self, decide_true, decide_false, Bool.xor_true, Bool.true_xor, Bool.xor_false, Option.some.injEq, Sl.ls.injEq, exists_eq', List.tail_cons, Bool.not_true, Bool.not_false, Nat.reduceAdd, dSeq, dIf, dTst, dBin, dVar, dTup, dNil, dCons, dLst, dC, dRet, dNext, dAsg, dFrz, hTup, hCons, hName, hNil, dSet, dPut, dIfE, dNotT, dAndT, dOrT, dAndV, dOrV, dCB, stl, val, vals, datL, WB, W1, W2, WL, ↓reduceIte, Bool.false_eq_true, backE, bFor, bLoop, bLast, dLc, dLcL, dForL, gEq_unit, gEq_unit0, gEq_str, gEq_int, gIx_t0, gIx_t1, gIx_t2, gLen_lst, gLen_tup, gAll_map_eq, gSorted2_lst_eq, gSorted2_tup_eq, gTuple_lst_eq, List.map_cons, List.map_nil, iSeq, dYes, wipeE, resto, frO, gIn_tup_eq, gIn_lst_eq, List.getElem?_cons_zero, List.getElem?_cons_succ, List.set_cons_zero, List.set_cons_succ, List.cons_append, List.nil_append, List.replicate, Nat.reduceSub, List.length_cons, List.length_nil, true_and, and_true, Bool.false_xor, dEnd, fin1, dFldSet, dFld, dMth, dSlice, dNoP, dPart, slotsOf, slotOf, dUn, W1]
  refine gRev_strs ?_
  simp only [eq_self, decide_true, decide_false, Bool.xor_true, Bool.true_xor, Bool.xor_false, Option.some.injEq, Sl.ls.injEq, exists_eq', List.tail_cons, Bool.not_true, Bool.not_false, Nat.reduceAdd, dSeq, dIf, dTst, dBin, dVar, dTup, dNil, dCons, dLst, dC, dRet, dNext, dAsg, dFrz, hTup, hCons, hName, hNil, dSet, dPut, dIfE, dNotT, dAndT, dOrT, dAndV, dOrV, dCB, stl, val, vals, datL, WB, W1, W2, WL, ↓reduceIte, Bool.false_eq_true, backE, bFor, bLoop, bLast, dLc, dLcL, dForL, gEq_unit, gEq_unit0, gEq_str, gEq_int, gIx_t0, gIx_t1, gIx_t2, gLen_lst, gLen_tup, gAll_map_eq, gSorted2_lst_eq, gSorted2_tup_eq, gTuple_lst_eq, List.map_cons, List.map_nil, iSeq, dYes, wipeE, resto, frO, gIn_tup_eq, gIn_lst_eq, List.getElem?_cons_zero, List.getElem?_cons_succ, List.set_cons_zero, List.set_cons_succ, List.cons_append, List.nil_append, List.replicate, Nat.reduceSub, List.length_cons, List.length_nil, true_and, and_true, Bool.false_xor, dEnd, fin1, dFldSet, dFld, dMth, dSlice, dNoP, dPart, slotsOf, slotOf]
  cases e : decide (z = "turn") with
  | true =>
    simp only [eq_self, decide_true, decide_false, Bool.xor_true, Bool.true_xor, Bool.xor_false, Option.some.injEq, Sl.ls.injEq, exists_eq', List.tail_cons, Bool.not_true, Bool.not_false, Nat.reduceAdd, dSeq, dIf, dTst, dBin, dVar, dTup, dNil, dCons, dLst, dC, dRet, dNext, dAsg, dFrz, hTup, hCons, hName, hNil, dSet, dPut, dIfE, dNotT, dAndT, dOrT, dAndV, dOrV, dCB, stl, val, vals, datL, WB, W1, W2, WL, ↓reduceIte, Bool.false_eq_true, backE, bFor, bLoop, bLast, dLc, dLcL, dForL, gEq_unit, gEq_unit0, gEq_str, gEq_int, gIx_t0, gIx_t1, gIx_t2, gLen_lst, gLen_tup, gAll_map_eq, gSorted2_lst_eq, gSorted2_tup_eq, gTuple_lst_eq, List.map_cons, List.map_nil, iSeq, dYes, wipeE, resto, frO, gIn_tup_eq, gIn_lst_eq, List.getElem?_cons_zero, List.getElem?_cons_succ, List.set_cons_zero, List.set_cons_succ, List.cons_append, List.nil_append, List.replicate, Nat.reduceSub, List.length_cons, List.length_nil, true_and, and_true, Bool.false_xor, dEnd, fin1, dFldSet, dFld, dMth, dSlice, dNoP, dPart, slotsOf, slotOf, dCall, Sl.own]
    refine ⟨rfl, b, .lst (ws.map .str), ws.map .str, rfl, rfl, hb, wne hne, by rw [List.length_map]; omega, fun x b' hx hb' => ?_⟩
    obtain ⟨y, hy, rfl⟩ := List.mem_map.mp hx
    simp only [eq_self, decide_true, decide_false, Bool.xor_true, Bool.true_xor, Bool.xor_false, Option.some.injEq, Sl.ls.injEq, exists_eq', List.tail_cons, Bool.not_true, Bool.not_false, Nat.reduceAdd, dSeq, dIf, dTst, dBin, dVar, dTup, dNil, dCons, dLst, dC, dRet, dNext, dAsg, dFrz, hTup, hCons, hName, hNil, dSet, dPut, dIfE, dNotT, dAndT, dOrT, dAndV, dOrV, dCB, stl, val, vals, datL, WB, W1, W2, WL, ↓reduceIte, Bool.false_eq_true, backE, bFor, bLoop, bLast, dLc, dLcL, dForL, gEq_unit, gEq_unit0, gEq_str, gEq_int, gIx_t0, gIx_t1, gIx_t2, gLen_lst, gLen_tup, gAll_map_eq, gSorted2_lst_eq, gSorted2_tup_eq, gTuple_lst_eq, List.map_cons, List.map_nil, iSeq, dYes, wipeE, resto, frO, gIn_tup_eq, gIn_lst_eq, List.getElem?_cons_zero, List.getElem?_cons_succ, List.set_cons_zero, List.set_cons_succ, List.cons_append, List.nil_append, List.replicate, Nat.reduceSub, List.length_cons, List.length_nil, true_and, and_true, Bool.false_xor, dEnd, fin1, dFldSet, dFld, dMth, dSlice, dNoP, dPart, slotsOf, slotOf, own', Sl.own]
    refine ⟨sz (Nat.le_of_ble_eq_true rfl), sz (Nat.le_of_ble_eq_true rfl), ?_⟩
    have := h ["turn", y] b' (turn_ok (hw y hy)) (fun x hx => by
      simp only [List.mem_cons, List.not_mem_nil, or_false] at hx
      rcases hx with rfl | rfl
      · exact turn_wd
      · exact hw _ hy) (Nat.le_refl _) hb'
    exact this
  | false =>
    simp only [eq_self, decide_true, decide_false, Bool.xor_true, Bool.true_xor, Bool.xor_false, Option.some.injEq, Sl.ls.injEq, exists_eq', List.tail_cons, Bool.not_true, Bool.not_false, Nat.reduceAdd, dSeq, dIf, dTst, dBin, dVar, dTup, dNil, dCons, dLst, dC, dRet, dNext, dAsg, dFrz, hTup, hCons, hName, hNil, dSet, dPut, dIfE, dNotT, dAndT, dOrT, dAndV, dOrV, dCB, stl, val, vals, datL, WB, W1, W2, WL, ↓reduceIte, Bool.false_eq_true, backE, bFor, bLoop, bLast, dLc, dLcL, dForL, gEq_unit, gEq_unit0, gEq_str, gEq_int, gIx_t0, gIx_t1, gIx_t2, gLen_lst, gLen_tup, gAll_map_eq, gSorted2_lst_eq, gSorted2_tup_eq, gTuple_lst_eq, List.map_cons, List.map_nil, iSeq, dYes, wipeE, resto, frO, gIn_tup_eq, gIn_lst_eq, List.getElem?_cons_zero, List.getElem?_cons_succ, List.set_cons_zero, List.set_cons_succ, List.cons_append, List.nil_append, List.replicate, Nat.reduceSub, List.length_cons, List.length_nil, true_and, and_true, Bool.false_xor, dEnd, fin1, dFldSet, dFld, dMth, dSlice, dNoP, dPart, slotsOf, slotOf]
    refine ⟨sz (Nat.le_of_ble_eq_true rfl), sz (Nat.le_of_ble_eq_true rfl), ?_⟩
    have := h [z] b (deed_ok hz (of_decide_eq_false e)) (fun x hx => by
      have : x = z := by simpa using hx
      subst this
      exact List.all_eq_true.mp dd_wd _ hz) (Nat.le_succ _) (Nat.le_succ _)
    exact this
theorem arChecks_ok {z : Str} (hz : z ∈ ddA) (hb : 5 ≤ b) (hne : ws ≠ []) (hwl : ws.length ≤ 3) (hw : ∀ z ∈ ws, Wd z) (hs : ss.Sublist (knA ++ knB)) (hs4 : ss.length ≤ 4) (h : ∀ r b', RuOk r → b ≤ b' + 5 → Q (.dat (ruD r)) [.rs (.sg b'), .un]) :
    arChecks (dEnd 2 Q) [.rs (.sg b), .fr (.lst (ws.map .str)), s2, .ls (ss.map .str), s4, .fr (.str z), s6, s7] := by
  simp only [arChecks]
  refine ⟨sz (Nat.le_of_ble_eq_true rfl), ?_⟩
  refine draw_lc (f := fun b o => [.rs (.sg b), .fr (.lst (ws.map .str)), s2, .ls (ss.map .str), s4, .fr (.str z), s6, o]) (j := 7) (n := 4) (ρ0 := [.rs (.sg b), .fr (.lst (ws.map .str)), s2, .ls (ss.map .str), s4, .fr (.str z), s6, s7]) (fun _ _ => rfl) (fun _ _ => rfl) (fun _ _ _ => rfl) (fun _ _ _ => rfl) (by decide) (by decide) ckA [] b s7 (by decide) (by show 4 ≤ b; omega) fun ys b' hy hb' => ?_
  have hb' : b ≤ b' + 4 := hb'
  rw [List.nil_append]
  refine ⟨by decide, ?_⟩
  refine arTail_ok hz (by omega) hne hwl hw fun d b2 e1 e2 e3 e4 => h _ b2 ?_ (by omega)
  refine ⟨fun x hx => ?_, ?_, ?_, e1, e2, fun x hx => ?_, hy.nodup ck_nd, ?_, e3⟩
  · have := hs.subset (List.mem_reverse.mp hx)
    exact of_decide_eq_true (List.all_eq_true.mp kn_marks x this)
  · exact (List.reverse_perm ss).nodup_iff.mpr (hs.nodup kn_nd)
  · show ss.reverse.length ≤ 6
    rw [List.length_reverse]
    omega
  · exact of_decide_eq_true (List.all_eq_true.mp ck_kinds x (hy.subset hx))
  · exact hy.length_le
theorem arSight_ok (hb : 22 ≤ b) (hne : ws ≠ []) (hwl : ws.length ≤ 3) (hw : ∀ z ∈ ws, Wd z) (h : ∀ r b', RuOk r → b ≤ b' + 22 → Q (.dat (ruD r)) [.rs (.sg b'), .un]) :
    arSight (dEnd 2 Q) [.rs (.sg b), .fr (.lst (ws.map .str)), .ls ((knA ++ knB).map .str), .un, .un, .un, .un, .un] := by
  simp only [arSight]
  refine draw_lc (f := fun b o => [.rs (.sg b), .fr (.lst (ws.map .str)), .fr (.lst ((knA ++ knB).map .str)), .un, o, .un, .un, .un]) (j := 4) (n := 6) (ρ0 := [.rs (.sg b), .fr (.lst (ws.map .str)), .fr (.lst ((knA ++ knB).map .str)), .un, .un, .un, .un, .un]) (fun _ _ => rfl) (fun _ _ => rfl) (fun _ _ _ => rfl) (fun _ _ _ => rfl) (by decide) (by decide) (knA ++ knB) [] b .un (by decide) (by show 15 ≤ b; omega) fun ys b1 hy hb1 => ?_
  have hb1 : b ≤ b1 + 15 := hb1
  rw [List.nil_append]
  simp only [eq_self, decide_true, decide_false, Bool.xor_true, Bool.true_xor, Bool.xor_false, Option.some.injEq, Sl.ls.injEq, exists_eq', List.tail_cons, Bool.not_true, Bool.not_false, Nat.reduceAdd, dSeq, dIf, dTst, dBin, dVar, dTup, dNil, dCons, dLst, dC, dRet, dNext, dAsg, dFrz, hTup, hCons, hName, hNil, dSet, dPut, dIfE, dNotT, dAndT, dOrT, dAndV, dOrV, dCB, stl, val, vals, datL, WB, W1, W2, WL, ↓reduceIte, Bool.false_eq_true, backE, bFor, bLoop, bLast, dLc, dLcL, dForL, gEq_unit, gEq_unit0, gEq_str, gEq_int, gIx_t0, gIx_t1, gIx_t2, gLen_lst, gLen_tup, gAll_map_eq, gSorted2_lst_eq, gSorted2_tup_eq, gTuple_lst_eq, List.map_cons, List.map_nil, iSeq, dYes, wipeE, resto, frO, gIn_tup_eq, gIn_lst_eq, List.getElem?_cons_zero, List.getElem?_cons_succ, List.set_cons_zero, List.set_cons_succ, List.cons_append, List.nil_append, List.replicate, Nat.reduceSub, List.length_cons, List.length_nil, true_and, and_true, Bool.false_xor, dEnd, fin1, dFldSet, dFld, dMth, dSlice, dNoP, dPart, slotsOf, slotOf, dCall, Sl.own]
  refine ⟨rfl, b1, 5, rfl, by omega, by decide, by decide, fun k b2 k0 k1 hb2 => ?_⟩
  simp only [eq_self, decide_true, decide_false, Bool.xor_true, Bool.true_xor, Bool.xor_false, Option.some.injEq, Sl.ls.injEq, exists_eq', List.tail_cons, Bool.not_true, Bool.not_false, Nat.reduceAdd, dSeq, dIf, dTst, dBin, dVar, dTup, dNil, dCons, dLst, dC, dRet, dNext, dAsg, dFrz, hTup, hCons, hName, hNil, dSet, dPut, dIfE, dNotT, dAndT, dOrT, dAndV, dOrV, dCB, stl, val, vals, datL, WB, W1, W2, WL, ↓reduceIte, Bool.false_eq_true, backE, bFor, bLoop, bLast, dLc, dLcL, dForL, gEq_unit, gEq_unit0, gEq_str, gEq_int, gIx_t0, gIx_t1, gIx_t2, gLen_lst, gLen_tup, gAll_map_eq, gSorted2_lst_eq, gSorted2_tup_eq, gTuple_lst_eq, List.map_cons, List.map_nil, iSeq, dYes, wipeE, resto, frO, gIn_tup_eq, gIn_lst_eq, List.getElem?_cons_zero, List.getElem?_cons_succ, List.set_cons_zero, List.set_cons_succ, List.cons_append, List.nil_append, List.replicate, Nat.reduceSub, List.length_cons, List.length_nil, true_and, and_true, Bool.false_xor, dEnd, fin1, dFldSet, dFld, dMth, dSlice, dNoP, dPart, slotsOf, slotOf, own', Sl.own, gSlice, arWord]
  have ek : cutD (ys.map .str) none (some k) = (ys.take k.toNat).map .str := by
    obtain ⟨n, rfl⟩ : ∃ n : Nat, k = n := ⟨k.toNat, by omega⟩
    rw [cutD_take, List.map_take]
    rfl
  rw [ek]
  refine ⟨by decide, ?_⟩
  refine ⟨sz (Nat.le_of_ble_eq_true rfl), ?_⟩
  refine ⟨rfl, rfl, b2, .lst (ddA.map .str), ddA.map .str, rfl, rfl, by omega, by simp [ddA], by simp [ddA], fun x b3 hx hb3 => ?_⟩
  obtain ⟨z, hz, rfl⟩ := List.mem_map.mp hx
  refine arChecks_ok hz (by omega) hne hwl hw (hs := (List.take_sublist _ _).trans hy) (by rw [List.length_take]; omega) fun r b4 hr hb4 => h r b4 hr (by omega)
theorem k__law_any_rule : Keeps S__law_any_rule 2 8 r__law_any_rule := by
  rintro args Q h0 ⟨b, ws, rfl, hne, hwl, hw, hb, h⟩
  clear h0
  refine ⟨sz (Nat.le_of_ble_eq_true rfl), by decide, sz (Nat.le_of_ble_eq_true rfl), sz (Nat.le_of_ble_eq_true rfl), by decide, ?_⟩
  exact arSight_ok hb hne hwl hw h
end
end KP

/-! KS11: drawn keepers, nearly the same ones. -/
namespace KP
open PySem PySem.Spec PyProof.Rows L2 TL
def S__law_any_keeper : DSp := fun args Q => ∃ (b : Nat) (tag : Str) (ws : List Str), args = [.rs (.sg b), .fr (.str tag), .fr (.lst (ws.map .str))] ∧ Wd tag ∧ ws ≠ [] ∧ ws.length ≤ 3 ∧ (∀ z ∈ ws, Wd z) ∧ ws.Nodup ∧ 180 ≤ b ∧ ∀ t b', TkOk t → b ≤ b' + 180 → Q (.dat (tkD t)) [.rs (.sg b'), .un, .un]
def r__law_any_keeper : DTS := (dSeq (dSet 3 3 (dLc (iSeq ((dFrz (dVar 2)))) (hName 4) ((dTst (dBin (gEq false) ((dCall 2 Sg_take (dCons ((dVar 0)) (dCons (dC (.int 2)) dNil)))) (dC (.int 0))))) ((dFrz (dVar 4))) [4]))
      (dRet ((dTup (dCons ((dFrz (dVar 1))) (dCons ((dFrz (dVar 3))) (dCons ((dLc (iRange1 (dCons ((dCall 2 Sg_take (dCons ((dVar 0)) (dCons (dC (.int 9)) dNil)))) dNil)) (hName 5) (dYes) ((dCall 2 S__law_any_rule (dCons ((dVar 0)) (dCons ((dFrz (dVar 2))) dNil)))) [5])) dNil)))))))
section
variable {s1 s3 s4 : Sl} {ws : List Str}
theorem rules_draw {ρ0 : TL.Env} {Q : Rs → TL.Env → Prop} (hne : ws ≠ []) (hwl : ws.length ≤ 3) (hw : ∀ z ∈ ws, Wd z) : ∀ (ds : List D) (rs : List Ru) (b : Nat) (o5 : Sl), 22 * ds.length ≤ b → rs.length + ds.length ≤ 100 → (∀ r ∈ rs, RuOk r) →
    (∀ (rs' : List Ru) (b' : Nat), rs'.length = rs.length + ds.length → (∀ r ∈ rs', RuOk r) → b ≤ b' + 22 * ds.length → Q (.nw (.ls (rs'.map ruD))) [.rs (.sg b'), s1, .fr (.lst (ws.map .str)), s3, s4, frO ρ0[5]?]) →
    dLcL (hName 5) dYes (dCall 2 S__law_any_rule (dCons (dVar 0) (dCons (dFrz (dVar 2)) dNil))) [5] ρ0 ds (rs.map ruD) [.rs (.sg b), s1, .fr (.lst (ws.map .str)), s3, s4, o5] Q
  | [], rs, b, o5, _, _, hr, h => h rs b rfl hr (Nat.le_refl _)
  | d :: ds, rs, b, o5, hb, hl, hr, h => by
    rw [List.length_cons] at hb hl
    refine ⟨rfl, rfl, b, ws, rfl, hne, hwl, hw, by omega, fun r b' hr' hb' => ?_⟩
    refine ⟨by rw [List.length_map]; exact fin_big (by omega), ?_⟩
    have := rules_draw (ρ0 := ρ0) (Q := Q) hne hwl hw ds (rs ++ [r]) b' (.fr d) (by omega) (by simp; omega) (fun q hq => by
      rcases List.mem_append.mp hq with z | z
      · exact hr q z
      · have : q = r := by simpa using z
        subst this
        exact hr') (fun rs' b2 e1 e2 e3 => h rs' b2 (by simp at e1 ⊢; omega) e2 (by rw [List.length_cons]; omega))
    rw [List.map_append] at this
    exact this
end
theorem k__law_any_keeper : Keeps S__law_any_keeper 3 6 r__law_any_keeper := by
  rintro args Q h0 ⟨b, tag, ws, rfl, htag, hne, hwl, hw, hn, hb, h⟩
  clear h0
  refine draw_lc (f := fun b o => [.rs (.sg b), .fr (.str tag), .fr (.lst (ws.map .str)), .un, o, .un]) (j := 4) (n := 2) (ρ0 := [.rs (.sg b), .fr (.str tag), .fr (.lst (ws.map .str)), .un, .un, .un]) (fun _ _ => rfl) (fun _ _ => rfl) (fun _ _ _ => rfl) (fun _ _ _ => rfl) (by decide) (by decide) ws [] b .un (by simp; omega) (by omega) fun ys b1 hy hb1 => ?_
  rw [List.nil_append]
  refine ⟨by decide, ?_⟩
  refine ⟨rfl, rfl, b1, 9, rfl, by omega, by decide, by decide, fun k b2 k0 k1 hb2 => ?_⟩
  have p62 : (2 : Int) ^ 62 = 4611686018427387904 := by decide
  refine ⟨by omega, by omega, ?_⟩
  refine rules_draw (ρ0 := [.rs (.sg b2), .fr (.str tag), .fr (.lst (ws.map .str)), .fr (.lst (ys.map .str)), .un, .un]) hne hwl hw (rangeD 0 k.toNat) [] b2 .un (by rw [rangeD_len]; omega) (by rw [rangeD_len]; simp; omega) (fun r hr => by cases hr) fun rs b3 e1 e2 e3 => ?_
  rw [rangeD_len] at e1 e3
  have e1 : rs.length = k.toNat := by simpa using e1
  refine ⟨sz (Nat.le_of_ble_eq_true rfl), ?_⟩
  exact h ⟨tag, ys, rs⟩ b3 ⟨htag, fun z hz => hw z (hy.subset hz), hy.nodup hn, Nat.le_trans hy.length_le hwl, e2, by show rs.length ≤ 8; omega⟩ (by omega)
end KP

/-! KS12: nearly the same keepers. -/
namespace KP
open PySem PySem.Spec PyProof.Rows L2 TL
def S__law_near : DSp := fun args Q => ∃ (b : Nat) (t : Tk) (ws : List Str), args = [.rs (.sg b), .fr (tkD t), .fr (.lst (ws.map .str))] ∧ TkOk t ∧ ws ≠ [] ∧ ws.length ≤ 3 ∧ (∀ z ∈ ws, Wd z) ∧ 30 ≤ b ∧ ∀ t b', TkOk t → b ≤ b' + 30 → Q (.dat (tkD t)) [.rs (.sg b'), .un, .un]
def nr7 : DTS := (dRet ((dTup (dCons (dC (.str "other")) (dCons ((dFrz (dVar 4))) (dCons ((dFrz (dVar 5))) dNil))))))
def nr6 : DTS := (dSeq (dIf ((dTst (dBin gLt ((dVar 6)) ((dCB gLen (dCons ((dVar 5)) dNil)))))) (dSeq (dAsg ((dBin gIx ((dVar 5)) ((dVar 6)))) (hTup 3 (hCons (hName 9) (hCons (hName 10) (hCons (hName 11) hNil)))))
      (dRet ((dTup (dCons ((dFrz (dVar 3))) (dCons ((dFrz (dVar 4))) (dCons ((dBin gAdd ((dBin gAdd ((dSlice ((dVar 5)) dNoP (dPart ((dVar 6))))) ((dLst (dCons ((dTup (dCons ((dFrz (dVar 9))) (dCons ((dFrz (dVar 10))) (dCons ((dSlice ((dUn gRev2 ((dVar 11)))) dNoP (dPart (dC (.int 2))))) dNil))))) dNil))))) ((dSlice ((dVar 5)) (dPart ((dBin gAdd ((dVar 6)) (dC (.int 1))))) dNoP)))) dNil))))))) dNext)
      nr7)
def nr5 : DTS := (dSeq (dIf ((dAndT ((dTst (dBin (gEq false) ((dVar 7)) (dC (.int 5))))) ((dTst (dBin gLt ((dVar 6)) ((dCB gLen (dCons ((dVar 5)) dNil)))))))) (dSeq (dAsg ((dBin gIx ((dVar 5)) ((dVar 6)))) (hTup 3 (hCons (hName 9) (hCons (hName 10) (hCons (hName 11) hNil)))))
      (dRet ((dTup (dCons ((dFrz (dVar 3))) (dCons ((dFrz (dVar 4))) (dCons ((dBin gAdd ((dBin gAdd ((dSlice ((dVar 5)) dNoP (dPart ((dVar 6))))) ((dLst (dCons ((dTup (dCons ((dSlice ((dVar 9)) (dPart (dC (.int 1))) dNoP)) (dCons ((dFrz (dVar 10))) (dCons ((dFrz (dVar 11))) dNil))))) dNil))))) ((dSlice ((dVar 5)) (dPart ((dBin gAdd ((dVar 6)) (dC (.int 1))))) dNoP)))) dNil))))))) dNext)
      nr6)
def nr4 : DTS := (dSeq (dIf ((dTst (dBin (gEq false) ((dVar 7)) (dC (.int 4))))) (dRet ((dTup (dCons ((dFrz (dVar 3))) (dCons ((dFrz (dVar 4))) (dCons ((dBin gAdd ((dBin gAdd ((dSlice ((dVar 5)) dNoP (dPart ((dVar 6))))) ((dUn gRev2 ((dSlice ((dVar 5)) (dPart ((dVar 6))) (dPart ((dBin gAdd ((dVar 6)) (dC (.int 2))))))))))) ((dSlice ((dVar 5)) (dPart ((dBin gAdd ((dVar 6)) (dC (.int 2))))) dNoP)))) dNil)))))) dNext)
      nr5)
def nr3 : DTS := (dSeq (dIf ((dAndT ((dTst (dBin (gEq false) ((dVar 7)) (dC (.int 3))))) ((dAndT ((dTst (dBin gLt ((dVar 6)) ((dCB gLen (dCons ((dVar 5)) dNil)))))) ((dTst (dBin gLt ((dCB gLen (dCons ((dVar 5)) dNil))) (dC (.int 8))))))))) (dRet ((dTup (dCons ((dFrz (dVar 3))) (dCons ((dFrz (dVar 4))) (dCons ((dBin gAdd ((dVar 5)) ((dLst (dCons ((dBin gIx ((dVar 5)) ((dVar 6)))) dNil))))) dNil)))))) dNext)
      nr4)
def nr2 : DTS := (dSeq (dIf ((dTst (dBin (gEq false) ((dVar 7)) (dC (.int 2))))) (dRet ((dTup (dCons ((dFrz (dVar 3))) (dCons ((dFrz (dVar 4))) (dCons ((dBin gAdd ((dSlice ((dVar 5)) dNoP (dPart ((dVar 6))))) ((dSlice ((dVar 5)) (dPart ((dBin gAdd ((dVar 6)) (dC (.int 1))))) dNoP)))) dNil)))))) dNext)
      nr3)
def nr1 : DTS := (dSeq (dIf ((dAndT ((dTst (dBin (gEq false) ((dVar 7)) (dC (.int 1))))) ((dTst (dBin gLt ((dCB gLen (dCons ((dVar 5)) dNil))) (dC (.int 8))))))) (dRet ((dTup (dCons ((dFrz (dVar 3))) (dCons ((dFrz (dVar 4))) (dCons ((dBin gAdd ((dBin gAdd ((dSlice ((dVar 5)) dNoP (dPart ((dVar 6))))) ((dLst (dCons ((dCall 2 S__law_any_rule (dCons ((dVar 0)) (dCons ((dFrz (dVar 2))) dNil)))) dNil))))) ((dSlice ((dVar 5)) (dPart ((dVar 6))) dNoP)))) dNil)))))) dNext)
      nr2)
def nr0 : DTS := (dSeq (dIf ((dTst (dBin (gEq false) ((dVar 7)) (dC (.int 0))))) (dRet ((dTup (dCons ((dFrz (dVar 3))) (dCons ((dLc (iSeq ((dFrz (dVar 4)))) (hName 8) ((dTst (dBin (gEq false) ((dCall 2 Sg_take (dCons ((dVar 0)) (dCons (dC (.int 2)) dNil)))) (dC (.int 0))))) ((dFrz (dVar 8))) [8])) (dCons ((dFrz (dVar 5))) dNil)))))) dNext)
      nr1)
def r__law_near : DTS := (dSeq (dAsg ((dFrz (dVar 1))) (hTup 3 (hCons (hName 3) (hCons (hName 4) (hCons (hName 5) hNil)))))
      (dSeq (dPar2 3 6 7 ((dCall 2 Sg_take (dCons ((dVar 0)) (dCons ((dBin gAdd ((dCB gLen (dCons ((dVar 5)) dNil))) (dC (.int 1)))) dNil)))) ((dCall 2 Sg_take (dCons ((dVar 0)) (dCons (dC (.int 7)) dNil)))))
      nr0))
theorem cut_none {xs : List D} {n : Nat} : cutD xs none (some (n : Int)) = xs.take n := cutD_take xs n
theorem cut_from {xs : List D} {n : Nat} : cutD xs (some (n : Int)) none = xs.drop n := by
  unfold TL.cutD
  rw [HT.sIx_nat, HT.sIx_none, List.take_of_length_le (by rw [List.length_drop]; exact Nat.le_refl _)]
  by_cases h : n ≤ xs.length
  · rw [Nat.min_eq_left h]
  · rw [Nat.min_eq_right (by omega), List.drop_eq_nil_of_le (Nat.le_refl _), List.drop_eq_nil_of_le (by omega)]
theorem cut_two {xs : List D} {n : Nat} : cutD xs (some (n : Int)) (some ((n + 2 : Nat) : Int)) = (xs.drop n).take 2 := by
  unfold TL.cutD
  rw [HT.sIx_nat, HT.sIx_nat]
  by_cases h : n ≤ xs.length
  · rw [Nat.min_eq_left h]
    by_cases h2 : n + 2 ≤ xs.length
    · rw [Nat.min_eq_left h2]
      congr 1
      omega
    · rw [Nat.min_eq_right (by omega), List.take_of_length_le (by rw [List.length_drop]; exact Nat.le_refl _), List.take_of_length_le (by rw [List.length_drop]; omega)]
  · rw [Nat.min_eq_right (show xs.length ≤ n + 2 by omega), Nat.min_eq_right (show xs.length ≤ n by omega), List.drop_eq_nil_of_le (Nat.le_refl _), List.drop_eq_nil_of_le (show xs.length ≤ n by omega)]
    simp
theorem cut_from1 {xs : List D} {n : Nat} : cutD xs (some ((n : Int) + 1)) none = xs.drop (n + 1) := cut_from (n := n + 1)
theorem cut_from2 {xs : List D} {n : Nat} : cutD xs (some ((n : Int) + 2)) none = xs.drop (n + 2) := cut_from (n := n + 2)
theorem cut_two2 {xs : List D} {n : Nat} : cutD xs (some (n : Int)) (some ((n : Int) + 2)) = (xs.drop n).take 2 := cut_two
theorem cut_t2 {xs : List D} : cutD xs none (some 2) = xs.take 2 := cutD_take xs 2
theorem cut_d1 {xs : List D} : cutD xs (some 1) none = xs.drop 1 := cut_from (n := 1)
theorem gRev2_tup {xs : List D} {P : Rs → Prop} : gRev2 (.tup xs) P = P (.dat (.tup xs.reverse)) := rfl
theorem gRev2_lst {xs : List D} {P : Rs → Prop} : gRev2 (.lst xs) P = P (.nw (.ls xs.reverse)) := rfl
theorem gAdd_lst {xs ys : List D} {P : Rs → Prop} : gAdd (.lst xs) (.lst ys) P = (xs.length + ys.length ≤ sizeLine ∧ P (.nw (.ls (xs ++ ys)))) := rfl
theorem add_rus {xs ys : List Ru} {P : Rs → Prop} (hl : xs.length + ys.length ≤ 1000) (h : P (.nw (.ls ((xs ++ ys).map ruD)))) : gAdd (.lst (xs.map ruD)) (.lst (ys.map ruD)) P := by
  refine ⟨by rw [List.length_map, List.length_map]; exact sz hl, ?_⟩
  rw [← List.map_append]
  exact h
theorem gLt_int {i j : Int} {P : Rs → Prop} : gLt (.int i) (.int j) P = P (.dat (.bl (decide (i < j)))) := rfl
theorem gAdd_int {i j : Int} {P : Rs → Prop} : gAdd (.int i) (.int j) P = P (.dat (.int (i + j))) := rfl
section
variable {Q : Rs → List Sl → Prop} {t : Tk} {ws : List Str} {b b0 k : Nat} {y : Int} {s8 s9 s10 s11 : Sl}
/-- the frame behind the draws -/
def nrE (b : Nat) (t : Tk) (ws : List Str) (k : Nat) (y : Int) : TL.Env := [.rs (.sg b), .fr (tkD t), .fr (.lst (ws.map .str)), .fr (.str t.tag), .fr (.lst (t.w.map .str)), .fr (.lst (t.r.map ruD)), .fr (.int (k : Nat)), .fr (.int y), .un, .un, .un, .un]
abbrev Fin9 (Q : Rs → List Sl → Prop) (b : Nat) : Prop := ∀ t b', TkOk t → b ≤ b' + 28 → Q (.dat (tkD t)) [.rs (.sg b'), .un, .un]
theorem tk_rules (ht : TkOk t) {rs : List Ru} (h1 : ∀ r ∈ rs, RuOk r) (h2 : rs.length ≤ 8) : TkOk ⟨t.tag, t.w, rs⟩ := ⟨ht.tag, ht.w, ht.wn, ht.wl, h1, h2⟩
theorem other_wd : wdB "other" = true := by decide +kernel
theorem nr7_ok (ht : TkOk t) (h : Fin9 Q b) : nr7 (dEnd 3 Q) (nrE b t ws k y) :=
  ⟨sz (Nat.le_of_ble_eq_true rfl), h ⟨"other", t.w, t.r⟩ b ⟨other_wd, ht.w, ht.wn, ht.wl, ht.r, ht.rl⟩ (by omega)⟩
theorem nr6_ok (ht : TkOk t) (h : Fin9 Q b) : nr6 (dEnd 3 Q) (nrE b t ws k y) := by
  have h7 := nr7_ok (ws := ws) (k := k) (y := y) ht h
  simp only [nr6, nrE] at h7 ⊢
  simp only [eq_self, decide_true, decide_false, Bool.xor_true, Bool.true_xor, Bool.xor_false, Option.some.injEq, Sl.ls.injEq, exists_eq', List.tail_cons, Bool.not_true, Bool.not_false, Nat.reduceAdd, dSeq, dIf, dTst, dBin, dVar, dTup, dNil, dCons, dLst, dC, dRet, dNext, dAsg, dFrz, hTup, hCons, hName, hNil, dSet, dPut, dIfE, dNotT, dAndT, dOrT, dAndV, dOrV, dCB, stl, val, vals, datL, WB, W1, W2, WL, ↓reduceIte, Bool.false_eq_true, backE, bFor, bLoop, bLast, dLc, dLcL, dForL, gEq_unit, gEq_unit0, gEq_str, gEq_int, gIx_t0, gIx_t1, gIx_t2, gLen_lst, gLen_tup, gAll_map_eq, gSorted2_lst_eq, gSorted2_tup_eq, gTuple_lst_eq, List.map_cons, List.map_nil, iSeq, dYes, wipeE, resto, frO, gIn_tup_eq, gIn_lst_eq, List.getElem?_cons_zero, List.getElem?_cons_succ, List.set_cons_zero, List.set_cons_succ, List.cons_append, List.nil_append, List.replicate, Nat.reduceSub, List.length_cons, List.length_nil, true_and, and_true, Bool.false_xor, dEnd, fin1, dFldSet, dFld, dMth, dSlice, dNoP, dPart, slotsOf, slotOf, gLt_int, List.length_map] at h7 ⊢
  cases e : decide ((k : Int) < t.r.length) with
  | false =>
    simp only [eq_self, decide_true, decide_false, Bool.xor_true, Bool.true_xor, Bool.xor_false, Option.some.injEq, Sl.ls.injEq, exists_eq', List.tail_cons, Bool.not_true, Bool.not_false, Nat.reduceAdd, dSeq, dIf, dTst, dBin, dVar, dTup, dNil, dCons, dLst, dC, dRet, dNext, dAsg, dFrz, hTup, hCons, hName, hNil, dSet, dPut, dIfE, dNotT, dAndT, dOrT, dAndV, dOrV, dCB, stl, val, vals, datL, WB, W1, W2, WL, ↓reduceIte, Bool.false_eq_true, backE, bFor, bLoop, bLast, dLc, dLcL, dForL, gEq_unit, gEq_unit0, gEq_str, gEq_int, gIx_t0, gIx_t1, gIx_t2, gLen_lst, gLen_tup, gAll_map_eq, gSorted2_lst_eq, gSorted2_tup_eq, gTuple_lst_eq, List.map_cons, List.map_nil, iSeq, dYes, wipeE, resto, frO, gIn_tup_eq, gIn_lst_eq, List.getElem?_cons_zero, List.getElem?_cons_succ, List.set_cons_zero, List.set_cons_succ, List.cons_append, List.nil_append, List.replicate, Nat.reduceSub, List.length_cons, List.length_nil, true_and, and_true, Bool.false_xor, dEnd, fin1, dFldSet, dFld, dMth, dSlice, dNoP, dPart, slotsOf, slotOf]
    exact h7
  | true =>
    have hk : k < t.r.length := by have := of_decide_eq_true e; omega
    have hr : t.r[k]? = some t.r[k] := List.getElem?_eq_getElem hk
    have hok := ht.r _ (List.getElem_mem hk)
    generalize t.r[k] = r at hr hok
    have e2 : (t.r.map ruD)[k]? = some (ruD r) := by rw [List.getElem?_map, hr]; rfl
    simp only [eq_self, decide_true, decide_false, Bool.xor_true, Bool.true_xor, Bool.xor_false, Option.some.injEq, Sl.ls.injEq, exists_eq', List.tail_cons, Bool.not_true, Bool.not_false, Nat.reduceAdd, dSeq, dIf, dTst, dBin, dVar, dTup, dNil, dCons, dLst, dC, dRet, dNext, dAsg, dFrz, hTup, hCons, hName, hNil, dSet, dPut, dIfE, dNotT, dAndT, dOrT, dAndV, dOrV, dCB, stl, val, vals, datL, WB, W1, W2, WL, ↓reduceIte, Bool.false_eq_true, backE, bFor, bLoop, bLast, dLc, dLcL, dForL, gEq_unit, gEq_unit0, gEq_str, gEq_int, gIx_t0, gIx_t1, gIx_t2, gLen_lst, gLen_tup, gAll_map_eq, gSorted2_lst_eq, gSorted2_tup_eq, gTuple_lst_eq, List.map_cons, List.map_nil, iSeq, dYes, wipeE, resto, frO, gIn_tup_eq, gIn_lst_eq, List.getElem?_cons_zero, List.getElem?_cons_succ, List.set_cons_zero, List.set_cons_succ, List.cons_append, List.nil_append, List.replicate, Nat.reduceSub, List.length_cons, List.length_nil, true_and, and_true, Bool.false_xor, dEnd, fin1, dFldSet, dFld, dMth, dSlice, dNoP, dPart, slotsOf, slotOf, gIx_lstn e2, ruD, dUn, W1, gSlice, cut_none, cut_from, cut_from1, cut_t2, gAdd_int, gRev2_tup, gAdd_lst]
    have l1 : (List.take k (t.r.map ruD)).length ≤ 8 := by rw [List.length_take, List.length_map]; have := ht.rl; omega
    have l2 : (List.drop (k + 1) (t.r.map ruD)).length ≤ 8 := by rw [List.length_drop, List.length_map]; have := ht.rl; omega
    refine ⟨sz (Nat.le_of_ble_eq_true rfl), sz (Nat.le_of_ble_eq_true rfl), sz (by omega), sz (by rw [List.length_append]; show _ + 1 + _ ≤ 1000; omega), sz (Nat.le_of_ble_eq_true rfl), ?_⟩
    have hok2 : RuOk ⟨r.s, r.d, (r.k.reverse.take 2)⟩ := ⟨hok.sm, hok.sn, hok.sl, hok.d, hok.dw, fun z hz => hok.km z (List.mem_reverse.mp (List.mem_of_mem_take hz)), ((List.take_sublist _ _).nodup ((List.reverse_perm r.k).nodup_iff.mpr hok.kn)), by show (r.k.reverse.take 2).length ≤ 4; rw [List.length_take]; omega, hok.dl⟩
    have := h ⟨t.tag, t.w, t.r.take k ++ [⟨r.s, r.d, (r.k.reverse.take 2)⟩] ++ t.r.drop (k + 1)⟩ b (tk_rules ht (fun q hq => by
      simp only [List.mem_append, List.mem_cons, List.not_mem_nil, or_false] at hq
      rcases hq with (hq | rfl) | hq
      · exact ht.r q (List.mem_of_mem_take hq)
      · exact hok2
      · exact ht.r q (List.mem_of_mem_drop hq)) (by have := ht.rl; simp; omega)) (by omega)
    simp only [tkD, List.map_append, List.map_take, List.map_drop, List.map_cons, List.map_nil, ruD, List.map_reverse] at this
    exact this
theorem nr5_ok (ht : TkOk t) (h : Fin9 Q b) : nr5 (dEnd 3 Q) (nrE b t ws k y) := by
  have h6 := nr6_ok (ws := ws) (k := k) (y := y) ht h
  simp only [nr5, nrE] at h6 ⊢
  simp only [eq_self, decide_true, decide_false, Bool.xor_true, Bool.true_xor, Bool.xor_false, Option.some.injEq, Sl.ls.injEq, exists_eq', List.tail_cons, Bool.not_true, Bool.not_false, Nat.reduceAdd, dSeq, dIf, dTst, dBin, dVar, dTup, dNil, dCons, dLst, dC, dRet, dNext, dAsg, dFrz, hTup, hCons, hName, hNil, dSet, dPut, dIfE, dNotT, dAndT, dOrT, dAndV, dOrV, dCB, stl, val, vals, datL, WB, W1, W2, WL, ↓reduceIte, Bool.false_eq_true, backE, bFor, bLoop, bLast, dLc, dLcL, dForL, gEq_unit, gEq_unit0, gEq_str, gEq_int, gIx_t0, gIx_t1, gIx_t2, gLen_lst, gLen_tup, gAll_map_eq, gSorted2_lst_eq, gSorted2_tup_eq, gTuple_lst_eq, List.map_cons, List.map_nil, iSeq, dYes, wipeE, resto, frO, gIn_tup_eq, gIn_lst_eq, List.getElem?_cons_zero, List.getElem?_cons_succ, List.set_cons_zero, List.set_cons_succ, List.cons_append, List.nil_append, List.replicate, Nat.reduceSub, List.length_cons, List.length_nil, true_and, and_true, Bool.false_xor, dEnd, fin1, dFldSet, dFld, dMth, dSlice, dNoP, dPart, slotsOf, slotOf, gLt_int, List.length_map] at h6 ⊢
  cases ey : decide (y = 5) with
  | false =>
    simp only [eq_self, decide_true, decide_false, Bool.xor_true, Bool.true_xor, Bool.xor_false, Option.some.injEq, Sl.ls.injEq, exists_eq', List.tail_cons, Bool.not_true, Bool.not_false, Nat.reduceAdd, dSeq, dIf, dTst, dBin, dVar, dTup, dNil, dCons, dLst, dC, dRet, dNext, dAsg, dFrz, hTup, hCons, hName, hNil, dSet, dPut, dIfE, dNotT, dAndT, dOrT, dAndV, dOrV, dCB, stl, val, vals, datL, WB, W1, W2, WL, ↓reduceIte, Bool.false_eq_true, backE, bFor, bLoop, bLast, dLc, dLcL, dForL, gEq_unit, gEq_unit0, gEq_str, gEq_int, gIx_t0, gIx_t1, gIx_t2, gLen_lst, gLen_tup, gAll_map_eq, gSorted2_lst_eq, gSorted2_tup_eq, gTuple_lst_eq, List.map_cons, List.map_nil, iSeq, dYes, wipeE, resto, frO, gIn_tup_eq, gIn_lst_eq, List.getElem?_cons_zero, List.getElem?_cons_succ, List.set_cons_zero, List.set_cons_succ, List.cons_append, List.nil_append, List.replicate, Nat.reduceSub, List.length_cons, List.length_nil, true_and, and_true, Bool.false_xor, dEnd, fin1, dFldSet, dFld, dMth, dSlice, dNoP, dPart, slotsOf, slotOf]
    exact h6
  | true =>
  simp only [eq_self, decide_true, decide_false, Bool.xor_true, Bool.true_xor, Bool.xor_false, Option.some.injEq, Sl.ls.injEq, exists_eq', List.tail_cons, Bool.not_true, Bool.not_false, Nat.reduceAdd, dSeq, dIf, dTst, dBin, dVar, dTup, dNil, dCons, dLst, dC, dRet, dNext, dAsg, dFrz, hTup, hCons, hName, hNil, dSet, dPut, dIfE, dNotT, dAndT, dOrT, dAndV, dOrV, dCB, stl, val, vals, datL, WB, W1, W2, WL, ↓reduceIte, Bool.false_eq_true, backE, bFor, bLoop, bLast, dLc, dLcL, dForL, gEq_unit, gEq_unit0, gEq_str, gEq_int, gIx_t0, gIx_t1, gIx_t2, gLen_lst, gLen_tup, gAll_map_eq, gSorted2_lst_eq, gSorted2_tup_eq, gTuple_lst_eq, List.map_cons, List.map_nil, iSeq, dYes, wipeE, resto, frO, gIn_tup_eq, gIn_lst_eq, List.getElem?_cons_zero, List.getElem?_cons_succ, List.set_cons_zero, List.set_cons_succ, List.cons_append, List.nil_append, List.replicate, Nat.reduceSub, List.length_cons, List.length_nil, true_and, and_true, Bool.false_xor, dEnd, fin1, dFldSet, dFld, dMth, dSlice, dNoP, dPart, slotsOf, slotOf]
  cases e : decide ((k : Int) < t.r.length) with
  | false =>
    simp only [eq_self, decide_true, decide_false, Bool.xor_true, Bool.true_xor, Bool.xor_false, Option.some.injEq, Sl.ls.injEq, exists_eq', List.tail_cons, Bool.not_true, Bool.not_false, Nat.reduceAdd, dSeq, dIf, dTst, dBin, dVar, dTup, dNil, dCons, dLst, dC, dRet, dNext, dAsg, dFrz, hTup, hCons, hName, hNil, dSet, dPut, dIfE, dNotT, dAndT, dOrT, dAndV, dOrV, dCB, stl, val, vals, datL, WB, W1, W2, WL, ↓reduceIte, Bool.false_eq_true, backE, bFor, bLoop, bLast, dLc, dLcL, dForL, gEq_unit, gEq_unit0, gEq_str, gEq_int, gIx_t0, gIx_t1, gIx_t2, gLen_lst, gLen_tup, gAll_map_eq, gSorted2_lst_eq, gSorted2_tup_eq, gTuple_lst_eq, List.map_cons, List.map_nil, iSeq, dYes, wipeE, resto, frO, gIn_tup_eq, gIn_lst_eq, List.getElem?_cons_zero, List.getElem?_cons_succ, List.set_cons_zero, List.set_cons_succ, List.cons_append, List.nil_append, List.replicate, Nat.reduceSub, List.length_cons, List.length_nil, true_and, and_true, Bool.false_xor, dEnd, fin1, dFldSet, dFld, dMth, dSlice, dNoP, dPart, slotsOf, slotOf]
    exact h6
  | true =>
    have hk : k < t.r.length := by have := of_decide_eq_true e; omega
    have hr : t.r[k]? = some t.r[k] := List.getElem?_eq_getElem hk
    have hok := ht.r _ (List.getElem_mem hk)
    generalize t.r[k] = r at hr hok
    have e2 : (t.r.map ruD)[k]? = some (ruD r) := by rw [List.getElem?_map, hr]; rfl
    simp only [eq_self, decide_true, decide_false, Bool.xor_true, Bool.true_xor, Bool.xor_false, Option.some.injEq, Sl.ls.injEq, exists_eq', List.tail_cons, Bool.not_true, Bool.not_false, Nat.reduceAdd, dSeq, dIf, dTst, dBin, dVar, dTup, dNil, dCons, dLst, dC, dRet, dNext, dAsg, dFrz, hTup, hCons, hName, hNil, dSet, dPut, dIfE, dNotT, dAndT, dOrT, dAndV, dOrV, dCB, stl, val, vals, datL, WB, W1, W2, WL, ↓reduceIte, Bool.false_eq_true, backE, bFor, bLoop, bLast, dLc, dLcL, dForL, gEq_unit, gEq_unit0, gEq_str, gEq_int, gIx_t0, gIx_t1, gIx_t2, gLen_lst, gLen_tup, gAll_map_eq, gSorted2_lst_eq, gSorted2_tup_eq, gTuple_lst_eq, List.map_cons, List.map_nil, iSeq, dYes, wipeE, resto, frO, gIn_tup_eq, gIn_lst_eq, List.getElem?_cons_zero, List.getElem?_cons_succ, List.set_cons_zero, List.set_cons_succ, List.cons_append, List.nil_append, List.replicate, Nat.reduceSub, List.length_cons, List.length_nil, true_and, and_true, Bool.false_xor, dEnd, fin1, dFldSet, dFld, dMth, dSlice, dNoP, dPart, slotsOf, slotOf, gIx_lstn e2, ruD, dUn, W1, gSlice, cut_none, cut_from, cut_from1, cut_d1, gAdd_int, gRev2_tup, gAdd_lst]
    have l1 : (List.take k (t.r.map ruD)).length ≤ 8 := by rw [List.length_take, List.length_map]; have := ht.rl; omega
    have l2 : (List.drop (k + 1) (t.r.map ruD)).length ≤ 8 := by rw [List.length_drop, List.length_map]; have := ht.rl; omega
    refine ⟨sz (Nat.le_of_ble_eq_true rfl), sz (Nat.le_of_ble_eq_true rfl), sz (by omega), sz (by rw [List.length_append]; show _ + 1 + _ ≤ 1000; omega), sz (Nat.le_of_ble_eq_true rfl), ?_⟩
    have hok2 : RuOk ⟨r.s.drop 1, r.d, r.k⟩ := ⟨fun z hz => hok.sm z (List.mem_of_mem_drop hz), (List.drop_sublist _ _).nodup hok.sn, by have := hok.sl; show (r.s.drop 1).length ≤ 6; rw [List.length_drop]; omega, hok.d, hok.dw, hok.km, hok.kn, hok.kl, hok.dl⟩
    have := h ⟨t.tag, t.w, t.r.take k ++ [⟨r.s.drop 1, r.d, r.k⟩] ++ t.r.drop (k + 1)⟩ b (tk_rules ht (fun q hq => by
      simp only [List.mem_append, List.mem_cons, List.not_mem_nil, or_false] at hq
      rcases hq with (hq | rfl) | hq
      · exact ht.r q (List.mem_of_mem_take hq)
      · exact hok2
      · exact ht.r q (List.mem_of_mem_drop hq)) (by have := ht.rl; simp; omega)) (by omega)
    simp only [tkD, List.map_append, List.map_take, List.map_drop, List.map_cons, List.map_nil, ruD, List.map_reverse] at this
    exact this
theorem nr4_ok (ht : TkOk t) (h : Fin9 Q b) : nr4 (dEnd 3 Q) (nrE b t ws k y) := by
  have h6 := nr5_ok (ws := ws) (k := k) (y := y) ht h
  simp only [nr4, nrE] at h6 ⊢
  simp only [eq_self, decide_true, decide_false, Bool.xor_true, Bool.true_xor, Bool.xor_false, Option.some.injEq, Sl.ls.injEq, exists_eq', List.tail_cons, Bool.not_true, Bool.not_false, Nat.reduceAdd, dSeq, dIf, dTst, dBin, dVar, dTup, dNil, dCons, dLst, dC, dRet, dNext, dAsg, dFrz, hTup, hCons, hName, hNil, dSet, dPut, dIfE, dNotT, dAndT, dOrT, dAndV, dOrV, dCB, stl, val, vals, datL, WB, W1, W2, WL, ↓reduceIte, Bool.false_eq_true, backE, bFor, bLoop, bLast, dLc, dLcL, dForL, gEq_unit, gEq_unit0, gEq_str, gEq_int, gIx_t0, gIx_t1, gIx_t2, gLen_lst, gLen_tup, gAll_map_eq, gSorted2_lst_eq, gSorted2_tup_eq, gTuple_lst_eq, List.map_cons, List.map_nil, iSeq, dYes, wipeE, resto, frO, gIn_tup_eq, gIn_lst_eq, List.getElem?_cons_zero, List.getElem?_cons_succ, List.set_cons_zero, List.set_cons_succ, List.cons_append, List.nil_append, List.replicate, Nat.reduceSub, List.length_cons, List.length_nil, true_and, and_true, Bool.false_xor, dEnd, fin1, dFldSet, dFld, dMth, dSlice, dNoP, dPart, slotsOf, slotOf, gLt_int, List.length_map] at h6 ⊢
  cases ey : decide (y = 4) with
  | false =>
    simp only [eq_self, decide_true, decide_false, Bool.xor_true, Bool.true_xor, Bool.xor_false, Option.some.injEq, Sl.ls.injEq, exists_eq', List.tail_cons, Bool.not_true, Bool.not_false, Nat.reduceAdd, dSeq, dIf, dTst, dBin, dVar, dTup, dNil, dCons, dLst, dC, dRet, dNext, dAsg, dFrz, hTup, hCons, hName, hNil, dSet, dPut, dIfE, dNotT, dAndT, dOrT, dAndV, dOrV, dCB, stl, val, vals, datL, WB, W1, W2, WL, ↓reduceIte, Bool.false_eq_true, backE, bFor, bLoop, bLast, dLc, dLcL, dForL, gEq_unit, gEq_unit0, gEq_str, gEq_int, gIx_t0, gIx_t1, gIx_t2, gLen_lst, gLen_tup, gAll_map_eq, gSorted2_lst_eq, gSorted2_tup_eq, gTuple_lst_eq, List.map_cons, List.map_nil, iSeq, dYes, wipeE, resto, frO, gIn_tup_eq, gIn_lst_eq, List.getElem?_cons_zero, List.getElem?_cons_succ, List.set_cons_zero, List.set_cons_succ, List.cons_append, List.nil_append, List.replicate, Nat.reduceSub, List.length_cons, List.length_nil, true_and, and_true, Bool.false_xor, dEnd, fin1, dFldSet, dFld, dMth, dSlice, dNoP, dPart, slotsOf, slotOf]
    exact h6
  | true =>
    simp only [eq_self, decide_true, decide_false, Bool.xor_true, Bool.true_xor, Bool.xor_false, Option.some.injEq, Sl.ls.injEq, exists_eq', List.tail_cons, Bool.not_true, Bool.not_false, Nat.reduceAdd, dSeq, dIf, dTst, dBin, dVar, dTup, dNil, dCons, dLst, dC, dRet, dNext, dAsg, dFrz, hTup, hCons, hName, hNil, dSet, dPut, dIfE, dNotT, dAndT, dOrT, dAndV, dOrV, dCB, stl, val, vals, datL, WB, W1, W2, WL, ↓reduceIte, Bool.false_eq_true, backE, bFor, bLoop, bLast, dLc, dLcL, dForL, gEq_unit, gEq_unit0, gEq_str, gEq_int, gIx_t0, gIx_t1, gIx_t2, gLen_lst, gLen_tup, gAll_map_eq, gSorted2_lst_eq, gSorted2_tup_eq, gTuple_lst_eq, List.map_cons, List.map_nil, iSeq, dYes, wipeE, resto, frO, gIn_tup_eq, gIn_lst_eq, List.getElem?_cons_zero, List.getElem?_cons_succ, List.set_cons_zero, List.set_cons_succ, List.cons_append, List.nil_append, List.replicate, Nat.reduceSub, List.length_cons, List.length_nil, true_and, and_true, Bool.false_xor, dEnd, fin1, dFldSet, dFld, dMth, dSlice, dNoP, dPart, slotsOf, slotOf, dUn, W1, gSlice, cut_none, cut_from, cut_from2, cut_two2, gAdd_int, gRev2_lst, gAdd_lst]
    have hl := ht.rl
    have l1 : (List.take k (t.r.map ruD)).length ≤ 8 := by rw [List.length_take, List.length_map]; omega
    have l2 : (List.drop (k + 2) (t.r.map ruD)).length ≤ 8 := by rw [List.length_drop, List.length_map]; omega
    have l3 : ((List.drop k (t.r.map ruD)).take 2).reverse.length ≤ 8 := by rw [List.length_reverse, List.length_take]; omega
    refine ⟨sz (by omega), sz (by rw [List.length_append]; omega), sz (Nat.le_of_ble_eq_true rfl), ?_⟩
    have := h ⟨t.tag, t.w, t.r.take k ++ ((t.r.drop k).take 2).reverse ++ t.r.drop (k + 2)⟩ b (tk_rules ht (fun q hq => by
      simp only [List.mem_append, List.mem_reverse] at hq
      rcases hq with (hq | hq) | hq
      · exact ht.r q (List.mem_of_mem_take hq)
      · exact ht.r q (List.mem_of_mem_drop (List.mem_of_mem_take hq))
      · exact ht.r q (List.mem_of_mem_drop hq)) (by simp; omega)) (by omega)
    simp only [tkD, List.map_append, List.map_take, List.map_drop, List.map_cons, List.map_nil, List.map_reverse] at this
    exact this
theorem nr3_ok (ht : TkOk t) (h : Fin9 Q b) : nr3 (dEnd 3 Q) (nrE b t ws k y) := by
  have h6 := nr4_ok (ws := ws) (k := k) (y := y) ht h
  simp only [nr3, nrE] at h6 ⊢
  simp only [eq_self, decide_true, decide_false, Bool.xor_true, Bool.true_xor, Bool.xor_false, Option.some.injEq, Sl.ls.injEq, exists_eq', List.tail_cons, Bool.not_true, Bool.not_false, Nat.reduceAdd, dSeq, dIf, dTst, dBin, dVar, dTup, dNil, dCons, dLst, dC, dRet, dNext, dAsg, dFrz, hTup, hCons, hName, hNil, dSet, dPut, dIfE, dNotT, dAndT, dOrT, dAndV, dOrV, dCB, stl, val, vals, datL, WB, W1, W2, WL, ↓reduceIte, Bool.false_eq_true, backE, bFor, bLoop, bLast, dLc, dLcL, dForL, gEq_unit, gEq_unit0, gEq_str, gEq_int, gIx_t0, gIx_t1, gIx_t2, gLen_lst, gLen_tup, gAll_map_eq, gSorted2_lst_eq, gSorted2_tup_eq, gTuple_lst_eq, List.map_cons, List.map_nil, iSeq, dYes, wipeE, resto, frO, gIn_tup_eq, gIn_lst_eq, List.getElem?_cons_zero, List.getElem?_cons_succ, List.set_cons_zero, List.set_cons_succ, List.cons_append, List.nil_append, List.replicate, Nat.reduceSub, List.length_cons, List.length_nil, true_and, and_true, Bool.false_xor, dEnd, fin1, dFldSet, dFld, dMth, dSlice, dNoP, dPart, slotsOf, slotOf, gLt_int, List.length_map] at h6 ⊢
  cases ey : decide (y = 3) with
  | false =>
    simp only [eq_self, decide_true, decide_false, Bool.xor_true, Bool.true_xor, Bool.xor_false, Option.some.injEq, Sl.ls.injEq, exists_eq', List.tail_cons, Bool.not_true, Bool.not_false, Nat.reduceAdd, dSeq, dIf, dTst, dBin, dVar, dTup, dNil, dCons, dLst, dC, dRet, dNext, dAsg, dFrz, hTup, hCons, hName, hNil, dSet, dPut, dIfE, dNotT, dAndT, dOrT, dAndV, dOrV, dCB, stl, val, vals, datL, WB, W1, W2, WL, ↓reduceIte, Bool.false_eq_true, backE, bFor, bLoop, bLast, dLc, dLcL, dForL, gEq_unit, gEq_unit0, gEq_str, gEq_int, gIx_t0, gIx_t1, gIx_t2, gLen_lst, gLen_tup, gAll_map_eq, gSorted2_lst_eq, gSorted2_tup_eq, gTuple_lst_eq, List.map_cons, List.map_nil, iSeq, dYes, wipeE, resto, frO, gIn_tup_eq, gIn_lst_eq, List.getElem?_cons_zero, List.getElem?_cons_succ, List.set_cons_zero, List.set_cons_succ, List.cons_append, List.nil_append, List.replicate, Nat.reduceSub, List.length_cons, List.length_nil, true_and, and_true, Bool.false_xor, dEnd, fin1, dFldSet, dFld, dMth, dSlice, dNoP, dPart, slotsOf, slotOf]
    exact h6
  | true =>
  simp only [eq_self, decide_true, decide_false, Bool.xor_true, Bool.true_xor, Bool.xor_false, Option.some.injEq, Sl.ls.injEq, exists_eq', List.tail_cons, Bool.not_true, Bool.not_false, Nat.reduceAdd, dSeq, dIf, dTst, dBin, dVar, dTup, dNil, dCons, dLst, dC, dRet, dNext, dAsg, dFrz, hTup, hCons, hName, hNil, dSet, dPut, dIfE, dNotT, dAndT, dOrT, dAndV, dOrV, dCB, stl, val, vals, datL, WB, W1, W2, WL, ↓reduceIte, Bool.false_eq_true, backE, bFor, bLoop, bLast, dLc, dLcL, dForL, gEq_unit, gEq_unit0, gEq_str, gEq_int, gIx_t0, gIx_t1, gIx_t2, gLen_lst, gLen_tup, gAll_map_eq, gSorted2_lst_eq, gSorted2_tup_eq, gTuple_lst_eq, List.map_cons, List.map_nil, iSeq, dYes, wipeE, resto, frO, gIn_tup_eq, gIn_lst_eq, List.getElem?_cons_zero, List.getElem?_cons_succ, List.set_cons_zero, List.set_cons_succ, List.cons_append, List.nil_append, List.replicate, Nat.reduceSub, List.length_cons, List.length_nil, true_and, and_true, Bool.false_xor, dEnd, fin1, dFldSet, dFld, dMth, dSlice, dNoP, dPart, slotsOf, slotOf]
  cases e : decide ((k : Int) < t.r.length) with
  | false =>
    simp only [eq_self, decide_true, decide_false, Bool.xor_true, Bool.true_xor, Bool.xor_false, Option.some.injEq, Sl.ls.injEq, exists_eq', List.tail_cons, Bool.not_true, Bool.not_false, Nat.reduceAdd, dSeq, dIf, dTst, dBin, dVar, dTup, dNil, dCons, dLst, dC, dRet, dNext, dAsg, dFrz, hTup, hCons, hName, hNil, dSet, dPut, dIfE, dNotT, dAndT, dOrT, dAndV, dOrV, dCB, stl, val, vals, datL, WB, W1, W2, WL, ↓reduceIte, Bool.false_eq_true, backE, bFor, bLoop, bLast, dLc, dLcL, dForL, gEq_unit, gEq_unit0, gEq_str, gEq_int, gIx_t0, gIx_t1, gIx_t2, gLen_lst, gLen_tup, gAll_map_eq, gSorted2_lst_eq, gSorted2_tup_eq, gTuple_lst_eq, List.map_cons, List.map_nil, iSeq, dYes, wipeE, resto, frO, gIn_tup_eq, gIn_lst_eq, List.getElem?_cons_zero, List.getElem?_cons_succ, List.set_cons_zero, List.set_cons_succ, List.cons_append, List.nil_append, List.replicate, Nat.reduceSub, List.length_cons, List.length_nil, true_and, and_true, Bool.false_xor, dEnd, fin1, dFldSet, dFld, dMth, dSlice, dNoP, dPart, slotsOf, slotOf]
    exact h6
  | true =>
  simp only [eq_self, decide_true, decide_false, Bool.xor_true, Bool.true_xor, Bool.xor_false, Option.some.injEq, Sl.ls.injEq, exists_eq', List.tail_cons, Bool.not_true, Bool.not_false, Nat.reduceAdd, dSeq, dIf, dTst, dBin, dVar, dTup, dNil, dCons, dLst, dC, dRet, dNext, dAsg, dFrz, hTup, hCons, hName, hNil, dSet, dPut, dIfE, dNotT, dAndT, dOrT, dAndV, dOrV, dCB, stl, val, vals, datL, WB, W1, W2, WL, ↓reduceIte, Bool.false_eq_true, backE, bFor, bLoop, bLast, dLc, dLcL, dForL, gEq_unit, gEq_unit0, gEq_str, gEq_int, gIx_t0, gIx_t1, gIx_t2, gLen_lst, gLen_tup, gAll_map_eq, gSorted2_lst_eq, gSorted2_tup_eq, gTuple_lst_eq, List.map_cons, List.map_nil, iSeq, dYes, wipeE, resto, frO, gIn_tup_eq, gIn_lst_eq, List.getElem?_cons_zero, List.getElem?_cons_succ, List.set_cons_zero, List.set_cons_succ, List.cons_append, List.nil_append, List.replicate, Nat.reduceSub, List.length_cons, List.length_nil, true_and, and_true, Bool.false_xor, dEnd, fin1, dFldSet, dFld, dMth, dSlice, dNoP, dPart, slotsOf, slotOf]
  cases e8 : decide ((t.r.length : Int) < 8) with
  | false =>
    simp only [eq_self, decide_true, decide_false, Bool.xor_true, Bool.true_xor, Bool.xor_false, Option.some.injEq, Sl.ls.injEq, exists_eq', List.tail_cons, Bool.not_true, Bool.not_false, Nat.reduceAdd, dSeq, dIf, dTst, dBin, dVar, dTup, dNil, dCons, dLst, dC, dRet, dNext, dAsg, dFrz, hTup, hCons, hName, hNil, dSet, dPut, dIfE, dNotT, dAndT, dOrT, dAndV, dOrV, dCB, stl, val, vals, datL, WB, W1, W2, WL, ↓reduceIte, Bool.false_eq_true, backE, bFor, bLoop, bLast, dLc, dLcL, dForL, gEq_unit, gEq_unit0, gEq_str, gEq_int, gIx_t0, gIx_t1, gIx_t2, gLen_lst, gLen_tup, gAll_map_eq, gSorted2_lst_eq, gSorted2_tup_eq, gTuple_lst_eq, List.map_cons, List.map_nil, iSeq, dYes, wipeE, resto, frO, gIn_tup_eq, gIn_lst_eq, List.getElem?_cons_zero, List.getElem?_cons_succ, List.set_cons_zero, List.set_cons_succ, List.cons_append, List.nil_append, List.replicate, Nat.reduceSub, List.length_cons, List.length_nil, true_and, and_true, Bool.false_xor, dEnd, fin1, dFldSet, dFld, dMth, dSlice, dNoP, dPart, slotsOf, slotOf]
    exact h6
  | true =>
    have hk : k < t.r.length := by have := of_decide_eq_true e; omega
    have h8 : t.r.length < 8 := by have := of_decide_eq_true e8; omega
    have hr : t.r[k]? = some t.r[k] := List.getElem?_eq_getElem hk
    have hok := ht.r _ (List.getElem_mem hk)
    generalize t.r[k] = r at hr hok
    have e2 : (t.r.map ruD)[k]? = some (ruD r) := by rw [List.getElem?_map, hr]; rfl
    simp only [eq_self, decide_true, decide_false, Bool.xor_true, Bool.true_xor, Bool.xor_false, Option.some.injEq, Sl.ls.injEq, exists_eq', List.tail_cons, Bool.not_true, Bool.not_false, Nat.reduceAdd, dSeq, dIf, dTst, dBin, dVar, dTup, dNil, dCons, dLst, dC, dRet, dNext, dAsg, dFrz, hTup, hCons, hName, hNil, dSet, dPut, dIfE, dNotT, dAndT, dOrT, dAndV, dOrV, dCB, stl, val, vals, datL, WB, W1, W2, WL, ↓reduceIte, Bool.false_eq_true, backE, bFor, bLoop, bLast, dLc, dLcL, dForL, gEq_unit, gEq_unit0, gEq_str, gEq_int, gIx_t0, gIx_t1, gIx_t2, gLen_lst, gLen_tup, gAll_map_eq, gSorted2_lst_eq, gSorted2_tup_eq, gTuple_lst_eq, List.map_cons, List.map_nil, iSeq, dYes, wipeE, resto, frO, gIn_tup_eq, gIn_lst_eq, List.getElem?_cons_zero, List.getElem?_cons_succ, List.set_cons_zero, List.set_cons_succ, List.cons_append, List.nil_append, List.replicate, Nat.reduceSub, List.length_cons, List.length_nil, true_and, and_true, Bool.false_xor, dEnd, fin1, dFldSet, dFld, dMth, dSlice, dNoP, dPart, slotsOf, slotOf, gIx_lstn e2, gAdd_lst]
    refine ⟨sz (Nat.le_of_ble_eq_true rfl), sz (by rw [List.length_map]; omega), sz (Nat.le_of_ble_eq_true rfl), ?_⟩
    have := h ⟨t.tag, t.w, t.r ++ [r]⟩ b (tk_rules ht (fun q hq => by
      simp only [List.mem_append, List.mem_cons, List.not_mem_nil, or_false] at hq
      rcases hq with hq | rfl
      · exact ht.r q hq
      · exact hok) (by simp; omega)) (by omega)
    simp only [tkD, List.map_append, List.map_cons, List.map_nil] at this
    exact this
theorem nr2_ok (ht : TkOk t) (h : Fin9 Q b) : nr2 (dEnd 3 Q) (nrE b t ws k y) := by
  have h6 := nr3_ok (ws := ws) (k := k) (y := y) ht h
  simp only [nr2, nrE] at h6 ⊢
  simp only [eq_self, decide_true, decide_false, Bool.xor_true, Bool.true_xor, Bool.xor_false, Option.some.injEq, Sl.ls.injEq, exists_eq', List.tail_cons, Bool.not_true, Bool.not_false, Nat.reduceAdd, dSeq, dIf, dTst, dBin, dVar, dTup, dNil, dCons, dLst, dC, dRet, dNext, dAsg, dFrz, hTup, hCons, hName, hNil, dSet, dPut, dIfE, dNotT, dAndT, dOrT, dAndV, dOrV, dCB, stl, val, vals, datL, WB, W1, W2, WL, ↓reduceIte, Bool.false_eq_true, backE, bFor, bLoop, bLast, dLc, dLcL, dForL, gEq_unit, gEq_unit0, gEq_str, gEq_int, gIx_t0, gIx_t1, gIx_t2, gLen_lst, gLen_tup, gAll_map_eq, gSorted2_lst_eq, gSorted2_tup_eq, gTuple_lst_eq, List.map_cons, List.map_nil, iSeq, dYes, wipeE, resto, frO, gIn_tup_eq, gIn_lst_eq, List.getElem?_cons_zero, List.getElem?_cons_succ, List.set_cons_zero, List.set_cons_succ, List.cons_append, List.nil_append, List.replicate, Nat.reduceSub, List.length_cons, List.length_nil, true_and, and_true, Bool.false_xor, dEnd, fin1, dFldSet, dFld, dMth, dSlice, dNoP, dPart, slotsOf, slotOf, gLt_int, List.length_map] at h6 ⊢
  cases ey : decide (y = 2) with
  | false =>
    simp only [eq_self, decide_true, decide_false, Bool.xor_true, Bool.true_xor, Bool.xor_false, Option.some.injEq, Sl.ls.injEq, exists_eq', List.tail_cons, Bool.not_true, Bool.not_false, Nat.reduceAdd, dSeq, dIf, dTst, dBin, dVar, dTup, dNil, dCons, dLst, dC, dRet, dNext, dAsg, dFrz, hTup, hCons, hName, hNil, dSet, dPut, dIfE, dNotT, dAndT, dOrT, dAndV, dOrV, dCB, stl, val, vals, datL, WB, W1, W2, WL, ↓reduceIte, Bool.false_eq_true, backE, bFor, bLoop, bLast, dLc, dLcL, dForL, gEq_unit, gEq_unit0, gEq_str, gEq_int, gIx_t0, gIx_t1, gIx_t2, gLen_lst, gLen_tup, gAll_map_eq, gSorted2_lst_eq, gSorted2_tup_eq, gTuple_lst_eq, List.map_cons, List.map_nil, iSeq, dYes, wipeE, resto, frO, gIn_tup_eq, gIn_lst_eq, List.getElem?_cons_zero, List.getElem?_cons_succ, List.set_cons_zero, List.set_cons_succ, List.cons_append, List.nil_append, List.replicate, Nat.reduceSub, List.length_cons, List.length_nil, true_and, and_true, Bool.false_xor, dEnd, fin1, dFldSet, dFld, dMth, dSlice, dNoP, dPart, slotsOf, slotOf]
    exact h6
  | true =>
    simp only [eq_self, decide_true, decide_false, Bool.xor_true, Bool.true_xor, Bool.xor_false, Option.some.injEq, Sl.ls.injEq, exists_eq', List.tail_cons, Bool.not_true, Bool.not_false, Nat.reduceAdd, dSeq, dIf, dTst, dBin, dVar, dTup, dNil, dCons, dLst, dC, dRet, dNext, dAsg, dFrz, hTup, hCons, hName, hNil, dSet, dPut, dIfE, dNotT, dAndT, dOrT, dAndV, dOrV, dCB, stl, val, vals, datL, WB, W1, W2, WL, ↓reduceIte, Bool.false_eq_true, backE, bFor, bLoop, bLast, dLc, dLcL, dForL, gEq_unit, gEq_unit0, gEq_str, gEq_int, gIx_t0, gIx_t1, gIx_t2, gLen_lst, gLen_tup, gAll_map_eq, gSorted2_lst_eq, gSorted2_tup_eq, gTuple_lst_eq, List.map_cons, List.map_nil, iSeq, dYes, wipeE, resto, frO, gIn_tup_eq, gIn_lst_eq, List.getElem?_cons_zero, List.getElem?_cons_succ, List.set_cons_zero, List.set_cons_succ, List.cons_append, List.nil_append, List.replicate, Nat.reduceSub, List.length_cons, List.length_nil, true_and, and_true, Bool.false_xor, dEnd, fin1, dFldSet, dFld, dMth, dSlice, dNoP, dPart, slotsOf, slotOf, gSlice, cut_none, cut_from1, gAdd_int, gAdd_lst]
    have hl := ht.rl
    have l1 : (List.take k (t.r.map ruD)).length ≤ 8 := by rw [List.length_take, List.length_map]; omega
    have l2 : (List.drop (k + 1) (t.r.map ruD)).length ≤ 8 := by rw [List.length_drop, List.length_map]; omega
    refine ⟨sz (by omega), sz (Nat.le_of_ble_eq_true rfl), ?_⟩
    have := h ⟨t.tag, t.w, t.r.take k ++ t.r.drop (k + 1)⟩ b (tk_rules ht (fun q hq => by
      simp only [List.mem_append] at hq
      rcases hq with hq | hq
      · exact ht.r q (List.mem_of_mem_take hq)
      · exact ht.r q (List.mem_of_mem_drop hq)) (by simp; omega)) (by omega)
    simp only [tkD, List.map_append, List.map_take, List.map_drop] at this
    exact this
theorem nr1_ok (ht : TkOk t) (hb : 22 ≤ b) (hne : ws ≠ []) (hwl : ws.length ≤ 3) (hw : ∀ z ∈ ws, Wd z) (h : Fin9 Q b) : nr1 (dEnd 3 Q) (nrE b t ws k y) := by
  have h6 := nr2_ok (ws := ws) (k := k) (y := y) ht h
  simp only [nr1, nrE] at h6 ⊢
  simp only [eq_self, decide_true, decide_false, Bool.xor_true, Bool.true_xor, Bool.xor_false, Option.some.injEq, Sl.ls.injEq, exists_eq', List.tail_cons, Bool.not_true, Bool.not_false, Nat.reduceAdd, dSeq, dIf, dTst, dBin, dVar, dTup, dNil, dCons, dLst, dC, dRet, dNext, dAsg, dFrz, hTup, hCons, hName, hNil, dSet, dPut, dIfE, dNotT, dAndT, dOrT, dAndV, dOrV, dCB, stl, val, vals, datL, WB, W1, W2, WL, ↓reduceIte, Bool.false_eq_true, backE, bFor, bLoop, bLast, dLc, dLcL, dForL, gEq_unit, gEq_unit0, gEq_str, gEq_int, gIx_t0, gIx_t1, gIx_t2, gLen_lst, gLen_tup, gAll_map_eq, gSorted2_lst_eq, gSorted2_tup_eq, gTuple_lst_eq, List.map_cons, List.map_nil, iSeq, dYes, wipeE, resto, frO, gIn_tup_eq, gIn_lst_eq, List.getElem?_cons_zero, List.getElem?_cons_succ, List.set_cons_zero, List.set_cons_succ, List.cons_append, List.nil_append, List.replicate, Nat.reduceSub, List.length_cons, List.length_nil, true_and, and_true, Bool.false_xor, dEnd, fin1, dFldSet, dFld, dMth, dSlice, dNoP, dPart, slotsOf, slotOf, gLt_int, List.length_map] at h6 ⊢
  cases ey : decide (y = 1) with
  | false =>
    simp only [eq_self, decide_true, decide_false, Bool.xor_true, Bool.true_xor, Bool.xor_false, Option.some.injEq, Sl.ls.injEq, exists_eq', List.tail_cons, Bool.not_true, Bool.not_false, Nat.reduceAdd, dSeq, dIf, dTst, dBin, dVar, dTup, dNil, dCons, dLst, dC, dRet, dNext, dAsg, dFrz, hTup, hCons, hName, hNil, dSet, dPut, dIfE, dNotT, dAndT, dOrT, dAndV, dOrV, dCB, stl, val, vals, datL, WB, W1, W2, WL, ↓reduceIte, Bool.false_eq_true, backE, bFor, bLoop, bLast, dLc, dLcL, dForL, gEq_unit, gEq_unit0, gEq_str, gEq_int, gIx_t0, gIx_t1, gIx_t2, gLen_lst, gLen_tup, gAll_map_eq, gSorted2_lst_eq, gSorted2_tup_eq, gTuple_lst_eq, List.map_cons, List.map_nil, iSeq, dYes, wipeE, resto, frO, gIn_tup_eq, gIn_lst_eq, List.getElem?_cons_zero, List.getElem?_cons_succ, List.set_cons_zero, List.set_cons_succ, List.cons_append, List.nil_append, List.replicate, Nat.reduceSub, List.length_cons, List.length_nil, true_and, and_true, Bool.false_xor, dEnd, fin1, dFldSet, dFld, dMth, dSlice, dNoP, dPart, slotsOf, slotOf]
    exact h6
  | true =>
  simp only [eq_self, decide_true, decide_false, Bool.xor_true, Bool.true_xor, Bool.xor_false, Option.some.injEq, Sl.ls.injEq, exists_eq', List.tail_cons, Bool.not_true, Bool.not_false, Nat.reduceAdd, dSeq, dIf, dTst, dBin, dVar, dTup, dNil, dCons, dLst, dC, dRet, dNext, dAsg, dFrz, hTup, hCons, hName, hNil, dSet, dPut, dIfE, dNotT, dAndT, dOrT, dAndV, dOrV, dCB, stl, val, vals, datL, WB, W1, W2, WL, ↓reduceIte, Bool.false_eq_true, backE, bFor, bLoop, bLast, dLc, dLcL, dForL, gEq_unit, gEq_unit0, gEq_str, gEq_int, gIx_t0, gIx_t1, gIx_t2, gLen_lst, gLen_tup, gAll_map_eq, gSorted2_lst_eq, gSorted2_tup_eq, gTuple_lst_eq, List.map_cons, List.map_nil, iSeq, dYes, wipeE, resto, frO, gIn_tup_eq, gIn_lst_eq, List.getElem?_cons_zero, List.getElem?_cons_succ, List.set_cons_zero, List.set_cons_succ, List.cons_append, List.nil_append, List.replicate, Nat.reduceSub, List.length_cons, List.length_nil, true_and, and_true, Bool.false_xor, dEnd, fin1, dFldSet, dFld, dMth, dSlice, dNoP, dPart, slotsOf, slotOf]
  cases e8 : decide ((t.r.length : Int) < 8) with
  | false =>
    simp only [eq_self, decide_true, decide_false, Bool.xor_true, Bool.true_xor, Bool.xor_false, Option.some.injEq, Sl.ls.injEq, exists_eq', List.tail_cons, Bool.not_true, Bool.not_false, Nat.reduceAdd, dSeq, dIf, dTst, dBin, dVar, dTup, dNil, dCons, dLst, dC, dRet, dNext, dAsg, dFrz, hTup, hCons, hName, hNil, dSet, dPut, dIfE, dNotT, dAndT, dOrT, dAndV, dOrV, dCB, stl, val, vals, datL, WB, W1, W2, WL, ↓reduceIte, Bool.false_eq_true, backE, bFor, bLoop, bLast, dLc, dLcL, dForL, gEq_unit, gEq_unit0, gEq_str, gEq_int, gIx_t0, gIx_t1, gIx_t2, gLen_lst, gLen_tup, gAll_map_eq, gSorted2_lst_eq, gSorted2_tup_eq, gTuple_lst_eq, List.map_cons, List.map_nil, iSeq, dYes, wipeE, resto, frO, gIn_tup_eq, gIn_lst_eq, List.getElem?_cons_zero, List.getElem?_cons_succ, List.set_cons_zero, List.set_cons_succ, List.cons_append, List.nil_append, List.replicate, Nat.reduceSub, List.length_cons, List.length_nil, true_and, and_true, Bool.false_xor, dEnd, fin1, dFldSet, dFld, dMth, dSlice, dNoP, dPart, slotsOf, slotOf]
    exact h6
  | true =>
    have h8 : t.r.length < 8 := by have := of_decide_eq_true e8; omega
    simp only [eq_self, decide_true, decide_false, Bool.xor_true, Bool.true_xor, Bool.xor_false, Option.some.injEq, Sl.ls.injEq, exists_eq', List.tail_cons, Bool.not_true, Bool.not_false, Nat.reduceAdd, dSeq, dIf, dTst, dBin, dVar, dTup, dNil, dCons, dLst, dC, dRet, dNext, dAsg, dFrz, hTup, hCons, hName, hNil, dSet, dPut, dIfE, dNotT, dAndT, dOrT, dAndV, dOrV, dCB, stl, val, vals, datL, WB, W1, W2, WL, ↓reduceIte, Bool.false_eq_true, backE, bFor, bLoop, bLast, dLc, dLcL, dForL, gEq_unit, gEq_unit0, gEq_str, gEq_int, gIx_t0, gIx_t1, gIx_t2, gLen_lst, gLen_tup, gAll_map_eq, gSorted2_lst_eq, gSorted2_tup_eq, gTuple_lst_eq, List.map_cons, List.map_nil, iSeq, dYes, wipeE, resto, frO, gIn_tup_eq, gIn_lst_eq, List.getElem?_cons_zero, List.getElem?_cons_succ, List.set_cons_zero, List.set_cons_succ, List.cons_append, List.nil_append, List.replicate, Nat.reduceSub, List.length_cons, List.length_nil, true_and, and_true, Bool.false_xor, dEnd, fin1, dFldSet, dFld, dMth, dSlice, dNoP, dPart, slotsOf, slotOf, gSlice, cut_none, cut_from, dCall, Sl.own]
    refine ⟨rfl, b, ws, rfl, hne, hwl, hw, hb, fun r b' hr' hb' => ?_⟩
    simp only [eq_self, decide_true, decide_false, Bool.xor_true, Bool.true_xor, Bool.xor_false, Option.some.injEq, Sl.ls.injEq, exists_eq', List.tail_cons, Bool.not_true, Bool.not_false, Nat.reduceAdd, dSeq, dIf, dTst, dBin, dVar, dTup, dNil, dCons, dLst, dC, dRet, dNext, dAsg, dFrz, hTup, hCons, hName, hNil, dSet, dPut, dIfE, dNotT, dAndT, dOrT, dAndV, dOrV, dCB, stl, val, vals, datL, WB, W1, W2, WL, ↓reduceIte, Bool.false_eq_true, backE, bFor, bLoop, bLast, dLc, dLcL, dForL, gEq_unit, gEq_unit0, gEq_str, gEq_int, gIx_t0, gIx_t1, gIx_t2, gLen_lst, gLen_tup, gAll_map_eq, gSorted2_lst_eq, gSorted2_tup_eq, gTuple_lst_eq, List.map_cons, List.map_nil, iSeq, dYes, wipeE, resto, frO, gIn_tup_eq, gIn_lst_eq, List.getElem?_cons_zero, List.getElem?_cons_succ, List.set_cons_zero, List.set_cons_succ, List.cons_append, List.nil_append, List.replicate, Nat.reduceSub, List.length_cons, List.length_nil, true_and, and_true, Bool.false_xor, dEnd, fin1, dFldSet, dFld, dMth, dSlice, dNoP, dPart, slotsOf, slotOf, own', Sl.own, gSlice, cut_none, cut_from, gAdd_lst]
    have l1 : (List.take k (t.r.map ruD)).length ≤ 8 := by rw [List.length_take, List.length_map]; omega
    have l2 : (List.drop k (t.r.map ruD)).length ≤ 8 := by rw [List.length_drop, List.length_map]; omega
    refine ⟨sz (Nat.le_of_ble_eq_true rfl), sz (by omega), sz (by rw [List.length_append]; show _ + 1 + _ ≤ 1000; omega), sz (Nat.le_of_ble_eq_true rfl), ?_⟩
    have := h ⟨t.tag, t.w, t.r.take k ++ [r] ++ t.r.drop k⟩ b' (tk_rules ht (fun q hq => by
      simp only [List.mem_append, List.mem_cons, List.not_mem_nil, or_false] at hq
      rcases hq with (hq | rfl) | hq
      · exact ht.r q (List.mem_of_mem_take hq)
      · exact hr'
      · exact ht.r q (List.mem_of_mem_drop hq)) (by simp; omega)) (by omega)
    simp only [tkD, List.map_append, List.map_take, List.map_drop, List.map_cons, List.map_nil] at this
    exact this
theorem nr0_ok (ht : TkOk t) (hb : 22 ≤ b) (hne : ws ≠ []) (hwl : ws.length ≤ 3) (hw : ∀ z ∈ ws, Wd z) (h : Fin9 Q b) : nr0 (dEnd 3 Q) (nrE b t ws k y) := by
  have h6 := nr1_ok (k := k) (y := y) ht hb hne hwl hw h
  have hl := ht.wl
  have fin : ∀ (ys : List Str) (b' : Nat), ys.Sublist t.w → b ≤ b' + t.w.length → Q (.dat (tkD ⟨t.tag, ys, t.r⟩)) [.rs (.sg b'), .un, .un] := fun ys b' hs hb' => h _ b' ⟨ht.tag, fun z hz => ht.w z (hs.subset hz), hs.nodup ht.wn, Nat.le_trans hs.length_le hl, ht.r, ht.rl⟩ (by omega)
  simp only [nr0, nrE] at h6 ⊢
  rw [show ∀ (a b : DTS) (D : DEnds) (ρ : TL.Env), dSeq a b D ρ = a { D with nx := b D } ρ from fun _ _ _ _ => rfl]
  cases ey : decide (y = 0) with
  | false =>
    simp only [eq_self, decide_true, decide_false, Bool.xor_true, Bool.true_xor, Bool.xor_false, Option.some.injEq, Sl.ls.injEq, exists_eq', List.tail_cons, Bool.not_true, Bool.not_false, Nat.reduceAdd, dSeq, dIf, dTst, dBin, dVar, dTup, dNil, dCons, dLst, dC, dRet, dNext, dAsg, dFrz, hTup, hCons, hName, hNil, dSet, dPut, dIfE, dNotT, dAndT, dOrT, dAndV, dOrV, dCB, stl, val, vals, datL, WB, W1, W2, WL, ↓reduceIte, Bool.false_eq_true, backE, bFor, bLoop, bLast, dLc, dLcL, dForL, gEq_unit, gEq_unit0, gEq_str, gEq_int, gIx_t0, gIx_t1, gIx_t2, gLen_lst, gLen_tup, gAll_map_eq, gSorted2_lst_eq, gSorted2_tup_eq, gTuple_lst_eq, List.map_cons, List.map_nil, iSeq, dYes, wipeE, resto, frO, gIn_tup_eq, gIn_lst_eq, List.getElem?_cons_zero, List.getElem?_cons_succ, List.set_cons_zero, List.set_cons_succ, List.cons_append, List.nil_append, List.replicate, Nat.reduceSub, List.length_cons, List.length_nil, true_and, and_true, Bool.false_xor, dEnd, fin1, dFldSet, dFld, dMth, dSlice, dNoP, dPart, slotsOf, slotOf] at h6
    simp only [eq_self, decide_true, decide_false, Bool.xor_true, Bool.true_xor, Bool.xor_false, Option.some.injEq, Sl.ls.injEq, exists_eq', List.tail_cons, Bool.not_true, Bool.not_false, Nat.reduceAdd, dSeq, dIf, dTst, dBin, dVar, dTup, dNil, dCons, dLst, dC, dRet, dNext, dAsg, dFrz, hTup, hCons, hName, hNil, dSet, dPut, dIfE, dNotT, dAndT, dOrT, dAndV, dOrV, dCB, stl, val, vals, datL, WB, W1, W2, WL, ↓reduceIte, Bool.false_eq_true, backE, bFor, bLoop, bLast, dLc, dLcL, dForL, gEq_unit, gEq_unit0, gEq_str, gEq_int, gIx_t0, gIx_t1, gIx_t2, gLen_lst, gLen_tup, gAll_map_eq, gSorted2_lst_eq, gSorted2_tup_eq, gTuple_lst_eq, List.map_cons, List.map_nil, iSeq, dYes, wipeE, resto, frO, gIn_tup_eq, gIn_lst_eq, List.getElem?_cons_zero, List.getElem?_cons_succ, List.set_cons_zero, List.set_cons_succ, List.cons_append, List.nil_append, List.replicate, Nat.reduceSub, List.length_cons, List.length_nil, true_and, and_true, Bool.false_xor, dEnd, fin1, dFldSet, dFld, dMth, dSlice, dNoP, dPart, slotsOf, slotOf, ey]
    exact h6
  | true =>
    simp only [eq_self, decide_true, decide_false, Bool.xor_true, Bool.true_xor, Bool.xor_false, Option.some.injEq, Sl.ls.injEq, exists_eq', List.tail_cons, Bool.not_true, Bool.not_false, Nat.reduceAdd, dSeq, dIf, dTst, dBin, dVar, dTup, dNil, dCons, dLst, dC, dRet, dNext, dAsg, dFrz, hTup, hCons, hName, hNil, dSet, dPut, dIfE, dNotT, dAndT, dOrT, dAndV, dOrV, dCB, stl, val, vals, datL, WB, W1, W2, WL, ↓reduceIte, Bool.false_eq_true, backE, bFor, bLoop, bLast, dLc, dLcL, dForL, gEq_unit, gEq_unit0, gEq_str, gEq_int, gIx_t0, gIx_t1, gIx_t2, gLen_lst, gLen_tup, gAll_map_eq, gSorted2_lst_eq, gSorted2_tup_eq, gTuple_lst_eq, List.map_cons, List.map_nil, iSeq, dYes, wipeE, resto, frO, gIn_tup_eq, gIn_lst_eq, List.getElem?_cons_zero, List.getElem?_cons_succ, List.set_cons_zero, List.set_cons_succ, List.cons_append, List.nil_append, List.replicate, Nat.reduceSub, List.length_cons, List.length_nil, true_and, and_true, Bool.false_xor, dEnd, fin1, dFldSet, dFld, dMth, dSlice, dNoP, dPart, slotsOf, slotOf, ey]
    refine draw_lc (f := fun b o => [Sl.rs (Res.sg b), Sl.fr (tkD t), Sl.fr (D.lst (List.map D.str ws)), Sl.fr (D.str t.tag), Sl.fr (D.lst (List.map D.str t.w)), Sl.fr (D.lst (List.map ruD t.r)), Sl.fr (D.int (k : Nat)), Sl.fr (D.int y), o, Sl.un, Sl.un, Sl.un]) (j := 8) (n := 2) (ρ0 := [Sl.rs (Res.sg b), Sl.fr (tkD t), Sl.fr (D.lst (List.map D.str ws)), Sl.fr (D.str t.tag), Sl.fr (D.lst (List.map D.str t.w)), Sl.fr (D.lst (List.map ruD t.r)), Sl.fr (D.int (k : Nat)), Sl.fr (D.int y), Sl.un, Sl.un, Sl.un, Sl.un]) (fun _ _ => rfl) (fun _ _ => rfl) (fun _ _ _ => rfl) (fun _ _ _ => rfl) (by decide) (by decide) t.w [] b .un (by simp; omega) (by omega) fun ys b1 hy hb1 => ?_
    rw [List.nil_append]
    exact ⟨sz (Nat.le_of_ble_eq_true rfl), fin ys b1 hy hb1⟩
end
theorem k__law_near : Keeps S__law_near 3 12 r__law_near := by
  rintro args Q h0 ⟨b, t, ws, rfl, ht, hne, hwl, hw, hb, h⟩
  clear h0
  simp only [r__law_near]
  have hl := ht.rl
  simp only [eq_self, decide_true, decide_false, Bool.xor_true, Bool.true_xor, Bool.xor_false, Option.some.injEq, Sl.ls.injEq, exists_eq', List.tail_cons, Bool.not_true, Bool.not_false, Nat.reduceAdd, dSeq, dIf, dTst, dBin, dVar, dTup, dNil, dCons, dLst, dC, dRet, dNext, dAsg, dFrz, hTup, hCons, hName, hNil, dSet, dPut, dIfE, dNotT, dAndT, dOrT, dAndV, dOrV, dCB, stl, val, vals, datL, WB, W1, W2, WL, ↓reduceIte, Bool.false_eq_true, backE, bFor, bLoop, bLast, dLc, dLcL, dForL, gEq_unit, gEq_unit0, gEq_str, gEq_int, gIx_t0, gIx_t1, gIx_t2, gLen_lst, gLen_tup, gAll_map_eq, gSorted2_lst_eq, gSorted2_tup_eq, gTuple_lst_eq, List.map_cons, List.map_nil, iSeq, dYes, wipeE, resto, frO, gIn_tup_eq, gIn_lst_eq, List.getElem?_cons_zero, List.getElem?_cons_succ, List.set_cons_zero, List.set_cons_succ, List.cons_append, List.nil_append, List.replicate, Nat.reduceSub, List.length_cons, List.length_nil, true_and, and_true, Bool.false_xor, dEnd, fin1, dFldSet, dFld, dMth, dSlice, dNoP, dPart, slotsOf, slotOf, tkD, dCall, Sl.own, dPar2, gAdd_int, List.length_map]
  refine ⟨rfl, b, (t.r.length : Int) + 1, rfl, by omega, by omega, by omega, fun i b1 i0 i1 hb1 => ?_⟩
  simp only [eq_self, decide_true, decide_false, Bool.xor_true, Bool.true_xor, Bool.xor_false, Option.some.injEq, Sl.ls.injEq, exists_eq', List.tail_cons, Bool.not_true, Bool.not_false, Nat.reduceAdd, dSeq, dIf, dTst, dBin, dVar, dTup, dNil, dCons, dLst, dC, dRet, dNext, dAsg, dFrz, hTup, hCons, hName, hNil, dSet, dPut, dIfE, dNotT, dAndT, dOrT, dAndV, dOrV, dCB, stl, val, vals, datL, WB, W1, W2, WL, ↓reduceIte, Bool.false_eq_true, backE, bFor, bLoop, bLast, dLc, dLcL, dForL, gEq_unit, gEq_unit0, gEq_str, gEq_int, gIx_t0, gIx_t1, gIx_t2, gLen_lst, gLen_tup, gAll_map_eq, gSorted2_lst_eq, gSorted2_tup_eq, gTuple_lst_eq, List.map_cons, List.map_nil, iSeq, dYes, wipeE, resto, frO, gIn_tup_eq, gIn_lst_eq, List.getElem?_cons_zero, List.getElem?_cons_succ, List.set_cons_zero, List.set_cons_succ, List.cons_append, List.nil_append, List.replicate, Nat.reduceSub, List.length_cons, List.length_nil, true_and, and_true, Bool.false_xor, dEnd, fin1, dFldSet, dFld, dMth, dSlice, dNoP, dPart, slotsOf, slotOf, own', Sl.own]
  refine ⟨rfl, b1, 7, rfl, by omega, by decide, by decide, fun y b2 y0 y1 hb2 => ?_⟩
  simp only [eq_self, decide_true, decide_false, Bool.xor_true, Bool.true_xor, Bool.xor_false, Option.some.injEq, Sl.ls.injEq, exists_eq', List.tail_cons, Bool.not_true, Bool.not_false, Nat.reduceAdd, dSeq, dIf, dTst, dBin, dVar, dTup, dNil, dCons, dLst, dC, dRet, dNext, dAsg, dFrz, hTup, hCons, hName, hNil, dSet, dPut, dIfE, dNotT, dAndT, dOrT, dAndV, dOrV, dCB, stl, val, vals, datL, WB, W1, W2, WL, ↓reduceIte, Bool.false_eq_true, backE, bFor, bLoop, bLast, dLc, dLcL, dForL, gEq_unit, gEq_unit0, gEq_str, gEq_int, gIx_t0, gIx_t1, gIx_t2, gLen_lst, gLen_tup, gAll_map_eq, gSorted2_lst_eq, gSorted2_tup_eq, gTuple_lst_eq, List.map_cons, List.map_nil, iSeq, dYes, wipeE, resto, frO, gIn_tup_eq, gIn_lst_eq, List.getElem?_cons_zero, List.getElem?_cons_succ, List.set_cons_zero, List.set_cons_succ, List.cons_append, List.nil_append, List.replicate, Nat.reduceSub, List.length_cons, List.length_nil, true_and, and_true, Bool.false_xor, dEnd, fin1, dFldSet, dFld, dMth, dSlice, dNoP, dPart, slotsOf, slotOf, own', Sl.own]
  have ei : i = ((i.toNat : Nat) : Int) := by omega
  generalize i.toNat = k at ei
  subst ei
  exact nr0_ok (k := k) (y := y) ht (by omega) hne hwl hw fun t' b' ht' hb' => h t' b' ht' (by omega)
end KP

/-! KS13: the draws' names; facts about unlike views. -/
namespace KP
open PySem PySem.Spec PyProof.Rows L2 TL
abbrev S__law_begun := Sg_begun
abbrev S__law_mixed := Sg_mixed
abbrev S__law_take := Sg_take
abbrev S__law_pick := Sg_pick
abbrev S__law_word := Sg_word
abbrev S__law_words := Sg_words
theorem k__law_begun : Keeps S__law_begun 1 3 rg_begun := kg_begun
theorem k__law_mixed : Keeps S__law_mixed 1 5 rg_mixed := kg_mixed
theorem k__law_take : Keeps S__law_take 2 3 rg_take := kg_take
theorem k__law_pick : Keeps S__law_pick 2 2 rg_pick := kg_pick
theorem k__law_word : Keeps S__law_word 1 4 rg_word := kg_word
theorem k__law_words : Keeps S__law_words 2 6 rg_words := kg_words
theorem gIx_l0 {x : D} {xs : List D} {P : Rs → Prop} : gIx (.lst (x :: xs)) (.int 0) P = P (.dat x) := gIx_lstn (i := 0) rfl
theorem gIx_l1 {x y : D} {xs : List D} {P : Rs → Prop} : gIx (.lst (x :: y :: xs)) (.int 1) P = P (.dat y) := gIx_lstn (i := 1) rfl
theorem gIx_l2 {x y z : D} {xs : List D} {P : Rs → Prop} : gIx (.lst (x :: y :: z :: xs)) (.int 2) P = P (.dat z) := gIx_lstn (i := 2) rfl
theorem gRev_lst {xs : List D} {P : Rs → Prop} : gRev (.lst xs) P = P (.nw (.ls xs.reverse)) := rfl
theorem gGt_int {i j : Int} {P : Rs → Prop} : gGt (.int i) (.int j) P = P (.dat (.bl (decide (j < i)))) := rfl
theorem sel3 {x y z : Rs} : sel [2, 1, 0] [x, y, z] = [z, y, x] := rfl
theorem unl_symm (t u : Tk) : unl t u = unl u t := by
  funext v
  unfold unl
  rw [show decide (cho (kn v t.w) t.r = cho (kn v u.w) u.r) = decide (cho (kn v u.w) u.r = cho (kn v t.w) t.r) from decide_eq_decide.mpr ⟨Eq.symm, Eq.symm⟩]
theorem unl_self (t : Tk) (vs : List Vw) : vs.find? (unl t t) = none := by
  rw [List.find?_eq_none]
  intro v _
  simp [unl]
theorem prtD_find (p : Vw → Bool) (vs : List Vw) : vs.find? p = (vs.filter p).head? := List.head?_filter.symm
theorem vws_len {ws : List Str} (h : ws.length ≤ 3) : (vws ws).length ≤ 208 := by
  unfold vws
  rw [List.length_flatMap]
  have e : ∀ t : Option (Str × Bool × Bool), ((ows ws).flatMap fun o => ([⟨t, o, false, false⟩, ⟨t, o, false, true⟩, ⟨t, o, true, false⟩, ⟨t, o, true, true⟩] : List Vw)).length = 4 * (1 + ws.length) := by
    intro t
    rw [List.length_flatMap]
    have : (ows ws).length = 1 + ws.length := by unfold ows; rw [List.length_cons, List.length_map]; omega
    rw [← this]
    generalize ows ws = os
    induction os with
    | nil => rfl
    | cons o os ih =>
      rw [List.map_cons, List.sum_cons, ih]
      simp only [List.length_cons, List.length_nil]
      omega
  rw [show (List.map (fun t : Option (Str × Bool × Bool) => ((ows ws).flatMap fun o => ([⟨t, o, false, false⟩, ⟨t, o, false, true⟩, ⟨t, o, true, false⟩, ⟨t, o, true, true⟩] : List Vw)).length) (ths ws)) = List.map (fun _ => 4 * (1 + ws.length)) (ths ws) from List.map_congr_left fun t _ => e t]
  rw [List.map_const', List.sum_replicate_nat, ths_len]
  have h1 : 1 + 4 * ws.length ≤ 13 := by omega
  have h2 : 4 * (1 + ws.length) ≤ 16 := by omega
  exact Nat.mul_le_mul h1 h2
theorem vwD_fine {v : Vw} (h : VwOk v) : Fine (10 ^ 70) 700 2 (vwD v) := by
  obtain ⟨th, ow, ot, st⟩ := v
  obtain ⟨h1, h2⟩ := h
  have f1 : Fine (10 ^ 70) 20 1 (thD th) := by
    cases th with
    | none => exact fine_unit
    | some p =>
      obtain ⟨w, g, k⟩ := p
      exact (Fine.tup (FineL.cons ((h1 w g k rfl).fine (w := 8) (by decide)) (FineL.cons (fine_bl (w := 0) g) (FineL.cons (fine_bl (w := 0) k) (FineL.nil (w := 0) (m := 0)))))).mono (by decide) (by decide)
  have f2 : Fine (10 ^ 70) 20 1 (owD ow) := by
    cases ow with
    | none => exact fine_unit
    | some w => exact (Fine.tup (FineL.cons (fine_of (w := 1) (by decide +kernel)) (FineL.cons ((h2 w rfl).fine (w := 8) (by decide)) (FineL.nil (w := 0) (m := 0))))).mono (by decide) (by decide)
  have f4 : Fine (10 ^ 70) 10 1 (stD st) := by cases st <;> exact fine_of (by decide +kernel)
  exact (Fine.tup (FineL.cons f1 (FineL.cons f2 (FineL.cons (fine_bl (w := 0) ot) (FineL.cons f4 (FineL.nil (w := 0))))))).mono (by decide) (by decide)
theorem prtD_fine {o : Option Vw} (h : ∀ v, o = some v → VwOk v) : Fine (10 ^ 70) 700 2 (prtD o) := by
  cases o with
  | none => exact fine_of (by decide +kernel)
  | some v => exact vwD_fine (h v rfl)
end KP

namespace Lk45
open PySem PySem.Spec PyProof.Rows L2 TL KP
def S_law : DSp := fun args Q => ∃ ns : List Int, args = [.fr (.scr ns)] ∧ ns.length ≤ 63 ∧ Q (.dat (.bl true)) [.un]
noncomputable def r_law (c : Ca) : DTS := (dSeq (dSet 1 1 ((dCall 1 S__law_begun (dCons ((dFrz (dVar 0))) dNil))))
      (dSeq (dFor (iRange1 (dCons ((dBin gAdd (dC (.int 4)) ((dCB gMin2 (dCons ((dCB gLen (dCons ((dVar 0)) dNil))) (dCons (dC (.int 8)) dNil)))))) dNil)) (hName 2) (dSeq (dSet 1 3 (dFrz (dCall 2 S__law_words (dCons ((dVar 1)) (dCons (dC (.int 4)) dNil)))))
      (dSeq (dSet 1 4 ((dSlice ((dVar 3)) dNoP (dPart ((dBin gAdd (dC (.int 1)) ((dCall 2 S__law_take (dCons ((dVar 1)) (dCons (dC (.int 3)) dNil))))))))))
      (dSeq (dSet 1 5 (dFrz (dCall 3 S__law_any_keeper (dCons ((dVar 1)) (dCons (dC (.str "k")) (dCons ((dSlice ((dVar 3)) dNoP (dPart (dC (.int 3))))) dNil))))))
      (dSeq (dSet 1 6 ((dIfE ((dTst (dBin gGt ((dCall 2 S__law_take (dCons ((dVar 1)) (dCons (dC (.int 4)) dNil)))) (dC (.int 0))))) ((dFrz (dVar 5))) ((dCall 3 S__law_any_keeper (dCons ((dVar 1)) (dCons (dC (.str "k")) (dCons ((dSlice ((dVar 3)) dNoP (dPart (dC (.int 3))))) dNil))))))))
      (dSeq (dFor (iRange1 (dCons ((dCall 2 S__law_take (dCons ((dVar 1)) (dCons (dC (.int 4)) dNil)))) dNil)) (hName 7) (dSet 1 6 (dFrz (dCall 3 S__law_near (dCons ((dVar 1)) (dCons ((dFrz (dVar 6))) (dCons ((dSlice ((dVar 3)) dNoP (dPart (dC (.int 3))))) dNil)))))))
      (dSeq (dSet 1 8 ((dLst (dCons ((dMake 1 c.Keeper 4 (S_Keeper___init__ c) (dCons ((dBin gIx ((dVar 5)) (dC (.int 0)))) (dCons ((dBin gIx ((dVar 5)) (dC (.int 1)))) (dCons ((dBin gIx ((dVar 5)) (dC (.int 2)))) dNil))))) (dCons ((dMake 1 c.Keeper 4 (S_Keeper___init__ c) (dCons ((dBin gIx ((dVar 6)) (dC (.int 0)))) (dCons ((dBin gIx ((dVar 6)) (dC (.int 1)))) (dCons ((dBin gIx ((dVar 6)) (dC (.int 2)))) dNil))))) dNil)))))
      (dSeq (dSet 1 9 (dLc (iSeq ((dCall 1 S__law_all_views (dCons ((dFrz (dVar 4))) dNil)))) (hName 10) ((dTst (dBin (gEq true) ((dCall 2 S__law_choice (dCons ((dFrz (dVar 5))) (dCons ((dFrz (dVar 10))) dNil)))) ((dCall 2 S__law_choice (dCons ((dFrz (dVar 6))) (dCons ((dFrz (dVar 10))) dNil))))))) ((dFrz (dVar 10))) [10]))
      (dSeq (dSet 1 11 ((dIfE ((dTst (dBin (gEq true) ((dVar 9)) ((dLst dNil))))) ((dBin gIx ((dVar 9)) (dC (.int 0)))) (dC .non))))
      (dSeq (dSet 1 12 ((dLst (dCons ((dCall 3 (S_parted c) (dCons ((dBin gIx ((dVar 8)) (dC (.int 0)))) (dCons ((dBin gIx ((dVar 8)) (dC (.int 1)))) (dCons ((dFrz (dVar 4))) dNil))))) (dCons ((dCall 3 (S_parted c) (dCons ((dBin gIx ((dVar 8)) (dC (.int 1)))) (dCons ((dBin gIx ((dVar 8)) (dC (.int 0)))) (dCons ((dUn gRev ((dVar 4)))) dNil))))) dNil)))))
      (dSeq (dDrop ((dMethF 12 mAppend (dCons ((dCallKw 3 (S_parted c) [2, 1, 0] 3 (dCons ((dCB gTuple (dCons ((dVar 4)) dNil))) (dCons ((dBin gIx ((dVar 8)) (dC (.int 0)))) (dCons ((dBin gIx ((dVar 8)) (dC (.int 1)))) dNil))))) dNil))))
      (dIf ((dOrT ((dTst (dBin (gEq true) ((dCB gRepr (dCons ((dVar 12)) dNil))) ((dCB gRepr (dCons ((dBin gMul ((dLst (dCons ((dFrz (dVar 11))) dNil))) (dC (.int 3)))) dNil)))))) ((dTst (dBin (gIsN true) ((dCall 3 (S_parted c) (dCons ((dBin gIx ((dVar 8)) (dC (.int 0)))) (dCons ((dBin gIx ((dVar 8)) (dC (.int 0)))) (dCons ((dFrz (dVar 4))) dNil))))) (dC .non)))))) (dRet (dC (.bl false))) dNext))))))))))))
      (dRet (dC (.bl true)))))
noncomputable def lw10 (c : Ca) : DTS := (dIf ((dOrT ((dTst (dBin (gEq true) ((dCB gRepr (dCons ((dVar 12)) dNil))) ((dCB gRepr (dCons ((dBin gMul ((dLst (dCons ((dFrz (dVar 11))) dNil))) (dC (.int 3)))) dNil)))))) ((dTst (dBin (gIsN true) ((dCall 3 (S_parted c) (dCons ((dBin gIx ((dVar 8)) (dC (.int 0)))) (dCons ((dBin gIx ((dVar 8)) (dC (.int 0)))) (dCons ((dFrz (dVar 4))) dNil))))) (dC .non)))))) (dRet (dC (.bl false))) dNext)
noncomputable def lw9 (c : Ca) : DTS := dSeq (dDrop ((dMethF 12 mAppend (dCons ((dCallKw 3 (S_parted c) [2, 1, 0] 3 (dCons ((dCB gTuple (dCons ((dVar 4)) dNil))) (dCons ((dBin gIx ((dVar 8)) (dC (.int 0)))) (dCons ((dBin gIx ((dVar 8)) (dC (.int 1)))) dNil))))) dNil)))) (lw10 c)
noncomputable def lw8 (c : Ca) : DTS := dSeq (dSet 1 12 ((dLst (dCons ((dCall 3 (S_parted c) (dCons ((dBin gIx ((dVar 8)) (dC (.int 0)))) (dCons ((dBin gIx ((dVar 8)) (dC (.int 1)))) (dCons ((dFrz (dVar 4))) dNil))))) (dCons ((dCall 3 (S_parted c) (dCons ((dBin gIx ((dVar 8)) (dC (.int 1)))) (dCons ((dBin gIx ((dVar 8)) (dC (.int 0)))) (dCons ((dUn gRev ((dVar 4)))) dNil))))) dNil))))) (lw9 c)
noncomputable def lw7 (c : Ca) : DTS := dSeq (dSet 1 11 ((dIfE ((dTst (dBin (gEq true) ((dVar 9)) ((dLst dNil))))) ((dBin gIx ((dVar 9)) (dC (.int 0)))) (dC .non)))) (lw8 c)
noncomputable def lw6 (c : Ca) : DTS := dSeq (dSet 1 9 (dLc (iSeq ((dCall 1 S__law_all_views (dCons ((dFrz (dVar 4))) dNil)))) (hName 10) ((dTst (dBin (gEq true) ((dCall 2 S__law_choice (dCons ((dFrz (dVar 5))) (dCons ((dFrz (dVar 10))) dNil)))) ((dCall 2 S__law_choice (dCons ((dFrz (dVar 6))) (dCons ((dFrz (dVar 10))) dNil))))))) ((dFrz (dVar 10))) [10])) (lw7 c)
noncomputable def lw5 (c : Ca) : DTS := dSeq (dSet 1 8 ((dLst (dCons ((dMake 1 c.Keeper 4 (S_Keeper___init__ c) (dCons ((dBin gIx ((dVar 5)) (dC (.int 0)))) (dCons ((dBin gIx ((dVar 5)) (dC (.int 1)))) (dCons ((dBin gIx ((dVar 5)) (dC (.int 2)))) dNil))))) (dCons ((dMake 1 c.Keeper 4 (S_Keeper___init__ c) (dCons ((dBin gIx ((dVar 6)) (dC (.int 0)))) (dCons ((dBin gIx ((dVar 6)) (dC (.int 1)))) (dCons ((dBin gIx ((dVar 6)) (dC (.int 2)))) dNil))))) dNil))))) (lw6 c)
noncomputable def lw4 (c : Ca) : DTS := dSeq (dFor (iRange1 (dCons ((dCall 2 S__law_take (dCons ((dVar 1)) (dCons (dC (.int 4)) dNil)))) dNil)) (hName 7) (dSet 1 6 (dFrz (dCall 3 S__law_near (dCons ((dVar 1)) (dCons ((dFrz (dVar 6))) (dCons ((dSlice ((dVar 3)) dNoP (dPart (dC (.int 3))))) dNil))))))) (lw5 c)
noncomputable def lw3 (c : Ca) : DTS := dSeq (dSet 1 6 ((dIfE ((dTst (dBin gGt ((dCall 2 S__law_take (dCons ((dVar 1)) (dCons (dC (.int 4)) dNil)))) (dC (.int 0))))) ((dFrz (dVar 5))) ((dCall 3 S__law_any_keeper (dCons ((dVar 1)) (dCons (dC (.str "k")) (dCons ((dSlice ((dVar 3)) dNoP (dPart (dC (.int 3))))) dNil)))))))) (lw4 c)
noncomputable def lw2 (c : Ca) : DTS := dSeq (dSet 1 5 (dFrz (dCall 3 S__law_any_keeper (dCons ((dVar 1)) (dCons (dC (.str "k")) (dCons ((dSlice ((dVar 3)) dNoP (dPart (dC (.int 3))))) dNil)))))) (lw3 c)
noncomputable def lw1 (c : Ca) : DTS := dSeq (dSet 1 4 ((dSlice ((dVar 3)) dNoP (dPart ((dBin gAdd (dC (.int 1)) ((dCall 2 S__law_take (dCons ((dVar 1)) (dCons (dC (.int 3)) dNil)))))))))) (lw2 c)
noncomputable def lw0 (c : Ca) : DTS := dSeq (dSet 1 3 (dFrz (dCall 2 S__law_words (dCons ((dVar 1)) (dCons (dC (.int 4)) dNil))))) (lw1 c)

section
variable {c : Ca} {E : DEnds} {s0 s2 s3 s4 s5 s6 s7 s8 s9 s10 s11 s12 : Sl} {b : Nat} {t u : Tk} {ws sm : List Str}
structure SmOk (sm : List Str) : Prop where
  w : ∀ z ∈ sm, Wd z
  n : sm.Nodup
  l1 : 1 ≤ sm.length
  l3 : sm.length ≤ 3
theorem gRepr_eq {d : D} {P : Rs → Prop} (hs : ShowOk d) (h : P (.dat (.str (shown d)))) : gRepr [d] P := ⟨d, rfl, hs, h⟩
theorem gMul_3 {x : D} {P : Rs → Prop} (h : P (.nw (.ls [x, x, x]))) : gMul (.lst [x]) (.int 3) P := ⟨by decide, by decide, sz (Nat.le_of_ble_eq_true rfl), h⟩
theorem show3 {o : Option Vw} (h : ∀ v, o = some v → VwOk v) : ShowOk (.lst [prtD o, prtD o, prtD o]) :=
  (Fine.lst (FineL.cons (prtD_fine h) (FineL.cons (prtD_fine h) (FineL.cons (prtD_fine h) (FineL.nil (w := 0)))))).show_ (by decide) (by decide) (by decide)
theorem lw10_ok {o : Option Vw} (hsm : SmOk sm) (ht : TkOk t) (hu : TkOk u) (ho : ∀ v, o = some v → VwOk v) (h : ∀ e4 e8 e11 e12, E.nx [s0, .rs (.sg b), s2, s3, e4, s5, s6, s7, e8, s9, s10, e11, e12]) :
    lw10 c E [s0, .rs (.sg b), s2, s3, .fr (.lst (sm.map .str)), s5, s6, s7, .ls [kpD c t, kpD c u], s9, s10, .fr (prtD o), .ls [prtD o, prtD o, prtD o]] := by
  have hs := show3 ho
  simp only [lw10]
  simp only [eq_self, decide_true, decide_false, Bool.xor_true, Bool.true_xor, Bool.xor_false, Option.some.injEq, Sl.ls.injEq, exists_eq', List.tail_cons, Bool.not_true, Bool.not_false, Nat.reduceAdd, dSeq, dIf, dTst, dBin, dVar, dTup, dNil, dCons, dLst, dC, dRet, dNext, dAsg, dFrz, hTup, hCons, hName, hNil, dSet, dPut, dIfE, dNotT, dAndT, dOrT, dAndV, dOrV, dCB, stl, val, vals, datL, WB, W1, W2, WL, ↓reduceIte, Bool.false_eq_true, backE, bFor, bLoop, bLast, dLc, dLcL, dForL, gEq_unit, gEq_unit0, gEq_str, gEq_int, gIx_t0, gIx_t1, gIx_t2, gLen_lst, gLen_tup, gAll_map_eq, gSorted2_lst_eq, gSorted2_tup_eq, gTuple_lst_eq, List.map_cons, List.map_nil, iSeq, dYes, wipeE, resto, frO, gIn_tup_eq, gIn_lst_eq, List.getElem?_cons_zero, List.getElem?_cons_succ, List.set_cons_zero, List.set_cons_succ, List.cons_append, List.nil_append, List.replicate, Nat.reduceSub, List.length_cons, List.length_nil, true_and, and_true, Bool.false_xor, dEnd, fin1, dFldSet, dFld, dMth, dSlice, dNoP, dPart, slotsOf, slotOf]
  refine gRepr_eq hs ?_
  simp only [eq_self, decide_true, decide_false, Bool.xor_true, Bool.true_xor, Bool.xor_false, Option.some.injEq, Sl.ls.injEq, exists_eq', List.tail_cons, Bool.not_true, Bool.not_false, Nat.reduceAdd, dSeq, dIf, dTst, dBin, dVar, dTup, dNil, dCons, dLst, dC, dRet, dNext, dAsg, dFrz, hTup, hCons, hName, hNil, dSet, dPut, dIfE, dNotT, dAndT, dOrT, dAndV, dOrV, dCB, stl, val, vals, datL, WB, W1, W2, WL, ↓reduceIte, Bool.false_eq_true, backE, bFor, bLoop, bLast, dLc, dLcL, dForL, gEq_unit, gEq_unit0, gEq_str, gEq_int, gIx_t0, gIx_t1, gIx_t2, gLen_lst, gLen_tup, gAll_map_eq, gSorted2_lst_eq, gSorted2_tup_eq, gTuple_lst_eq, List.map_cons, List.map_nil, iSeq, dYes, wipeE, resto, frO, gIn_tup_eq, gIn_lst_eq, List.getElem?_cons_zero, List.getElem?_cons_succ, List.set_cons_zero, List.set_cons_succ, List.cons_append, List.nil_append, List.replicate, Nat.reduceSub, List.length_cons, List.length_nil, true_and, and_true, Bool.false_xor, dEnd, fin1, dFldSet, dFld, dMth, dSlice, dNoP, dPart, slotsOf, slotOf]
  refine ⟨sz (Nat.le_of_ble_eq_true rfl), gMul_3 ?_⟩
  simp only [eq_self, decide_true, decide_false, Bool.xor_true, Bool.true_xor, Bool.xor_false, Option.some.injEq, Sl.ls.injEq, exists_eq', List.tail_cons, Bool.not_true, Bool.not_false, Nat.reduceAdd, dSeq, dIf, dTst, dBin, dVar, dTup, dNil, dCons, dLst, dC, dRet, dNext, dAsg, dFrz, hTup, hCons, hName, hNil, dSet, dPut, dIfE, dNotT, dAndT, dOrT, dAndV, dOrV, dCB, stl, val, vals, datL, WB, W1, W2, WL, ↓reduceIte, Bool.false_eq_true, backE, bFor, bLoop, bLast, dLc, dLcL, dForL, gEq_unit, gEq_unit0, gEq_str, gEq_int, gIx_t0, gIx_t1, gIx_t2, gLen_lst, gLen_tup, gAll_map_eq, gSorted2_lst_eq, gSorted2_tup_eq, gTuple_lst_eq, List.map_cons, List.map_nil, iSeq, dYes, wipeE, resto, frO, gIn_tup_eq, gIn_lst_eq, List.getElem?_cons_zero, List.getElem?_cons_succ, List.set_cons_zero, List.set_cons_succ, List.cons_append, List.nil_append, List.replicate, Nat.reduceSub, List.length_cons, List.length_nil, true_and, and_true, Bool.false_xor, dEnd, fin1, dFldSet, dFld, dMth, dSlice, dNoP, dPart, slotsOf, slotOf]
  refine gRepr_eq hs ?_
  simp only [eq_self, decide_true, decide_false, Bool.xor_true, Bool.true_xor, Bool.xor_false, Option.some.injEq, Sl.ls.injEq, exists_eq', List.tail_cons, Bool.not_true, Bool.not_false, Nat.reduceAdd, dSeq, dIf, dTst, dBin, dVar, dTup, dNil, dCons, dLst, dC, dRet, dNext, dAsg, dFrz, hTup, hCons, hName, hNil, dSet, dPut, dIfE, dNotT, dAndT, dOrT, dAndV, dOrV, dCB, stl, val, vals, datL, WB, W1, W2, WL, ↓reduceIte, Bool.false_eq_true, backE, bFor, bLoop, bLast, dLc, dLcL, dForL, gEq_unit, gEq_unit0, gEq_str, gEq_int, gIx_t0, gIx_t1, gIx_t2, gLen_lst, gLen_tup, gAll_map_eq, gSorted2_lst_eq, gSorted2_tup_eq, gTuple_lst_eq, List.map_cons, List.map_nil, iSeq, dYes, wipeE, resto, frO, gIn_tup_eq, gIn_lst_eq, List.getElem?_cons_zero, List.getElem?_cons_succ, List.set_cons_zero, List.set_cons_succ, List.cons_append, List.nil_append, List.replicate, Nat.reduceSub, List.length_cons, List.length_nil, true_and, and_true, Bool.false_xor, dEnd, fin1, dFldSet, dFld, dMth, dSlice, dNoP, dPart, slotsOf, slotOf, dCall]
  refine ⟨rfl, t, t, sm, _, rfl, .inl rfl, ht, ht, hsm.w, hsm.n, hsm.l1, hsm.l3, ?_⟩
  rw [unl_self]
  simp only [eq_self, decide_true, decide_false, Bool.xor_true, Bool.true_xor, Bool.xor_false, Option.some.injEq, Sl.ls.injEq, exists_eq', List.tail_cons, Bool.not_true, Bool.not_false, Nat.reduceAdd, dSeq, dIf, dTst, dBin, dVar, dTup, dNil, dCons, dLst, dC, dRet, dNext, dAsg, dFrz, hTup, hCons, hName, hNil, dSet, dPut, dIfE, dNotT, dAndT, dOrT, dAndV, dOrV, dCB, stl, val, vals, datL, WB, W1, W2, WL, ↓reduceIte, Bool.false_eq_true, backE, bFor, bLoop, bLast, dLc, dLcL, dForL, gEq_unit, gEq_unit0, gEq_str, gEq_int, gIx_t0, gIx_t1, gIx_t2, gLen_lst, gLen_tup, gAll_map_eq, gSorted2_lst_eq, gSorted2_tup_eq, gTuple_lst_eq, List.map_cons, List.map_nil, iSeq, dYes, wipeE, resto, frO, gIn_tup_eq, gIn_lst_eq, List.getElem?_cons_zero, List.getElem?_cons_succ, List.set_cons_zero, List.set_cons_succ, List.cons_append, List.nil_append, List.replicate, Nat.reduceSub, List.length_cons, List.length_nil, true_and, and_true, Bool.false_xor, dEnd, fin1, dFldSet, dFld, dMth, dSlice, dNoP, dPart, slotsOf, slotOf, gIsN, prtD, TL.isNon]
  exact h _ _ _ _
theorem lw9_ok {o : Option Vw} (hsm : SmOk sm) (ht : TkOk t) (hu : TkOk u) (ho : ∀ v, o = some v → VwOk v) (he : (vws (srt sm)).find? (unl t u) = o) (h : ∀ e4 e8 e11 e12, E.nx [s0, .rs (.sg b), s2, s3, e4, s5, s6, s7, e8, s9, s10, e11, e12]) :
    lw9 c E [s0, .rs (.sg b), s2, s3, .fr (.lst (sm.map .str)), s5, s6, s7, .ls [kpD c t, kpD c u], s9, s10, .fr (prtD o), .ls [prtD o, prtD o]] := by
  have h10 := lw10_ok (c := c) (E := E) (s0 := s0) (s2 := s2) (s3 := s3) (s5 := s5) (s6 := s6) (s7 := s7) (s9 := s9) (s10 := s10) (b := b) hsm ht hu ho h
  simp only [lw9]
  simp only [eq_self, decide_true, decide_false, Bool.xor_true, Bool.true_xor, Bool.xor_false, Option.some.injEq, Sl.ls.injEq, exists_eq', List.tail_cons, Bool.not_true, Bool.not_false, Nat.reduceAdd, dSeq, dIf, dTst, dBin, dVar, dTup, dNil, dCons, dLst, dC, dRet, dNext, dAsg, dFrz, hTup, hCons, hName, hNil, dSet, dPut, dIfE, dNotT, dAndT, dOrT, dAndV, dOrV, dCB, stl, val, vals, datL, WB, W1, W2, WL, ↓reduceIte, Bool.false_eq_true, backE, bFor, bLoop, bLast, dLc, dLcL, dForL, gEq_unit, gEq_unit0, gEq_str, gEq_int, gIx_t0, gIx_t1, gIx_t2, gLen_lst, gLen_tup, gAll_map_eq, gSorted2_lst_eq, gSorted2_tup_eq, gTuple_lst_eq, List.map_cons, List.map_nil, iSeq, dYes, wipeE, resto, frO, gIn_tup_eq, gIn_lst_eq, List.getElem?_cons_zero, List.getElem?_cons_succ, List.set_cons_zero, List.set_cons_succ, List.cons_append, List.nil_append, List.replicate, Nat.reduceSub, List.length_cons, List.length_nil, true_and, and_true, Bool.false_xor, dEnd, fin1, dFldSet, dFld, dMth, dSlice, dNoP, dPart, slotsOf, slotOf, dDrop, dMethF, mAppend, dCallKw, dCall, gIx_l0, gIx_l1, sel3]
  refine ⟨rfl, u, t, sm, _, rfl, .inr rfl, hu, ht, hsm.w, hsm.n, hsm.l1, hsm.l3, ?_⟩
  simp only [eq_self, decide_true, decide_false, Bool.xor_true, Bool.true_xor, Bool.xor_false, Option.some.injEq, Sl.ls.injEq, exists_eq', List.tail_cons, Bool.not_true, Bool.not_false, Nat.reduceAdd, dSeq, dIf, dTst, dBin, dVar, dTup, dNil, dCons, dLst, dC, dRet, dNext, dAsg, dFrz, hTup, hCons, hName, hNil, dSet, dPut, dIfE, dNotT, dAndT, dOrT, dAndV, dOrV, dCB, stl, val, vals, datL, WB, W1, W2, WL, ↓reduceIte, Bool.false_eq_true, backE, bFor, bLoop, bLast, dLc, dLcL, dForL, gEq_unit, gEq_unit0, gEq_str, gEq_int, gIx_t0, gIx_t1, gIx_t2, gLen_lst, gLen_tup, gAll_map_eq, gSorted2_lst_eq, gSorted2_tup_eq, gTuple_lst_eq, List.map_cons, List.map_nil, iSeq, dYes, wipeE, resto, frO, gIn_tup_eq, gIn_lst_eq, List.getElem?_cons_zero, List.getElem?_cons_succ, List.set_cons_zero, List.set_cons_succ, List.cons_append, List.nil_append, List.replicate, Nat.reduceSub, List.length_cons, List.length_nil, true_and, and_true, Bool.false_xor, dEnd, fin1, dFldSet, dFld, dMth, dSlice, dNoP, dPart, slotsOf, slotOf]
  rw [unl_symm u t, he]
  exact ⟨sz (Nat.le_of_ble_eq_true rfl), h10⟩
theorem lw8_ok {o : Option Vw} (hsm : SmOk sm) (ht : TkOk t) (hu : TkOk u) (ho : ∀ v, o = some v → VwOk v) (he : (vws (srt sm)).find? (unl t u) = o) (h : ∀ e4 e8 e11 e12, E.nx [s0, .rs (.sg b), s2, s3, e4, s5, s6, s7, e8, s9, s10, e11, e12]) :
    lw8 c E [s0, .rs (.sg b), s2, s3, .fr (.lst (sm.map .str)), s5, s6, s7, .ls [kpD c t, kpD c u], s9, s10, .fr (prtD o), s12] := by
  have h9 := lw9_ok (c := c) (E := E) (s0 := s0) (s2 := s2) (s3 := s3) (s5 := s5) (s6 := s6) (s7 := s7) (s9 := s9) (s10 := s10) (b := b) hsm ht hu ho he h
  simp only [lw8]
  simp only [eq_self, decide_true, decide_false, Bool.xor_true, Bool.true_xor, Bool.xor_false, Option.some.injEq, Sl.ls.injEq, exists_eq', List.tail_cons, Bool.not_true, Bool.not_false, Nat.reduceAdd, dSeq, dIf, dTst, dBin, dVar, dTup, dNil, dCons, dLst, dC, dRet, dNext, dAsg, dFrz, hTup, hCons, hName, hNil, dSet, dPut, dIfE, dNotT, dAndT, dOrT, dAndV, dOrV, dCB, stl, val, vals, datL, WB, W1, W2, WL, ↓reduceIte, Bool.false_eq_true, backE, bFor, bLoop, bLast, dLc, dLcL, dForL, gEq_unit, gEq_unit0, gEq_str, gEq_int, gIx_t0, gIx_t1, gIx_t2, gLen_lst, gLen_tup, gAll_map_eq, gSorted2_lst_eq, gSorted2_tup_eq, gTuple_lst_eq, List.map_cons, List.map_nil, iSeq, dYes, wipeE, resto, frO, gIn_tup_eq, gIn_lst_eq, List.getElem?_cons_zero, List.getElem?_cons_succ, List.set_cons_zero, List.set_cons_succ, List.cons_append, List.nil_append, List.replicate, Nat.reduceSub, List.length_cons, List.length_nil, true_and, and_true, Bool.false_xor, dEnd, fin1, dFldSet, dFld, dMth, dSlice, dNoP, dPart, slotsOf, slotOf, dCall]
  refine ⟨rfl, t, u, sm, _, rfl, .inl rfl, ht, hu, hsm.w, hsm.n, hsm.l1, hsm.l3, ?_⟩
  simp only [eq_self, decide_true, decide_false, Bool.xor_true, Bool.true_xor, Bool.xor_false, Option.some.injEq, Sl.ls.injEq, exists_eq', List.tail_cons, Bool.not_true, Bool.not_false, Nat.reduceAdd, dSeq, dIf, dTst, dBin, dVar, dTup, dNil, dCons, dLst, dC, dRet, dNext, dAsg, dFrz, hTup, hCons, hName, hNil, dSet, dPut, dIfE, dNotT, dAndT, dOrT, dAndV, dOrV, dCB, stl, val, vals, datL, WB, W1, W2, WL, ↓reduceIte, Bool.false_eq_true, backE, bFor, bLoop, bLast, dLc, dLcL, dForL, gEq_unit, gEq_unit0, gEq_str, gEq_int, gIx_t0, gIx_t1, gIx_t2, gLen_lst, gLen_tup, gAll_map_eq, gSorted2_lst_eq, gSorted2_tup_eq, gTuple_lst_eq, List.map_cons, List.map_nil, iSeq, dYes, wipeE, resto, frO, gIn_tup_eq, gIn_lst_eq, List.getElem?_cons_zero, List.getElem?_cons_succ, List.set_cons_zero, List.set_cons_succ, List.cons_append, List.nil_append, List.replicate, Nat.reduceSub, List.length_cons, List.length_nil, true_and, and_true, Bool.false_xor, dEnd, fin1, dFldSet, dFld, dMth, dSlice, dNoP, dPart, slotsOf, slotOf, dUn, W1, gIx_l0, gIx_l1, gRev_lst]
  have er : srt sm.reverse = srt sm := srt_congr (List.reverse_perm sm)
  refine ⟨rfl, u, t, sm.reverse, _, rfl, .inl (by rw [List.map_reverse]), hu, ht, fun z hz => hsm.w z (List.mem_reverse.mp hz), (List.reverse_perm sm).nodup_iff.mpr hsm.n, by rw [List.length_reverse]; exact hsm.l1, by rw [List.length_reverse]; exact hsm.l3, ?_⟩
  simp only [eq_self, decide_true, decide_false, Bool.xor_true, Bool.true_xor, Bool.xor_false, Option.some.injEq, Sl.ls.injEq, exists_eq', List.tail_cons, Bool.not_true, Bool.not_false, Nat.reduceAdd, dSeq, dIf, dTst, dBin, dVar, dTup, dNil, dCons, dLst, dC, dRet, dNext, dAsg, dFrz, hTup, hCons, hName, hNil, dSet, dPut, dIfE, dNotT, dAndT, dOrT, dAndV, dOrV, dCB, stl, val, vals, datL, WB, W1, W2, WL, ↓reduceIte, Bool.false_eq_true, backE, bFor, bLoop, bLast, dLc, dLcL, dForL, gEq_unit, gEq_unit0, gEq_str, gEq_int, gIx_t0, gIx_t1, gIx_t2, gLen_lst, gLen_tup, gAll_map_eq, gSorted2_lst_eq, gSorted2_tup_eq, gTuple_lst_eq, List.map_cons, List.map_nil, iSeq, dYes, wipeE, resto, frO, gIn_tup_eq, gIn_lst_eq, List.getElem?_cons_zero, List.getElem?_cons_succ, List.set_cons_zero, List.set_cons_succ, List.cons_append, List.nil_append, List.replicate, Nat.reduceSub, List.length_cons, List.length_nil, true_and, and_true, Bool.false_xor, dEnd, fin1, dFldSet, dFld, dMth, dSlice, dNoP, dPart, slotsOf, slotOf]
  rw [er, unl_symm u t, he]
  exact ⟨sz (Nat.le_of_ble_eq_true rfl), by decide, h9⟩
theorem unl_lc {ρ0 : TL.Env} {Q : Rs → TL.Env → Prop} (ht : TkOk t) (hu : TkOk u) : ∀ (vs acc : List Vw) (o : Sl), acc.length + vs.length ≤ 900 →
    Q (.nw (.ls ((acc ++ vs.filter (unl t u)).map vwD))) [s0, s2, s3, s4, s7, .fr (tkD t), .fr (tkD u), s8, s9, s11, frO ρ0[10]?, s12, s10] →
    dLcL (hName 10) ((dTst (dBin (gEq true) ((dCall 2 S__law_choice (dCons ((dFrz (dVar 5))) (dCons ((dFrz (dVar 10))) dNil)))) ((dCall 2 S__law_choice (dCons ((dFrz (dVar 6))) (dCons ((dFrz (dVar 10))) dNil))))))) ((dFrz (dVar 10))) [10] ρ0 (vs.map vwD) (acc.map vwD) [s0, s2, s3, s4, s7, .fr (tkD t), .fr (tkD u), s8, s9, s11, o, s12, s10] Q
  | [], acc, o, _, h => by
    rw [List.filter_nil, List.append_nil] at h
    exact h
  | v :: vs, acc, o, hl, h => by
    rw [List.length_cons] at hl
    simp only [eq_self, decide_true, decide_false, Bool.xor_true, Bool.true_xor, Bool.xor_false, Option.some.injEq, Sl.ls.injEq, exists_eq', List.tail_cons, Bool.not_true, Bool.not_false, Nat.reduceAdd, dSeq, dIf, dTst, dBin, dVar, dTup, dNil, dCons, dLst, dC, dRet, dNext, dAsg, dFrz, hTup, hCons, hName, hNil, dSet, dPut, dIfE, dNotT, dAndT, dOrT, dAndV, dOrV, dCB, stl, val, vals, datL, WB, W1, W2, WL, ↓reduceIte, Bool.false_eq_true, backE, bFor, bLoop, bLast, dLc, dLcL, dForL, gEq_unit, gEq_unit0, gEq_str, gEq_int, gIx_t0, gIx_t1, gIx_t2, gLen_lst, gLen_tup, gAll_map_eq, gSorted2_lst_eq, gSorted2_tup_eq, gTuple_lst_eq, List.map_cons, List.map_nil, iSeq, dYes, wipeE, resto, frO, gIn_tup_eq, gIn_lst_eq, List.getElem?_cons_zero, List.getElem?_cons_succ, List.set_cons_zero, List.set_cons_succ, List.cons_append, List.nil_append, List.replicate, Nat.reduceSub, List.length_cons, List.length_nil, true_and, and_true, Bool.false_xor, dEnd, fin1, dFldSet, dFld, dMth, dSlice, dNoP, dPart, slotsOf, slotOf, dCall]
    refine ⟨rfl, t, v, rfl, ht, ?_⟩
    simp only [eq_self, decide_true, decide_false, Bool.xor_true, Bool.true_xor, Bool.xor_false, Option.some.injEq, Sl.ls.injEq, exists_eq', List.tail_cons, Bool.not_true, Bool.not_false, Nat.reduceAdd, dSeq, dIf, dTst, dBin, dVar, dTup, dNil, dCons, dLst, dC, dRet, dNext, dAsg, dFrz, hTup, hCons, hName, hNil, dSet, dPut, dIfE, dNotT, dAndT, dOrT, dAndV, dOrV, dCB, stl, val, vals, datL, WB, W1, W2, WL, ↓reduceIte, Bool.false_eq_true, backE, bFor, bLoop, bLast, dLc, dLcL, dForL, gEq_unit, gEq_unit0, gEq_str, gEq_int, gIx_t0, gIx_t1, gIx_t2, gLen_lst, gLen_tup, gAll_map_eq, gSorted2_lst_eq, gSorted2_tup_eq, gTuple_lst_eq, List.map_cons, List.map_nil, iSeq, dYes, wipeE, resto, frO, gIn_tup_eq, gIn_lst_eq, List.getElem?_cons_zero, List.getElem?_cons_succ, List.set_cons_zero, List.set_cons_succ, List.cons_append, List.nil_append, List.replicate, Nat.reduceSub, List.length_cons, List.length_nil, true_and, and_true, Bool.false_xor, dEnd, fin1, dFldSet, dFld, dMth, dSlice, dNoP, dPart, slotsOf, slotOf]
    refine ⟨rfl, u, v, rfl, hu, ?_⟩
    simp only [eq_self, decide_true, decide_false, Bool.xor_true, Bool.true_xor, Bool.xor_false, Option.some.injEq, Sl.ls.injEq, exists_eq', List.tail_cons, Bool.not_true, Bool.not_false, Nat.reduceAdd, dSeq, dIf, dTst, dBin, dVar, dTup, dNil, dCons, dLst, dC, dRet, dNext, dAsg, dFrz, hTup, hCons, hName, hNil, dSet, dPut, dIfE, dNotT, dAndT, dOrT, dAndV, dOrV, dCB, stl, val, vals, datL, WB, W1, W2, WL, ↓reduceIte, Bool.false_eq_true, backE, bFor, bLoop, bLast, dLc, dLcL, dForL, gEq_unit, gEq_unit0, gEq_str, gEq_int, gIx_t0, gIx_t1, gIx_t2, gLen_lst, gLen_tup, gAll_map_eq, gSorted2_lst_eq, gSorted2_tup_eq, gTuple_lst_eq, List.map_cons, List.map_nil, iSeq, dYes, wipeE, resto, frO, gIn_tup_eq, gIn_lst_eq, List.getElem?_cons_zero, List.getElem?_cons_succ, List.set_cons_zero, List.set_cons_succ, List.cons_append, List.nil_append, List.replicate, Nat.reduceSub, List.length_cons, List.length_nil, true_and, and_true, Bool.false_xor, dEnd, fin1, dFldSet, dFld, dMth, dSlice, dNoP, dPart, slotsOf, slotOf]
    refine gNe_ch false (cho_ok ht _) (cho_ok hu _) ?_
    simp only [eq_self, decide_true, decide_false, Bool.xor_true, Bool.true_xor, Bool.xor_false, Option.some.injEq, Sl.ls.injEq, exists_eq', List.tail_cons, Bool.not_true, Bool.not_false, Nat.reduceAdd, dSeq, dIf, dTst, dBin, dVar, dTup, dNil, dCons, dLst, dC, dRet, dNext, dAsg, dFrz, hTup, hCons, hName, hNil, dSet, dPut, dIfE, dNotT, dAndT, dOrT, dAndV, dOrV, dCB, stl, val, vals, datL, WB, W1, W2, WL, ↓reduceIte, Bool.false_eq_true, backE, bFor, bLoop, bLast, dLc, dLcL, dForL, gEq_unit, gEq_unit0, gEq_str, gEq_int, gIx_t0, gIx_t1, gIx_t2, gLen_lst, gLen_tup, gAll_map_eq, gSorted2_lst_eq, gSorted2_tup_eq, gTuple_lst_eq, List.map_cons, List.map_nil, iSeq, dYes, wipeE, resto, frO, gIn_tup_eq, gIn_lst_eq, List.getElem?_cons_zero, List.getElem?_cons_succ, List.set_cons_zero, List.set_cons_succ, List.cons_append, List.nil_append, List.replicate, Nat.reduceSub, List.length_cons, List.length_nil, true_and, and_true, Bool.false_xor, dEnd, fin1, dFldSet, dFld, dMth, dSlice, dNoP, dPart, slotsOf, slotOf]
    have eu : unl t u v = !decide (cho (kn v t.w) t.r = cho (kn v u.w) u.r) := by unfold unl; rw [Bool.true_xor]
    rw [← eu]
    cases e : unl t u v with
    | true =>
      rw [List.filter_cons_of_pos e] at h
      have ih := unl_lc (ρ0 := ρ0) (Q := Q) ht hu vs (acc ++ [v]) (.fr (vwD v)) (by simp; omega) (by simpa using h)
      rw [List.map_append] at ih
      simp only [eq_self, decide_true, decide_false, Bool.xor_true, Bool.true_xor, Bool.xor_false, Option.some.injEq, Sl.ls.injEq, exists_eq', List.tail_cons, Bool.not_true, Bool.not_false, Nat.reduceAdd, dSeq, dIf, dTst, dBin, dVar, dTup, dNil, dCons, dLst, dC, dRet, dNext, dAsg, dFrz, hTup, hCons, hName, hNil, dSet, dPut, dIfE, dNotT, dAndT, dOrT, dAndV, dOrV, dCB, stl, val, vals, datL, WB, W1, W2, WL, ↓reduceIte, Bool.false_eq_true, backE, bFor, bLoop, bLast, dLc, dLcL, dForL, gEq_unit, gEq_unit0, gEq_str, gEq_int, gIx_t0, gIx_t1, gIx_t2, gLen_lst, gLen_tup, gAll_map_eq, gSorted2_lst_eq, gSorted2_tup_eq, gTuple_lst_eq, List.map_cons, List.map_nil, iSeq, dYes, wipeE, resto, frO, gIn_tup_eq, gIn_lst_eq, List.getElem?_cons_zero, List.getElem?_cons_succ, List.set_cons_zero, List.set_cons_succ, List.cons_append, List.nil_append, List.replicate, Nat.reduceSub, List.length_cons, List.length_nil, true_and, and_true, Bool.false_xor, dEnd, fin1, dFldSet, dFld, dMth, dSlice, dNoP, dPart, slotsOf, slotOf]
      exact ⟨by rw [List.length_map]; exact fin_big (by omega), ih⟩
    | false =>
      rw [List.filter_cons_of_neg (by rw [e]; simp)] at h
      simp only [eq_self, decide_true, decide_false, Bool.xor_true, Bool.true_xor, Bool.xor_false, Option.some.injEq, Sl.ls.injEq, exists_eq', List.tail_cons, Bool.not_true, Bool.not_false, Nat.reduceAdd, dSeq, dIf, dTst, dBin, dVar, dTup, dNil, dCons, dLst, dC, dRet, dNext, dAsg, dFrz, hTup, hCons, hName, hNil, dSet, dPut, dIfE, dNotT, dAndT, dOrT, dAndV, dOrV, dCB, stl, val, vals, datL, WB, W1, W2, WL, ↓reduceIte, Bool.false_eq_true, backE, bFor, bLoop, bLast, dLc, dLcL, dForL, gEq_unit, gEq_unit0, gEq_str, gEq_int, gIx_t0, gIx_t1, gIx_t2, gLen_lst, gLen_tup, gAll_map_eq, gSorted2_lst_eq, gSorted2_tup_eq, gTuple_lst_eq, List.map_cons, List.map_nil, iSeq, dYes, wipeE, resto, frO, gIn_tup_eq, gIn_lst_eq, List.getElem?_cons_zero, List.getElem?_cons_succ, List.set_cons_zero, List.set_cons_succ, List.cons_append, List.nil_append, List.replicate, Nat.reduceSub, List.length_cons, List.length_nil, true_and, and_true, Bool.false_xor, dEnd, fin1, dFldSet, dFld, dMth, dSlice, dNoP, dPart, slotsOf, slotOf]
      exact unl_lc (ρ0 := ρ0) (Q := Q) ht hu vs acc (.fr (vwD v)) (by omega) h
theorem lw7_ok (hsm : SmOk sm) (ht : TkOk t) (hu : TkOk u) (h : ∀ e4 e8 e9 e11 e12, E.nx [s0, .rs (.sg b), s2, s3, e4, s5, s6, s7, e8, e9, s10, e11, e12]) :
    lw7 c E [s0, .rs (.sg b), s2, s3, .fr (.lst (sm.map .str)), s5, s6, s7, .ls [kpD c t, kpD c u], .ls (((vws (srt sm)).filter (unl t u)).map vwD), s10, s11, s12] := by
  have hv : ∀ v ∈ vws (srt sm), VwOk v := vws_ok fun z hz => hsm.w z (srt_mem.mp hz)
  have ho : ∀ v, (vws (srt sm)).find? (unl t u) = some v → VwOk v := fun v e => hv v (List.mem_of_find?_eq_some e)
  have h8 := fun s9 => lw8_ok (c := c) (E := E) (s0 := s0) (s2 := s2) (s3 := s3) (s5 := s5) (s6 := s6) (s7 := s7) (s9 := s9) (s10 := s10) (s12 := s12) (b := b) hsm ht hu ho rfl fun e4 e8 e11 e12 => h e4 e8 s9 e11 e12
  rw [prtD_find] at h8
  simp only [lw7]
  generalize (vws (srt sm)).filter (unl t u) = fs at h8 ⊢
  simp only [eq_self, decide_true, decide_false, Bool.xor_true, Bool.true_xor, Bool.xor_false, Option.some.injEq, Sl.ls.injEq, exists_eq', List.tail_cons, Bool.not_true, Bool.not_false, Nat.reduceAdd, dSeq, dIf, dTst, dBin, dVar, dTup, dNil, dCons, dLst, dC, dRet, dNext, dAsg, dFrz, hTup, hCons, hName, hNil, dSet, dPut, dIfE, dNotT, dAndT, dOrT, dAndV, dOrV, dCB, stl, val, vals, datL, WB, W1, W2, WL, ↓reduceIte, Bool.false_eq_true, backE, bFor, bLoop, bLast, dLc, dLcL, dForL, gEq_unit, gEq_unit0, gEq_str, gEq_int, gIx_t0, gIx_t1, gIx_t2, gLen_lst, gLen_tup, gAll_map_eq, gSorted2_lst_eq, gSorted2_tup_eq, gTuple_lst_eq, List.map_cons, List.map_nil, iSeq, dYes, wipeE, resto, frO, gIn_tup_eq, gIn_lst_eq, List.getElem?_cons_zero, List.getElem?_cons_succ, List.set_cons_zero, List.set_cons_succ, List.cons_append, List.nil_append, List.replicate, Nat.reduceSub, List.length_cons, List.length_nil, true_and, and_true, Bool.false_xor, dEnd, fin1, dFldSet, dFld, dMth, dSlice, dNoP, dPart, slotsOf, slotOf, gEq_lst0]
  refine ⟨sz0, ?_⟩
  cases fs with
  | nil =>
    have h8 := h8 (.ls [])
    simp only [List.head?_nil, prtD] at h8
    simp only [eq_self, decide_true, decide_false, Bool.xor_true, Bool.true_xor, Bool.xor_false, Option.some.injEq, Sl.ls.injEq, exists_eq', List.tail_cons, Bool.not_true, Bool.not_false, Nat.reduceAdd, dSeq, dIf, dTst, dBin, dVar, dTup, dNil, dCons, dLst, dC, dRet, dNext, dAsg, dFrz, hTup, hCons, hName, hNil, dSet, dPut, dIfE, dNotT, dAndT, dOrT, dAndV, dOrV, dCB, stl, val, vals, datL, WB, W1, W2, WL, ↓reduceIte, Bool.false_eq_true, backE, bFor, bLoop, bLast, dLc, dLcL, dForL, gEq_unit, gEq_unit0, gEq_str, gEq_int, gIx_t0, gIx_t1, gIx_t2, gLen_lst, gLen_tup, gAll_map_eq, gSorted2_lst_eq, gSorted2_tup_eq, gTuple_lst_eq, List.map_cons, List.map_nil, iSeq, dYes, wipeE, resto, frO, gIn_tup_eq, gIn_lst_eq, List.getElem?_cons_zero, List.getElem?_cons_succ, List.set_cons_zero, List.set_cons_succ, List.cons_append, List.nil_append, List.replicate, Nat.reduceSub, List.length_cons, List.length_nil, true_and, and_true, Bool.false_xor, dEnd, fin1, dFldSet, dFld, dMth, dSlice, dNoP, dPart, slotsOf, slotOf, List.isEmpty_nil]
    exact h8
  | cons v fs =>
    have h8 := h8 (.ls ((v :: fs).map vwD))
    simp only [List.head?_cons, prtD, List.map_cons] at h8
    simp only [eq_self, decide_true, decide_false, Bool.xor_true, Bool.true_xor, Bool.xor_false, Option.some.injEq, Sl.ls.injEq, exists_eq', List.tail_cons, Bool.not_true, Bool.not_false, Nat.reduceAdd, dSeq, dIf, dTst, dBin, dVar, dTup, dNil, dCons, dLst, dC, dRet, dNext, dAsg, dFrz, hTup, hCons, hName, hNil, dSet, dPut, dIfE, dNotT, dAndT, dOrT, dAndV, dOrV, dCB, stl, val, vals, datL, WB, W1, W2, WL, ↓reduceIte, Bool.false_eq_true, backE, bFor, bLoop, bLast, dLc, dLcL, dForL, gEq_unit, gEq_unit0, gEq_str, gEq_int, gIx_t0, gIx_t1, gIx_t2, gLen_lst, gLen_tup, gAll_map_eq, gSorted2_lst_eq, gSorted2_tup_eq, gTuple_lst_eq, List.map_cons, List.map_nil, iSeq, dYes, wipeE, resto, frO, gIn_tup_eq, gIn_lst_eq, List.getElem?_cons_zero, List.getElem?_cons_succ, List.set_cons_zero, List.set_cons_succ, List.cons_append, List.nil_append, List.replicate, Nat.reduceSub, List.length_cons, List.length_nil, true_and, and_true, Bool.false_xor, dEnd, fin1, dFldSet, dFld, dMth, dSlice, dNoP, dPart, slotsOf, slotOf, List.isEmpty_cons, gIx_l0]
    exact h8
theorem lw6_ok (hsm : SmOk sm) (ht : TkOk t) (hu : TkOk u) (h : ∀ e4 e5 e6 e8 e9 e10 e11 e12, E.nx [s0, .rs (.sg b), s2, s3, e4, e5, e6, s7, e8, e9, e10, e11, e12]) :
    lw6 c E [s0, .rs (.sg b), s2, s3, .ls (sm.map .str), .fr (tkD t), .fr (tkD u), s7, .ls [kpD c t, kpD c u], s9, s10, s11, s12] := by
  simp only [lw6]
  simp only [eq_self, decide_true, decide_false, Bool.xor_true, Bool.true_xor, Bool.xor_false, Option.some.injEq, Sl.ls.injEq, exists_eq', List.tail_cons, Bool.not_true, Bool.not_false, Nat.reduceAdd, dSeq, dIf, dTst, dBin, dVar, dTup, dNil, dCons, dLst, dC, dRet, dNext, dAsg, dFrz, hTup, hCons, hName, hNil, dSet, dPut, dIfE, dNotT, dAndT, dOrT, dAndV, dOrV, dCB, stl, val, vals, datL, WB, W1, W2, WL, ↓reduceIte, Bool.false_eq_true, backE, bFor, bLoop, bLast, dLc, dLcL, dForL, gEq_unit, gEq_unit0, gEq_str, gEq_int, gIx_t0, gIx_t1, gIx_t2, gLen_lst, gLen_tup, gAll_map_eq, gSorted2_lst_eq, gSorted2_tup_eq, gTuple_lst_eq, List.map_cons, List.map_nil, iSeq, dYes, wipeE, resto, frO, gIn_tup_eq, gIn_lst_eq, List.getElem?_cons_zero, List.getElem?_cons_succ, List.set_cons_zero, List.set_cons_succ, List.cons_append, List.nil_append, List.replicate, Nat.reduceSub, List.length_cons, List.length_nil, true_and, and_true, Bool.false_xor, dEnd, fin1, dFldSet, dFld, dMth, dSlice, dNoP, dPart, slotsOf, slotOf, dCall]
  refine ⟨rfl, sm, rfl, hsm.l3, ?_⟩
  simp only [eq_self, decide_true, decide_false, Bool.xor_true, Bool.true_xor, Bool.xor_false, Option.some.injEq, Sl.ls.injEq, exists_eq', List.tail_cons, Bool.not_true, Bool.not_false, Nat.reduceAdd, dSeq, dIf, dTst, dBin, dVar, dTup, dNil, dCons, dLst, dC, dRet, dNext, dAsg, dFrz, hTup, hCons, hName, hNil, dSet, dPut, dIfE, dNotT, dAndT, dOrT, dAndV, dOrV, dCB, stl, val, vals, datL, WB, W1, W2, WL, ↓reduceIte, Bool.false_eq_true, backE, bFor, bLoop, bLast, dLc, dLcL, dForL, gEq_unit, gEq_unit0, gEq_str, gEq_int, gIx_t0, gIx_t1, gIx_t2, gLen_lst, gLen_tup, gAll_map_eq, gSorted2_lst_eq, gSorted2_tup_eq, gTuple_lst_eq, List.map_cons, List.map_nil, iSeq, dYes, wipeE, resto, frO, gIn_tup_eq, gIn_lst_eq, List.getElem?_cons_zero, List.getElem?_cons_succ, List.set_cons_zero, List.set_cons_succ, List.cons_append, List.nil_append, List.replicate, Nat.reduceSub, List.length_cons, List.length_nil, true_and, and_true, Bool.false_xor, dEnd, fin1, dFldSet, dFld, dMth, dSlice, dNoP, dPart, slotsOf, slotOf]
  refine unl_lc (ρ0 := [s0, .rs (.sg b), s2, s3, .fr (.lst (sm.map .str)), .fr (tkD t), .fr (tkD u), s7, .ls [kpD c t, kpD c u], s9, s10, s11, s12]) ht hu (vws (srt sm)) [] s10 (by have := vws_len (ws := srt sm) (by rw [srt_len]; exact hsm.l3); simp; omega) ?_
  rw [List.nil_append]
  refine ⟨by decide, ?_⟩
  exact lw7_ok hsm ht hu fun e4 e8 e9 e11 e12 => h _ _ _ _ _ _ _ _
theorem lw5_ok (hsm : SmOk sm) (ht : TkOk t) (hu : TkOk u) (h : ∀ e4 e5 e6 e8 e9 e10 e11 e12, E.nx [s0, .rs (.sg b), s2, s3, e4, e5, e6, s7, e8, e9, e10, e11, e12]) :
    lw5 c E [s0, .rs (.sg b), s2, s3, .ls (sm.map .str), .fr (tkD t), .fr (tkD u), s7, s8, s9, s10, s11, s12] := by
  have h6 := lw6_ok (c := c) (E := E) (s0 := s0) (s2 := s2) (s3 := s3) (s7 := s7) (s9 := s9) (s10 := s10) (s11 := s11) (s12 := s12) (b := b) hsm ht hu h
  simp only [lw5]
  simp only [tkD] at h6 ⊢
  simp only [eq_self, decide_true, decide_false, Bool.xor_true, Bool.true_xor, Bool.xor_false, Option.some.injEq, Sl.ls.injEq, exists_eq', List.tail_cons, Bool.not_true, Bool.not_false, Nat.reduceAdd, dSeq, dIf, dTst, dBin, dVar, dTup, dNil, dCons, dLst, dC, dRet, dNext, dAsg, dFrz, hTup, hCons, hName, hNil, dSet, dPut, dIfE, dNotT, dAndT, dOrT, dAndV, dOrV, dCB, stl, val, vals, datL, WB, W1, W2, WL, ↓reduceIte, Bool.false_eq_true, backE, bFor, bLoop, bLast, dLc, dLcL, dForL, gEq_unit, gEq_unit0, gEq_str, gEq_int, gIx_t0, gIx_t1, gIx_t2, gLen_lst, gLen_tup, gAll_map_eq, gSorted2_lst_eq, gSorted2_tup_eq, gTuple_lst_eq, List.map_cons, List.map_nil, iSeq, dYes, wipeE, resto, frO, gIn_tup_eq, gIn_lst_eq, List.getElem?_cons_zero, List.getElem?_cons_succ, List.set_cons_zero, List.set_cons_succ, List.cons_append, List.nil_append, List.replicate, Nat.reduceSub, List.length_cons, List.length_nil, true_and, and_true, Bool.false_xor, dEnd, fin1, dFldSet, dFld, dMth, dSlice, dNoP, dPart, slotsOf, slotOf, dMake, gIx_t0, gIx_t1, gIx_t2]
  refine ⟨by decide, rfl, t, rfl, ht, rfl, _, _, rfl, ?_⟩
  simp only [eq_self, decide_true, decide_false, Bool.xor_true, Bool.true_xor, Bool.xor_false, Option.some.injEq, Sl.ls.injEq, exists_eq', List.tail_cons, Bool.not_true, Bool.not_false, Nat.reduceAdd, dSeq, dIf, dTst, dBin, dVar, dTup, dNil, dCons, dLst, dC, dRet, dNext, dAsg, dFrz, hTup, hCons, hName, hNil, dSet, dPut, dIfE, dNotT, dAndT, dOrT, dAndV, dOrV, dCB, stl, val, vals, datL, WB, W1, W2, WL, ↓reduceIte, Bool.false_eq_true, backE, bFor, bLoop, bLast, dLc, dLcL, dForL, gEq_unit, gEq_unit0, gEq_str, gEq_int, gIx_t0, gIx_t1, gIx_t2, gLen_lst, gLen_tup, gAll_map_eq, gSorted2_lst_eq, gSorted2_tup_eq, gTuple_lst_eq, List.map_cons, List.map_nil, iSeq, dYes, wipeE, resto, frO, gIn_tup_eq, gIn_lst_eq, List.getElem?_cons_zero, List.getElem?_cons_succ, List.set_cons_zero, List.set_cons_succ, List.cons_append, List.nil_append, List.replicate, Nat.reduceSub, List.length_cons, List.length_nil, true_and, and_true, Bool.false_xor, dEnd, fin1, dFldSet, dFld, dMth, dSlice, dNoP, dPart, slotsOf, slotOf, gIx_t0, gIx_t1, gIx_t2]
  refine ⟨by decide, rfl, u, rfl, hu, rfl, _, _, rfl, ?_⟩
  simp only [eq_self, decide_true, decide_false, Bool.xor_true, Bool.true_xor, Bool.xor_false, Option.some.injEq, Sl.ls.injEq, exists_eq', List.tail_cons, Bool.not_true, Bool.not_false, Nat.reduceAdd, dSeq, dIf, dTst, dBin, dVar, dTup, dNil, dCons, dLst, dC, dRet, dNext, dAsg, dFrz, hTup, hCons, hName, hNil, dSet, dPut, dIfE, dNotT, dAndT, dOrT, dAndV, dOrV, dCB, stl, val, vals, datL, WB, W1, W2, WL, ↓reduceIte, Bool.false_eq_true, backE, bFor, bLoop, bLast, dLc, dLcL, dForL, gEq_unit, gEq_unit0, gEq_str, gEq_int, gIx_t0, gIx_t1, gIx_t2, gLen_lst, gLen_tup, gAll_map_eq, gSorted2_lst_eq, gSorted2_tup_eq, gTuple_lst_eq, List.map_cons, List.map_nil, iSeq, dYes, wipeE, resto, frO, gIn_tup_eq, gIn_lst_eq, List.getElem?_cons_zero, List.getElem?_cons_succ, List.set_cons_zero, List.set_cons_succ, List.cons_append, List.nil_append, List.replicate, Nat.reduceSub, List.length_cons, List.length_nil, true_and, and_true, Bool.false_xor, dEnd, fin1, dFldSet, dFld, dMth, dSlice, dNoP, dPart, slotsOf, slotOf]
  exact ⟨sz (Nat.le_of_ble_eq_true rfl), by decide, h6⟩
theorem ne3 (h : ws.length = 4) : ws.take 3 ≠ [] := fun z => by
  have := congrArg List.length z
  rw [List.length_take, h] at this
  cases this
theorem l3 : (ws.take 3).length ≤ 3 := by rw [List.length_take]; omega
theorem near_loop (hne : ws.length = 4) (hw : ∀ z ∈ ws, Wd z) : ∀ (ds : List D) (b : Nat) (u : Tk) (s7 : Sl), 30 * ds.length ≤ b → TkOk u →
    (∀ (u' : Tk) (b' : Nat) (s7 : Sl), TkOk u' → b ≤ b' + 30 * ds.length → E.nx [s0, .rs (.sg b'), s2, .fr (.lst (ws.map .str)), s4, s5, .fr (tkD u'), s7, s8, s9, s10, s11, s12]) →
    dForL (hName 7) (dSet 1 6 (dFrz (dCall 3 S__law_near (dCons ((dVar 1)) (dCons ((dFrz (dVar 6))) (dCons ((dSlice ((dVar 3)) dNoP (dPart (dC (.int 3))))) dNil)))))) E ds [s0, .rs (.sg b), s2, .fr (.lst (ws.map .str)), s4, s5, .fr (tkD u), s7, s8, s9, s10, s11, s12]
  | [], b, u, s7, _, hu, h => h u b s7 hu (Nat.le_refl _)
  | d :: ds, b, u, s7, hb, hu, h => by
    rw [List.length_cons] at hb h
    have e3 : cutD (ws.map .str) none (some 3) = (ws.take 3).map .str := by rw [List.map_take]; exact cutD_take _ 3
    simp only [eq_self, decide_true, decide_false, Bool.xor_true, Bool.true_xor, Bool.xor_false, Option.some.injEq, Sl.ls.injEq, exists_eq', List.tail_cons, Bool.not_true, Bool.not_false, Nat.reduceAdd, dSeq, dIf, dTst, dBin, dVar, dTup, dNil, dCons, dLst, dC, dRet, dNext, dAsg, dFrz, hTup, hCons, hName, hNil, dSet, dPut, dIfE, dNotT, dAndT, dOrT, dAndV, dOrV, dCB, stl, val, vals, datL, WB, W1, W2, WL, ↓reduceIte, Bool.false_eq_true, backE, bFor, bLoop, bLast, dLc, dLcL, dForL, gEq_unit, gEq_unit0, gEq_str, gEq_int, gIx_t0, gIx_t1, gIx_t2, gLen_lst, gLen_tup, gAll_map_eq, gSorted2_lst_eq, gSorted2_tup_eq, gTuple_lst_eq, List.map_cons, List.map_nil, iSeq, dYes, wipeE, resto, frO, gIn_tup_eq, gIn_lst_eq, List.getElem?_cons_zero, List.getElem?_cons_succ, List.set_cons_zero, List.set_cons_succ, List.cons_append, List.nil_append, List.replicate, Nat.reduceSub, List.length_cons, List.length_nil, true_and, and_true, Bool.false_xor, dEnd, fin1, dFldSet, dFld, dMth, dSlice, dNoP, dPart, slotsOf, slotOf, dCall, Sl.own, gSlice, e3]
    refine ⟨rfl, b, u, ws.take 3, rfl, hu, ne3 hne, l3, fun z hz => hw z (List.mem_of_mem_take hz), by omega, fun u' b' hu' hb' => ?_⟩
    simp only [eq_self, decide_true, decide_false, Bool.xor_true, Bool.true_xor, Bool.xor_false, Option.some.injEq, Sl.ls.injEq, exists_eq', List.tail_cons, Bool.not_true, Bool.not_false, Nat.reduceAdd, dSeq, dIf, dTst, dBin, dVar, dTup, dNil, dCons, dLst, dC, dRet, dNext, dAsg, dFrz, hTup, hCons, hName, hNil, dSet, dPut, dIfE, dNotT, dAndT, dOrT, dAndV, dOrV, dCB, stl, val, vals, datL, WB, W1, W2, WL, ↓reduceIte, Bool.false_eq_true, backE, bFor, bLoop, bLast, dLc, dLcL, dForL, gEq_unit, gEq_unit0, gEq_str, gEq_int, gIx_t0, gIx_t1, gIx_t2, gLen_lst, gLen_tup, gAll_map_eq, gSorted2_lst_eq, gSorted2_tup_eq, gTuple_lst_eq, List.map_cons, List.map_nil, iSeq, dYes, wipeE, resto, frO, gIn_tup_eq, gIn_lst_eq, List.getElem?_cons_zero, List.getElem?_cons_succ, List.set_cons_zero, List.set_cons_succ, List.cons_append, List.nil_append, List.replicate, Nat.reduceSub, List.length_cons, List.length_nil, true_and, and_true, Bool.false_xor, dEnd, fin1, dFldSet, dFld, dMth, dSlice, dNoP, dPart, slotsOf, slotOf, own', Sl.own]
    exact near_loop hne hw ds b' u' _ (by omega) hu' fun u2 b2 s7 h1 h2 => h u2 b2 s7 h1 (by omega)
theorem lw4_ok (hne : ws.length = 4) (hw : ∀ z ∈ ws, Wd z) (hb : 100 ≤ b) (hsm : SmOk sm) (ht : TkOk t) (hu : TkOk u) (h : ∀ b' e4 e5 e6 e7 e8 e9 e10 e11 e12, b ≤ b' + 100 → E.nx [s0, .rs (.sg b'), s2, .fr (.lst (ws.map .str)), e4, e5, e6, e7, e8, e9, e10, e11, e12]) :
    lw4 c E [s0, .rs (.sg b), s2, .fr (.lst (ws.map .str)), .ls (sm.map .str), .fr (tkD t), .fr (tkD u), s7, s8, s9, s10, s11, s12] := by
  have key : ∀ b1 i, b ≤ b1 + 1 → 0 ≤ i → i < 4 → dForL (hName 7) (dSet 1 6 (dFrz (dCall 3 S__law_near (dCons ((dVar 1)) (dCons ((dFrz (dVar 6))) (dCons ((dSlice ((dVar 3)) dNoP (dPart (dC (.int 3))))) dNil)))))) { E with nx := lw5 c E } (rangeD 0 (i : Int).toNat) [s0, .rs (.sg b1), s2, .fr (.lst (ws.map .str)), .ls (sm.map .str), .fr (tkD t), .fr (tkD u), s7, s8, s9, s10, s11, s12] := by
    intro b1 i hb1 i0 i1
    refine near_loop hne hw _ b1 u s7 (by rw [rangeD_len]; omega) hu fun u' b' s7 hu' hb' => ?_
    rw [rangeD_len] at hb'
    exact lw5_ok hsm ht hu' fun e4 e5 e6 e8 e9 e10 e11 e12 => h b' e4 e5 e6 s7 e8 e9 e10 e11 e12 (by omega)
  simp only [lw4]
  simp only [eq_self, decide_true, decide_false, Bool.xor_true, Bool.true_xor, Bool.xor_false, Option.some.injEq, Sl.ls.injEq, exists_eq', List.tail_cons, Bool.not_true, Bool.not_false, Nat.reduceAdd, dSeq, dIf, dTst, dBin, dVar, dTup, dNil, dCons, dLst, dC, dRet, dNext, dAsg, dFrz, hTup, hCons, hName, hNil, dSet, dPut, dIfE, dNotT, dAndT, dOrT, dAndV, dOrV, dCB, stl, val, vals, datL, WB, W1, W2, WL, ↓reduceIte, Bool.false_eq_true, backE, bFor, bLoop, bLast, dLc, dLcL, dForL, gEq_unit, gEq_unit0, gEq_str, gEq_int, gIx_t0, gIx_t1, gIx_t2, gLen_lst, gLen_tup, gAll_map_eq, gSorted2_lst_eq, gSorted2_tup_eq, gTuple_lst_eq, List.map_cons, List.map_nil, iSeq, dYes, wipeE, resto, frO, gIn_tup_eq, gIn_lst_eq, List.getElem?_cons_zero, List.getElem?_cons_succ, List.set_cons_zero, List.set_cons_succ, List.cons_append, List.nil_append, List.replicate, Nat.reduceSub, List.length_cons, List.length_nil, true_and, and_true, Bool.false_xor, dEnd, fin1, dFldSet, dFld, dMth, dSlice, dNoP, dPart, slotsOf, slotOf, dFor, iRange1, dCall, Sl.own]
  refine ⟨rfl, b, 4, rfl, by omega, by decide, by decide, fun i b1 i0 i1 hb1 => ?_⟩
  have p62 : (2 : Int) ^ 62 = 4611686018427387904 := by decide
  simp only [eq_self, decide_true, decide_false, Bool.xor_true, Bool.true_xor, Bool.xor_false, Option.some.injEq, Sl.ls.injEq, exists_eq', List.tail_cons, Bool.not_true, Bool.not_false, Nat.reduceAdd, dSeq, dIf, dTst, dBin, dVar, dTup, dNil, dCons, dLst, dC, dRet, dNext, dAsg, dFrz, hTup, hCons, hName, hNil, dSet, dPut, dIfE, dNotT, dAndT, dOrT, dAndV, dOrV, dCB, stl, val, vals, datL, WB, W1, W2, WL, ↓reduceIte, Bool.false_eq_true, backE, bFor, bLoop, bLast, dLc, dLcL, dForL, gEq_unit, gEq_unit0, gEq_str, gEq_int, gIx_t0, gIx_t1, gIx_t2, gLen_lst, gLen_tup, gAll_map_eq, gSorted2_lst_eq, gSorted2_tup_eq, gTuple_lst_eq, List.map_cons, List.map_nil, iSeq, dYes, wipeE, resto, frO, gIn_tup_eq, gIn_lst_eq, List.getElem?_cons_zero, List.getElem?_cons_succ, List.set_cons_zero, List.set_cons_succ, List.cons_append, List.nil_append, List.replicate, Nat.reduceSub, List.length_cons, List.length_nil, true_and, and_true, Bool.false_xor, dEnd, fin1, dFldSet, dFld, dMth, dSlice, dNoP, dPart, slotsOf, slotOf, own', Sl.own]
  exact ⟨by omega, by omega, key b1 i hb1 i0 i1⟩
theorem k_wd : wdB "k" = true := by decide +kernel
theorem lw3_ok (hne : ws.length = 4) (hw : ∀ z ∈ ws, Wd z) (hn : ws.Nodup) (hb : 300 ≤ b) (hsm : SmOk sm) (ht : TkOk t) (h : ∀ b' e4 e5 e6 e7 e8 e9 e10 e11 e12, b ≤ b' + 300 → E.nx [s0, .rs (.sg b'), s2, .fr (.lst (ws.map .str)), e4, e5, e6, e7, e8, e9, e10, e11, e12]) :
    lw3 c E [s0, .rs (.sg b), s2, .fr (.lst (ws.map .str)), .ls (sm.map .str), .fr (tkD t), s6, s7, s8, s9, s10, s11, s12] := by
  have e3 : cutD (ws.map .str) none (some 3) = (ws.take 3).map .str := by rw [List.map_take]; exact cutD_take _ 3
  have key : ∀ b1 u, b ≤ b1 + 200 → TkOk u → lw4 c E [s0, .rs (.sg b1), s2, .fr (.lst (ws.map .str)), .ls (sm.map .str), .fr (tkD t), .fr (tkD u), s7, s8, s9, s10, s11, s12] :=
    fun b1 u hb1 hu => lw4_ok hne hw (by omega) hsm ht hu fun b' e4 e5 e6 e7 e8 e9 e10 e11 e12 hb' => h b' e4 e5 e6 e7 e8 e9 e10 e11 e12 (by omega)
  simp only [lw3]
  simp only [eq_self, decide_true, decide_false, Bool.xor_true, Bool.true_xor, Bool.xor_false, Option.some.injEq, Sl.ls.injEq, exists_eq', List.tail_cons, Bool.not_true, Bool.not_false, Nat.reduceAdd, dSeq, dIf, dTst, dBin, dVar, dTup, dNil, dCons, dLst, dC, dRet, dNext, dAsg, dFrz, hTup, hCons, hName, hNil, dSet, dPut, dIfE, dNotT, dAndT, dOrT, dAndV, dOrV, dCB, stl, val, vals, datL, WB, W1, W2, WL, ↓reduceIte, Bool.false_eq_true, backE, bFor, bLoop, bLast, dLc, dLcL, dForL, gEq_unit, gEq_unit0, gEq_str, gEq_int, gIx_t0, gIx_t1, gIx_t2, gLen_lst, gLen_tup, gAll_map_eq, gSorted2_lst_eq, gSorted2_tup_eq, gTuple_lst_eq, List.map_cons, List.map_nil, iSeq, dYes, wipeE, resto, frO, gIn_tup_eq, gIn_lst_eq, List.getElem?_cons_zero, List.getElem?_cons_succ, List.set_cons_zero, List.set_cons_succ, List.cons_append, List.nil_append, List.replicate, Nat.reduceSub, List.length_cons, List.length_nil, true_and, and_true, Bool.false_xor, dEnd, fin1, dFldSet, dFld, dMth, dSlice, dNoP, dPart, slotsOf, slotOf, dCall, Sl.own]
  refine ⟨rfl, b, 4, rfl, by omega, by decide, by decide, fun i b1 i0 i1 hb1 => ?_⟩
  simp only [eq_self, decide_true, decide_false, Bool.xor_true, Bool.true_xor, Bool.xor_false, Option.some.injEq, Sl.ls.injEq, exists_eq', List.tail_cons, Bool.not_true, Bool.not_false, Nat.reduceAdd, dSeq, dIf, dTst, dBin, dVar, dTup, dNil, dCons, dLst, dC, dRet, dNext, dAsg, dFrz, hTup, hCons, hName, hNil, dSet, dPut, dIfE, dNotT, dAndT, dOrT, dAndV, dOrV, dCB, stl, val, vals, datL, WB, W1, W2, WL, ↓reduceIte, Bool.false_eq_true, backE, bFor, bLoop, bLast, dLc, dLcL, dForL, gEq_unit, gEq_unit0, gEq_str, gEq_int, gIx_t0, gIx_t1, gIx_t2, gLen_lst, gLen_tup, gAll_map_eq, gSorted2_lst_eq, gSorted2_tup_eq, gTuple_lst_eq, List.map_cons, List.map_nil, iSeq, dYes, wipeE, resto, frO, gIn_tup_eq, gIn_lst_eq, List.getElem?_cons_zero, List.getElem?_cons_succ, List.set_cons_zero, List.set_cons_succ, List.cons_append, List.nil_append, List.replicate, Nat.reduceSub, List.length_cons, List.length_nil, true_and, and_true, Bool.false_xor, dEnd, fin1, dFldSet, dFld, dMth, dSlice, dNoP, dPart, slotsOf, slotOf, own', Sl.own, gGt_int]
  cases e : decide (0 < i) with
  | true =>
    simp only [eq_self, decide_true, decide_false, Bool.xor_true, Bool.true_xor, Bool.xor_false, Option.some.injEq, Sl.ls.injEq, exists_eq', List.tail_cons, Bool.not_true, Bool.not_false, Nat.reduceAdd, dSeq, dIf, dTst, dBin, dVar, dTup, dNil, dCons, dLst, dC, dRet, dNext, dAsg, dFrz, hTup, hCons, hName, hNil, dSet, dPut, dIfE, dNotT, dAndT, dOrT, dAndV, dOrV, dCB, stl, val, vals, datL, WB, W1, W2, WL, ↓reduceIte, Bool.false_eq_true, backE, bFor, bLoop, bLast, dLc, dLcL, dForL, gEq_unit, gEq_unit0, gEq_str, gEq_int, gIx_t0, gIx_t1, gIx_t2, gLen_lst, gLen_tup, gAll_map_eq, gSorted2_lst_eq, gSorted2_tup_eq, gTuple_lst_eq, List.map_cons, List.map_nil, iSeq, dYes, wipeE, resto, frO, gIn_tup_eq, gIn_lst_eq, List.getElem?_cons_zero, List.getElem?_cons_succ, List.set_cons_zero, List.set_cons_succ, List.cons_append, List.nil_append, List.replicate, Nat.reduceSub, List.length_cons, List.length_nil, true_and, and_true, Bool.false_xor, dEnd, fin1, dFldSet, dFld, dMth, dSlice, dNoP, dPart, slotsOf, slotOf]
    exact key b1 t (by omega) ht
  | false =>
    simp only [eq_self, decide_true, decide_false, Bool.xor_true, Bool.true_xor, Bool.xor_false, Option.some.injEq, Sl.ls.injEq, exists_eq', List.tail_cons, Bool.not_true, Bool.not_false, Nat.reduceAdd, dSeq, dIf, dTst, dBin, dVar, dTup, dNil, dCons, dLst, dC, dRet, dNext, dAsg, dFrz, hTup, hCons, hName, hNil, dSet, dPut, dIfE, dNotT, dAndT, dOrT, dAndV, dOrV, dCB, stl, val, vals, datL, WB, W1, W2, WL, ↓reduceIte, Bool.false_eq_true, backE, bFor, bLoop, bLast, dLc, dLcL, dForL, gEq_unit, gEq_unit0, gEq_str, gEq_int, gIx_t0, gIx_t1, gIx_t2, gLen_lst, gLen_tup, gAll_map_eq, gSorted2_lst_eq, gSorted2_tup_eq, gTuple_lst_eq, List.map_cons, List.map_nil, iSeq, dYes, wipeE, resto, frO, gIn_tup_eq, gIn_lst_eq, List.getElem?_cons_zero, List.getElem?_cons_succ, List.set_cons_zero, List.set_cons_succ, List.cons_append, List.nil_append, List.replicate, Nat.reduceSub, List.length_cons, List.length_nil, true_and, and_true, Bool.false_xor, dEnd, fin1, dFldSet, dFld, dMth, dSlice, dNoP, dPart, slotsOf, slotOf, gSlice, e3]
    refine ⟨rfl, b1, "k", ws.take 3, rfl, k_wd, ne3 hne, l3, fun z hz => hw z (List.mem_of_mem_take hz), (List.take_sublist 3 ws).nodup hn, by omega, fun u b2 hu hb2 => ?_⟩
    simp only [eq_self, decide_true, decide_false, Bool.xor_true, Bool.true_xor, Bool.xor_false, Option.some.injEq, Sl.ls.injEq, exists_eq', List.tail_cons, Bool.not_true, Bool.not_false, Nat.reduceAdd, dSeq, dIf, dTst, dBin, dVar, dTup, dNil, dCons, dLst, dC, dRet, dNext, dAsg, dFrz, hTup, hCons, hName, hNil, dSet, dPut, dIfE, dNotT, dAndT, dOrT, dAndV, dOrV, dCB, stl, val, vals, datL, WB, W1, W2, WL, ↓reduceIte, Bool.false_eq_true, backE, bFor, bLoop, bLast, dLc, dLcL, dForL, gEq_unit, gEq_unit0, gEq_str, gEq_int, gIx_t0, gIx_t1, gIx_t2, gLen_lst, gLen_tup, gAll_map_eq, gSorted2_lst_eq, gSorted2_tup_eq, gTuple_lst_eq, List.map_cons, List.map_nil, iSeq, dYes, wipeE, resto, frO, gIn_tup_eq, gIn_lst_eq, List.getElem?_cons_zero, List.getElem?_cons_succ, List.set_cons_zero, List.set_cons_succ, List.cons_append, List.nil_append, List.replicate, Nat.reduceSub, List.length_cons, List.length_nil, true_and, and_true, Bool.false_xor, dEnd, fin1, dFldSet, dFld, dMth, dSlice, dNoP, dPart, slotsOf, slotOf, own', Sl.own]
    exact key b2 u (by omega) hu
theorem lw2_ok (hne : ws.length = 4) (hw : ∀ z ∈ ws, Wd z) (hn : ws.Nodup) (hb : 500 ≤ b) (hsm : SmOk sm) (h : ∀ b' e4 e5 e6 e7 e8 e9 e10 e11 e12, b ≤ b' + 500 → E.nx [s0, .rs (.sg b'), s2, .fr (.lst (ws.map .str)), e4, e5, e6, e7, e8, e9, e10, e11, e12]) :
    lw2 c E [s0, .rs (.sg b), s2, .fr (.lst (ws.map .str)), .ls (sm.map .str), s5, s6, s7, s8, s9, s10, s11, s12] := by
  have e3 : cutD (ws.map .str) none (some 3) = (ws.take 3).map .str := by rw [List.map_take]; exact cutD_take _ 3
  simp only [lw2]
  simp only [eq_self, decide_true, decide_false, Bool.xor_true, Bool.true_xor, Bool.xor_false, Option.some.injEq, Sl.ls.injEq, exists_eq', List.tail_cons, Bool.not_true, Bool.not_false, Nat.reduceAdd, dSeq, dIf, dTst, dBin, dVar, dTup, dNil, dCons, dLst, dC, dRet, dNext, dAsg, dFrz, hTup, hCons, hName, hNil, dSet, dPut, dIfE, dNotT, dAndT, dOrT, dAndV, dOrV, dCB, stl, val, vals, datL, WB, W1, W2, WL, ↓reduceIte, Bool.false_eq_true, backE, bFor, bLoop, bLast, dLc, dLcL, dForL, gEq_unit, gEq_unit0, gEq_str, gEq_int, gIx_t0, gIx_t1, gIx_t2, gLen_lst, gLen_tup, gAll_map_eq, gSorted2_lst_eq, gSorted2_tup_eq, gTuple_lst_eq, List.map_cons, List.map_nil, iSeq, dYes, wipeE, resto, frO, gIn_tup_eq, gIn_lst_eq, List.getElem?_cons_zero, List.getElem?_cons_succ, List.set_cons_zero, List.set_cons_succ, List.cons_append, List.nil_append, List.replicate, Nat.reduceSub, List.length_cons, List.length_nil, true_and, and_true, Bool.false_xor, dEnd, fin1, dFldSet, dFld, dMth, dSlice, dNoP, dPart, slotsOf, slotOf, dCall, Sl.own, gSlice, e3]
  refine ⟨rfl, b, "k", ws.take 3, rfl, k_wd, ne3 hne, l3, fun z hz => hw z (List.mem_of_mem_take hz), (List.take_sublist 3 ws).nodup hn, by omega, fun t b2 ht hb2 => ?_⟩
  simp only [eq_self, decide_true, decide_false, Bool.xor_true, Bool.true_xor, Bool.xor_false, Option.some.injEq, Sl.ls.injEq, exists_eq', List.tail_cons, Bool.not_true, Bool.not_false, Nat.reduceAdd, dSeq, dIf, dTst, dBin, dVar, dTup, dNil, dCons, dLst, dC, dRet, dNext, dAsg, dFrz, hTup, hCons, hName, hNil, dSet, dPut, dIfE, dNotT, dAndT, dOrT, dAndV, dOrV, dCB, stl, val, vals, datL, WB, W1, W2, WL, ↓reduceIte, Bool.false_eq_true, backE, bFor, bLoop, bLast, dLc, dLcL, dForL, gEq_unit, gEq_unit0, gEq_str, gEq_int, gIx_t0, gIx_t1, gIx_t2, gLen_lst, gLen_tup, gAll_map_eq, gSorted2_lst_eq, gSorted2_tup_eq, gTuple_lst_eq, List.map_cons, List.map_nil, iSeq, dYes, wipeE, resto, frO, gIn_tup_eq, gIn_lst_eq, List.getElem?_cons_zero, List.getElem?_cons_succ, List.set_cons_zero, List.set_cons_succ, List.cons_append, List.nil_append, List.replicate, Nat.reduceSub, List.length_cons, List.length_nil, true_and, and_true, Bool.false_xor, dEnd, fin1, dFldSet, dFld, dMth, dSlice, dNoP, dPart, slotsOf, slotOf, own', Sl.own]
  exact lw3_ok hne hw hn (by omega) hsm ht fun b' e4 e5 e6 e7 e8 e9 e10 e11 e12 hb' => h b' e4 e5 e6 e7 e8 e9 e10 e11 e12 (by omega)
theorem lw1_ok (hne : ws.length = 4) (hw : ∀ z ∈ ws, Wd z) (hn : ws.Nodup) (hb : 501 ≤ b) (h : ∀ b' e4 e5 e6 e7 e8 e9 e10 e11 e12, b ≤ b' + 501 → E.nx [s0, .rs (.sg b'), s2, .fr (.lst (ws.map .str)), e4, e5, e6, e7, e8, e9, e10, e11, e12]) :
    lw1 c E [s0, .rs (.sg b), s2, .fr (.lst (ws.map .str)), s4, s5, s6, s7, s8, s9, s10, s11, s12] := by
  simp only [lw1]
  simp only [eq_self, decide_true, decide_false, Bool.xor_true, Bool.true_xor, Bool.xor_false, Option.some.injEq, Sl.ls.injEq, exists_eq', List.tail_cons, Bool.not_true, Bool.not_false, Nat.reduceAdd, dSeq, dIf, dTst, dBin, dVar, dTup, dNil, dCons, dLst, dC, dRet, dNext, dAsg, dFrz, hTup, hCons, hName, hNil, dSet, dPut, dIfE, dNotT, dAndT, dOrT, dAndV, dOrV, dCB, stl, val, vals, datL, WB, W1, W2, WL, ↓reduceIte, Bool.false_eq_true, backE, bFor, bLoop, bLast, dLc, dLcL, dForL, gEq_unit, gEq_unit0, gEq_str, gEq_int, gIx_t0, gIx_t1, gIx_t2, gLen_lst, gLen_tup, gAll_map_eq, gSorted2_lst_eq, gSorted2_tup_eq, gTuple_lst_eq, List.map_cons, List.map_nil, iSeq, dYes, wipeE, resto, frO, gIn_tup_eq, gIn_lst_eq, List.getElem?_cons_zero, List.getElem?_cons_succ, List.set_cons_zero, List.set_cons_succ, List.cons_append, List.nil_append, List.replicate, Nat.reduceSub, List.length_cons, List.length_nil, true_and, and_true, Bool.false_xor, dEnd, fin1, dFldSet, dFld, dMth, dSlice, dNoP, dPart, slotsOf, slotOf, dCall, Sl.own]
  refine ⟨rfl, b, 3, rfl, by omega, by decide, by decide, fun i b1 i0 i1 hb1 => ?_⟩
  have e3 : cutD (ws.map .str) none (some (1 + i)) = (ws.take (1 + i.toNat)).map .str := by
    rw [List.map_take]
    have : (1 + i) = ((1 + i.toNat : Nat) : Int) := by omega
    rw [this]
    exact cutD_take _ _
  simp only [eq_self, decide_true, decide_false, Bool.xor_true, Bool.true_xor, Bool.xor_false, Option.some.injEq, Sl.ls.injEq, exists_eq', List.tail_cons, Bool.not_true, Bool.not_false, Nat.reduceAdd, dSeq, dIf, dTst, dBin, dVar, dTup, dNil, dCons, dLst, dC, dRet, dNext, dAsg, dFrz, hTup, hCons, hName, hNil, dSet, dPut, dIfE, dNotT, dAndT, dOrT, dAndV, dOrV, dCB, stl, val, vals, datL, WB, W1, W2, WL, ↓reduceIte, Bool.false_eq_true, backE, bFor, bLoop, bLast, dLc, dLcL, dForL, gEq_unit, gEq_unit0, gEq_str, gEq_int, gIx_t0, gIx_t1, gIx_t2, gLen_lst, gLen_tup, gAll_map_eq, gSorted2_lst_eq, gSorted2_tup_eq, gTuple_lst_eq, List.map_cons, List.map_nil, iSeq, dYes, wipeE, resto, frO, gIn_tup_eq, gIn_lst_eq, List.getElem?_cons_zero, List.getElem?_cons_succ, List.set_cons_zero, List.set_cons_succ, List.cons_append, List.nil_append, List.replicate, Nat.reduceSub, List.length_cons, List.length_nil, true_and, and_true, Bool.false_xor, dEnd, fin1, dFldSet, dFld, dMth, dSlice, dNoP, dPart, slotsOf, slotOf, own', Sl.own, gAdd_int, gSlice, e3]
  refine ⟨by decide, lw2_ok hne hw hn (by omega) ⟨fun z hz => hw z (List.mem_of_mem_take hz), (List.take_sublist _ ws).nodup hn, by rw [List.length_take]; omega, by rw [List.length_take]; omega⟩ fun b' e4 e5 e6 e7 e8 e9 e10 e11 e12 hb' => h b' e4 e5 e6 e7 e8 e9 e10 e11 e12 (by omega)⟩
theorem lw0_ok (hb : 600 ≤ b) (h : ∀ b' e3 e4 e5 e6 e7 e8 e9 e10 e11 e12, b ≤ b' + 600 → E.nx [s0, .rs (.sg b'), s2, e3, e4, e5, e6, e7, e8, e9, e10, e11, e12]) :
    lw0 c E [s0, .rs (.sg b), s2, s3, s4, s5, s6, s7, s8, s9, s10, s11, s12] := by
  simp only [lw0]
  simp only [eq_self, decide_true, decide_false, Bool.xor_true, Bool.true_xor, Bool.xor_false, Option.some.injEq, Sl.ls.injEq, exists_eq', List.tail_cons, Bool.not_true, Bool.not_false, Nat.reduceAdd, dSeq, dIf, dTst, dBin, dVar, dTup, dNil, dCons, dLst, dC, dRet, dNext, dAsg, dFrz, hTup, hCons, hName, hNil, dSet, dPut, dIfE, dNotT, dAndT, dOrT, dAndV, dOrV, dCB, stl, val, vals, datL, WB, W1, W2, WL, ↓reduceIte, Bool.false_eq_true, backE, bFor, bLoop, bLast, dLc, dLcL, dForL, gEq_unit, gEq_unit0, gEq_str, gEq_int, gIx_t0, gIx_t1, gIx_t2, gLen_lst, gLen_tup, gAll_map_eq, gSorted2_lst_eq, gSorted2_tup_eq, gTuple_lst_eq, List.map_cons, List.map_nil, iSeq, dYes, wipeE, resto, frO, gIn_tup_eq, gIn_lst_eq, List.getElem?_cons_zero, List.getElem?_cons_succ, List.set_cons_zero, List.set_cons_succ, List.cons_append, List.nil_append, List.replicate, Nat.reduceSub, List.length_cons, List.length_nil, true_and, and_true, Bool.false_xor, dEnd, fin1, dFldSet, dFld, dMth, dSlice, dNoP, dPart, slotsOf, slotOf, dCall, Sl.own]
  refine ⟨rfl, b, 4, rfl, by decide, by omega, fun ws b1 hl hw hn hb1 => ?_⟩
  simp only [eq_self, decide_true, decide_false, Bool.xor_true, Bool.true_xor, Bool.xor_false, Option.some.injEq, Sl.ls.injEq, exists_eq', List.tail_cons, Bool.not_true, Bool.not_false, Nat.reduceAdd, dSeq, dIf, dTst, dBin, dVar, dTup, dNil, dCons, dLst, dC, dRet, dNext, dAsg, dFrz, hTup, hCons, hName, hNil, dSet, dPut, dIfE, dNotT, dAndT, dOrT, dAndV, dOrV, dCB, stl, val, vals, datL, WB, W1, W2, WL, ↓reduceIte, Bool.false_eq_true, backE, bFor, bLoop, bLast, dLc, dLcL, dForL, gEq_unit, gEq_unit0, gEq_str, gEq_int, gIx_t0, gIx_t1, gIx_t2, gLen_lst, gLen_tup, gAll_map_eq, gSorted2_lst_eq, gSorted2_tup_eq, gTuple_lst_eq, List.map_cons, List.map_nil, iSeq, dYes, wipeE, resto, frO, gIn_tup_eq, gIn_lst_eq, List.getElem?_cons_zero, List.getElem?_cons_succ, List.set_cons_zero, List.set_cons_succ, List.cons_append, List.nil_append, List.replicate, Nat.reduceSub, List.length_cons, List.length_nil, true_and, and_true, Bool.false_xor, dEnd, fin1, dFldSet, dFld, dMth, dSlice, dNoP, dPart, slotsOf, slotOf, own', Sl.own]
  exact lw1_ok hl hw hn (by omega) fun b' e4 e5 e6 e7 e8 e9 e10 e11 e12 hb' => h b' _ e4 e5 e6 e7 e8 e9 e10 e11 e12 (by omega)
theorem law_loop : ∀ (ds : List D) (b : Nat) (s2 s3 s4 s5 s6 s7 s8 s9 s10 s11 s12 : Sl), 600 * ds.length ≤ b → (∀ b' e2 e3 e4 e5 e6 e7 e8 e9 e10 e11 e12, E.nx [s0, .rs (.sg b'), e2, e3, e4, e5, e6, e7, e8, e9, e10, e11, e12]) → dForL (hName 2) (lw0 c) E ds [s0, .rs (.sg b), s2, s3, s4, s5, s6, s7, s8, s9, s10, s11, s12]
  | [], b, s2, s3, s4, s5, s6, s7, s8, s9, s10, s11, s12, _, h => h b s2 s3 s4 s5 s6 s7 s8 s9 s10 s11 s12
  | x :: ds, b, s2, s3, s4, s5, s6, s7, s8, s9, s10, s11, s12, hb, h => by
    simp only [List.length_cons] at hb h
    exact lw0_ok (E := { nx := dForL (hName 2) (lw0 c) E ds, rt := E.rt, bk := E.nx, ct := dForL (hName 2) (lw0 c) E ds }) (s2 := .fr x) (by omega) fun b' s3 s4 s5 s6 s7 s8 s9 s10 s11 s12 hb' => law_loop ds b' (.fr x) s3 s4 s5 s6 s7 s8 s9 s10 s11 s12 (by omega) h
end
theorem k_law (c : Ca) : Keeps S_law 1 13 (r_law c) := by
  rintro args Q h0 ⟨ns, rfl, hl, h⟩
  clear h0
  refine ⟨rfl, rfl, ns, rfl, hl, Nat.le_refl _, ?_⟩
  have h40 : (if (8 : Int) < (ns.length : Int) then (8 : Int) else (ns.length : Int)) ≤ 8 := by split <;> omega
  have h00 : 0 ≤ (if (8 : Int) < (ns.length : Int) then (8 : Int) else (ns.length : Int)) := by split <;> omega
  have two62 : (2 : Int) ^ 62 = 4611686018427387904 := by decide
  refine ⟨by omega, by omega, ?_⟩
  refine law_loop (c := c) _ _ _ _ _ _ _ _ _ _ _ _ _ ?_ fun b' e2 e3 e4 e5 e6 e7 e8 e9 e10 e11 e12 => ?_
  · rw [rangeD_len]
    omega
  exact h
theorem law_true (ns : List Int) (hl : ns.length ≤ 63) : S_law [.fr (.scr ns)] fun r _ => r = .dat (.bl true) := ⟨ns, rfl, hl, rfl⟩
end Lk45

namespace Lk45
open PySem PySem.Spec PyProof.Rows L2 TL
end Lk45
namespace Lk45
open PySem PySem.Spec PyProof.Rows L2 TL KP
def topS (i : Nat) : Stmt := PySem.Challenge.pw_latekeepers_k45_keepers_parted.main.body.getD i (.Pass ⟨0, 0, 0, 0⟩)
abbrev s_is_list : Stmt := topS 11
theorem sc_is_list : FnScope ["value"] ["value"] (defScope s_is_list) := ⟨rfl, rfl, rfl, by decide +kernel, rfl, by decide +kernel, by decide +kernel⟩
abbrev s_is_word : Stmt := topS 13
theorem sc_is_word : FnScope ["value", "letter"] ["value"] (defScope s_is_word) := ⟨rfl, rfl, rfl, by decide +kernel, rfl, by decide +kernel, by decide +kernel⟩
abbrev s_thing_conditions : Stmt := topS 18
theorem sc_thing_conditions : FnScope ["thing", "wants", "wish", "is_going", "is_held", "found"] ["thing", "wants"] (defScope s_thing_conditions) := ⟨rfl, rfl, rfl, by decide +kernel, rfl, by decide +kernel, by decide +kernel⟩
abbrev s_own_conditions : Stmt := topS 19
theorem sc_own_conditions : FnScope ["thing", "own"] ["thing", "own"] (defScope s_own_conditions) := ⟨rfl, rfl, rfl, by decide +kernel, rfl, by decide +kernel, by decide +kernel⟩
abbrev s_held_for : Stmt := topS 20
theorem sc_held_for : FnScope ["view", "wants", "thing", "own", "other", "stray", "found"] ["view", "wants"] (defScope s_held_for) := ⟨rfl, rfl, rfl, by decide +kernel, rfl, by decide +kernel, by decide +kernel⟩
abbrev s_things_of : Stmt := topS 22
theorem sc_things_of : FnScope ["words", "word", "is_going", "is_held"] ["words"] (defScope s_things_of) := ⟨rfl, rfl, rfl, by decide +kernel, rfl, by decide +kernel, by decide +kernel⟩
abbrev s_views_of : Stmt := topS 23
theorem sc_views_of : FnScope ["words", "owns", "word", "thing", "own", "other", "stray"] ["words"] (defScope s_views_of) := ⟨rfl, rfl, rfl, by decide +kernel, rfl, by decide +kernel, by decide +kernel⟩
abbrev s_are_different : Stmt := topS 31
theorem sc_are_different : FnScope ["things", "some", "one"] ["things", "some"] (defScope s_are_different) := ⟨rfl, rfl, rfl, by decide +kernel, rfl, by decide +kernel, by decide +kernel⟩
abbrev s_is_deed : Stmt := topS 32
theorem sc_is_deed : FnScope ["value"] ["value"] (defScope s_is_deed) := ⟨rfl, rfl, rfl, by decide +kernel, rfl, by decide +kernel, by decide +kernel⟩
abbrev s_is_rule : Stmt := topS 33
theorem sc_is_rule : FnScope ["value", "sight", "deed", "checks"] ["value"] (defScope s_is_rule) := ⟨rfl, rfl, rfl, by decide +kernel, rfl, by decide +kernel, by decide +kernel⟩
abbrev s_are_wants : Stmt := topS 34
theorem sc_are_wants : FnScope ["value", "word"] ["value"] (defScope s_are_wants) := ⟨rfl, rfl, rfl, by decide +kernel, rfl, by decide +kernel, by decide +kernel⟩
abbrev s_Keeper___init__ : Stmt := inClass (topS 35) 0
theorem sc_Keeper___init__ : FnScope ["self", "name", "wants", "rules", "at", "rule", "sight", "deed", "checks"] ["self", "name", "wants", "rules"] (defScope s_Keeper___init__) := ⟨rfl, rfl, rfl, by decide +kernel, rfl, by decide +kernel, by decide +kernel⟩
abbrev s_Keeper_decided : Stmt := inClass (topS 35) 8
theorem sc_Keeper_decided : FnScope ["self", "view", "known", "at", "rule", "condition"] ["self", "view"] (defScope s_Keeper_decided) := ⟨rfl, rfl, rfl, by decide +kernel, rfl, by decide +kernel, by decide +kernel⟩
abbrev s_need_words : Stmt := topS 38
theorem sc_need_words : FnScope ["words", "at", "word"] ["words"] (defScope s_need_words) := ⟨rfl, rfl, rfl, by decide +kernel, rfl, by decide +kernel, by decide +kernel⟩
abbrev s_all_views : Stmt := topS 39
theorem sc_all_views : FnScope ["words"] ["words"] (defScope s_all_views) := ⟨rfl, rfl, rfl, by decide +kernel, rfl, by decide +kernel, by decide +kernel⟩
abbrev s_choice : Stmt := topS 40
theorem sc_choice : FnScope ["keeper", "view", "at"] ["keeper", "view"] (defScope s_choice) := ⟨rfl, rfl, rfl, by decide +kernel, rfl, by decide +kernel, by decide +kernel⟩
abbrev s_parted : Stmt := topS 41
theorem sc_parted : FnScope ["one", "other", "words", "view"] ["one", "other", "words"] (defScope s_parted) := ⟨rfl, rfl, rfl, by decide +kernel, rfl, by decide +kernel, by decide +kernel⟩
abbrev s__law_begun : Stmt := topS 43
theorem sc__law_begun : FnScope ["_law_script", "_law_cells", "_law_cell"] ["_law_script"] (defScope s__law_begun) := ⟨rfl, rfl, rfl, by decide +kernel, rfl, by decide +kernel, by decide +kernel⟩
abbrev s__law_mixed : Stmt := topS 44
theorem sc__law_mixed : FnScope ["_law_draw", "_law_turn", "_law_found", "_law_cell", "_law_lap"] ["_law_draw"] (defScope s__law_mixed) := ⟨rfl, rfl, rfl, by decide +kernel, rfl, by decide +kernel, by decide +kernel⟩
abbrev s__law_take : Stmt := topS 45
theorem sc__law_take : FnScope ["_law_draw", "_law_many", "_law_found"] ["_law_draw", "_law_many"] (defScope s__law_take) := ⟨rfl, rfl, rfl, by decide +kernel, rfl, by decide +kernel, by decide +kernel⟩
abbrev s__law_pick : Stmt := topS 46
theorem sc__law_pick : FnScope ["_law_draw", "_law_some"] ["_law_draw", "_law_some"] (defScope s__law_pick) := ⟨rfl, rfl, rfl, by decide +kernel, rfl, by decide +kernel, by decide +kernel⟩
abbrev s__law_word : Stmt := topS 47
theorem sc__law_word : FnScope ["_law_draw", "_law_letters", "_law_long", "_law_lap"] ["_law_draw"] (defScope s__law_word) := ⟨rfl, rfl, rfl, by decide +kernel, rfl, by decide +kernel, by decide +kernel⟩
abbrev s__law_words : Stmt := topS 48
theorem sc__law_words : FnScope ["_law_draw", "_law_many", "_law_found", "_law_turn", "_law_word_here", "_law_spare"] ["_law_draw", "_law_many"] (defScope s__law_words) := ⟨rfl, rfl, rfl, by decide +kernel, rfl, by decide +kernel, by decide +kernel⟩
abbrev s__law_known : Stmt := topS 49
theorem sc__law_known : FnScope ["_law_seen", "_law_wants", "_law_thing", "_law_own", "_law_is_other", "_law_stray", "_law_found"] ["_law_seen", "_law_wants"] (defScope s__law_known) := ⟨rfl, rfl, rfl, by decide +kernel, rfl, by decide +kernel, by decide +kernel⟩
abbrev s__law_decided : Stmt := topS 50
theorem sc__law_decided : FnScope ["_law_person", "_law_seen", "_law_known_here", "_law_at", "_law_rule", "_law_item"] ["_law_person", "_law_seen"] (defScope s__law_decided) := ⟨rfl, rfl, rfl, by decide +kernel, rfl, by decide +kernel, by decide +kernel⟩
abbrev s__law_all_views : Stmt := topS 51
theorem sc__law_all_views : FnScope ["_law_some", "_law_things", "_law_owns", "_law_found", "_law_word_here", "_law_thing", "_law_own", "_law_is_other"] ["_law_some"] (defScope s__law_all_views) := ⟨rfl, rfl, rfl, by decide +kernel, rfl, by decide +kernel, by decide +kernel⟩
abbrev s__law_choice : Stmt := topS 52
theorem sc__law_choice : FnScope ["_law_person", "_law_seen", "_law_at"] ["_law_person", "_law_seen"] (defScope s__law_choice) := ⟨rfl, rfl, rfl, by decide +kernel, rfl, by decide +kernel, by decide +kernel⟩
abbrev s__law_any_rule : Stmt := topS 53
theorem sc__law_any_rule : FnScope ["_law_draw", "_law_some", "_law_known_here", "_law_sight", "_law_item", "_law_word_here", "_law_checks", "_law_part"] ["_law_draw", "_law_some"] (defScope s__law_any_rule) := ⟨rfl, rfl, rfl, by decide +kernel, rfl, by decide +kernel, by decide +kernel⟩
abbrev s__law_any_keeper : Stmt := topS 54
theorem sc__law_any_keeper : FnScope ["_law_draw", "_law_tag", "_law_some", "_law_wants", "_law_word_here", "_law_turn"] ["_law_draw", "_law_tag", "_law_some"] (defScope s__law_any_keeper) := ⟨rfl, rfl, rfl, by decide +kernel, rfl, by decide +kernel, by decide +kernel⟩
abbrev s__law_near : Stmt := topS 55
theorem sc__law_near : FnScope ["_law_draw", "_law_person", "_law_some", "_law_tag", "_law_wants", "_law_rules", "_law_spot", "_law_way", "_law_word_here", "_law_sight", "_law_deed", "_law_checks"] ["_law_draw", "_law_person", "_law_some"] (defScope s__law_near) := ⟨rfl, rfl, rfl, by decide +kernel, rfl, by decide +kernel, by decide +kernel⟩
abbrev s_law : Stmt := topS 56
theorem sc_law : FnScope ["_law_script", "_law_draw", "_law_turn", "_law_pool", "_law_some", "_law_first", "_law_second", "_law_bend", "_law_both", "_law_unlike", "_law_seen", "_law_due", "_law_found"] ["_law_script"] (defScope s_law) := ⟨rfl, rfl, rfl, by decide +kernel, rfl, by decide +kernel, by decide +kernel⟩
abbrev s_Keeper_rules : Stmt := inClass (topS 35) 3
theorem sc_Keeper_rules : FnScope ["self"] ["self"] (defScope s_Keeper_rules) := ⟨rfl, rfl, rfl, by decide +kernel, rfl, by decide +kernel, by decide +kernel⟩
structure Top (K : PySem.W.Frag) (mg : Str → Option Value) where
  ca : Ca
  g_Keeper : mg "Keeper" = some (.ref ca.Keeper)
  cl_Keeper : Cls K ca.Keeper
  na_Keeper_own_name : NoAttr K ca.Keeper "own_name"
  na_Keeper_own_rules : NoAttr K ca.Keeper "own_rules"
  na_Keeper_own_wants : NoAttr K ca.Keeper "own_wants"
  f_is_list : Addr
  d_is_list : FuncData
  F_is_list : Fun K "is_list" "is_list" s_is_list f_is_list d_is_list
  g_is_list : mg "is_list" = some (.ref f_is_list)
  b_is_list : Binds K d_is_list ["value"] []
  f_is_word : Addr
  d_is_word : FuncData
  F_is_word : Fun K "is_word" "is_word" s_is_word f_is_word d_is_word
  g_is_word : mg "is_word" = some (.ref f_is_word)
  b_is_word : Binds K d_is_word ["value"] []
  f_thing_conditions : Addr
  d_thing_conditions : FuncData
  F_thing_conditions : Fun K "thing_conditions" "thing_conditions" s_thing_conditions f_thing_conditions d_thing_conditions
  g_thing_conditions : mg "thing_conditions" = some (.ref f_thing_conditions)
  b_thing_conditions : Binds K d_thing_conditions ["thing", "wants"] []
  f_own_conditions : Addr
  d_own_conditions : FuncData
  F_own_conditions : Fun K "own_conditions" "own_conditions" s_own_conditions f_own_conditions d_own_conditions
  g_own_conditions : mg "own_conditions" = some (.ref f_own_conditions)
  b_own_conditions : Binds K d_own_conditions ["thing", "own"] []
  f_held_for : Addr
  d_held_for : FuncData
  F_held_for : Fun K "held_for" "held_for" s_held_for f_held_for d_held_for
  g_held_for : mg "held_for" = some (.ref f_held_for)
  b_held_for : Binds K d_held_for ["view", "wants"] []
  f_things_of : Addr
  d_things_of : FuncData
  F_things_of : Fun K "things_of" "things_of" s_things_of f_things_of d_things_of
  g_things_of : mg "things_of" = some (.ref f_things_of)
  b_things_of : Binds K d_things_of ["words"] []
  f_views_of : Addr
  d_views_of : FuncData
  F_views_of : Fun K "views_of" "views_of" s_views_of f_views_of d_views_of
  g_views_of : mg "views_of" = some (.ref f_views_of)
  b_views_of : Binds K d_views_of ["words"] []
  f_are_different : Addr
  d_are_different : FuncData
  F_are_different : Fun K "are_different" "are_different" s_are_different f_are_different d_are_different
  g_are_different : mg "are_different" = some (.ref f_are_different)
  b_are_different : Binds K d_are_different ["things", "some"] []
  f_is_deed : Addr
  d_is_deed : FuncData
  F_is_deed : Fun K "is_deed" "is_deed" s_is_deed f_is_deed d_is_deed
  g_is_deed : mg "is_deed" = some (.ref f_is_deed)
  b_is_deed : Binds K d_is_deed ["value"] []
  f_is_rule : Addr
  d_is_rule : FuncData
  F_is_rule : Fun K "is_rule" "is_rule" s_is_rule f_is_rule d_is_rule
  g_is_rule : mg "is_rule" = some (.ref f_is_rule)
  b_is_rule : Binds K d_is_rule ["value"] []
  f_are_wants : Addr
  d_are_wants : FuncData
  F_are_wants : Fun K "are_wants" "are_wants" s_are_wants f_are_wants d_are_wants
  g_are_wants : mg "are_wants" = some (.ref f_are_wants)
  b_are_wants : Binds K d_are_wants ["value"] []
  f_Keeper___init__ : Addr
  d_Keeper___init__ : FuncData
  F_Keeper___init__ : Fun K "__init__" "Keeper.__init__" s_Keeper___init__ f_Keeper___init__ d_Keeper___init__
  b_Keeper___init__ : Binds K d_Keeper___init__ ["self", "name", "wants", "rules"] []
  mk_Keeper : Mk K ca.Keeper f_Keeper___init__
  f_Keeper_decided : Addr
  d_Keeper_decided : FuncData
  F_Keeper_decided : Fun K "decided" "Keeper.decided" s_Keeper_decided f_Keeper_decided d_Keeper_decided
  b_Keeper_decided : Binds K d_Keeper_decided ["self", "view"] []
  me_Keeper_decided : Meth K ca.Keeper "decided" f_Keeper_decided
  f_need_words : Addr
  d_need_words : FuncData
  F_need_words : Fun K "need_words" "need_words" s_need_words f_need_words d_need_words
  g_need_words : mg "need_words" = some (.ref f_need_words)
  b_need_words : Binds K d_need_words ["words"] []
  f_all_views : Addr
  d_all_views : FuncData
  F_all_views : Fun K "all_views" "all_views" s_all_views f_all_views d_all_views
  g_all_views : mg "all_views" = some (.ref f_all_views)
  b_all_views : Binds K d_all_views ["words"] []
  f_choice : Addr
  d_choice : FuncData
  F_choice : Fun K "choice" "choice" s_choice f_choice d_choice
  g_choice : mg "choice" = some (.ref f_choice)
  b_choice : Binds K d_choice ["keeper", "view"] []
  f_parted : Addr
  d_parted : FuncData
  F_parted : Fun K "parted" "parted" s_parted f_parted d_parted
  g_parted : mg "parted" = some (.ref f_parted)
  b_parted : Binds K d_parted ["one", "other", "words"] []
  f__law_begun : Addr
  d__law_begun : FuncData
  F__law_begun : Fun K "_law_begun" "_law_begun" s__law_begun f__law_begun d__law_begun
  g__law_begun : mg "_law_begun" = some (.ref f__law_begun)
  b__law_begun : Binds K d__law_begun ["_law_script"] []
  f__law_mixed : Addr
  d__law_mixed : FuncData
  F__law_mixed : Fun K "_law_mixed" "_law_mixed" s__law_mixed f__law_mixed d__law_mixed
  g__law_mixed : mg "_law_mixed" = some (.ref f__law_mixed)
  b__law_mixed : Binds K d__law_mixed ["_law_draw"] []
  f__law_take : Addr
  d__law_take : FuncData
  F__law_take : Fun K "_law_take" "_law_take" s__law_take f__law_take d__law_take
  g__law_take : mg "_law_take" = some (.ref f__law_take)
  b__law_take : Binds K d__law_take ["_law_draw", "_law_many"] []
  f__law_pick : Addr
  d__law_pick : FuncData
  F__law_pick : Fun K "_law_pick" "_law_pick" s__law_pick f__law_pick d__law_pick
  g__law_pick : mg "_law_pick" = some (.ref f__law_pick)
  b__law_pick : Binds K d__law_pick ["_law_draw", "_law_some"] []
  f__law_word : Addr
  d__law_word : FuncData
  F__law_word : Fun K "_law_word" "_law_word" s__law_word f__law_word d__law_word
  g__law_word : mg "_law_word" = some (.ref f__law_word)
  b__law_word : Binds K d__law_word ["_law_draw"] []
  f__law_words : Addr
  d__law_words : FuncData
  F__law_words : Fun K "_law_words" "_law_words" s__law_words f__law_words d__law_words
  g__law_words : mg "_law_words" = some (.ref f__law_words)
  b__law_words : Binds K d__law_words ["_law_draw", "_law_many"] []
  f__law_known : Addr
  d__law_known : FuncData
  F__law_known : Fun K "_law_known" "_law_known" s__law_known f__law_known d__law_known
  g__law_known : mg "_law_known" = some (.ref f__law_known)
  b__law_known : Binds K d__law_known ["_law_seen", "_law_wants"] []
  f__law_decided : Addr
  d__law_decided : FuncData
  F__law_decided : Fun K "_law_decided" "_law_decided" s__law_decided f__law_decided d__law_decided
  g__law_decided : mg "_law_decided" = some (.ref f__law_decided)
  b__law_decided : Binds K d__law_decided ["_law_person", "_law_seen"] []
  f__law_all_views : Addr
  d__law_all_views : FuncData
  F__law_all_views : Fun K "_law_all_views" "_law_all_views" s__law_all_views f__law_all_views d__law_all_views
  g__law_all_views : mg "_law_all_views" = some (.ref f__law_all_views)
  b__law_all_views : Binds K d__law_all_views ["_law_some"] []
  f__law_choice : Addr
  d__law_choice : FuncData
  F__law_choice : Fun K "_law_choice" "_law_choice" s__law_choice f__law_choice d__law_choice
  g__law_choice : mg "_law_choice" = some (.ref f__law_choice)
  b__law_choice : Binds K d__law_choice ["_law_person", "_law_seen"] []
  f__law_any_rule : Addr
  d__law_any_rule : FuncData
  F__law_any_rule : Fun K "_law_any_rule" "_law_any_rule" s__law_any_rule f__law_any_rule d__law_any_rule
  g__law_any_rule : mg "_law_any_rule" = some (.ref f__law_any_rule)
  b__law_any_rule : Binds K d__law_any_rule ["_law_draw", "_law_some"] []
  f__law_any_keeper : Addr
  d__law_any_keeper : FuncData
  F__law_any_keeper : Fun K "_law_any_keeper" "_law_any_keeper" s__law_any_keeper f__law_any_keeper d__law_any_keeper
  g__law_any_keeper : mg "_law_any_keeper" = some (.ref f__law_any_keeper)
  b__law_any_keeper : Binds K d__law_any_keeper ["_law_draw", "_law_tag", "_law_some"] []
  f__law_near : Addr
  d__law_near : FuncData
  F__law_near : Fun K "_law_near" "_law_near" s__law_near f__law_near d__law_near
  g__law_near : mg "_law_near" = some (.ref f__law_near)
  b__law_near : Binds K d__law_near ["_law_draw", "_law_person", "_law_some"] []
  f_law : Addr
  d_law : FuncData
  F_law : Fun K "law" "law" s_law f_law d_law
  g_law : mg "law" = some (.ref f_law)
  b_law : Binds K d_law ["_law_script"] []
  f_Keeper_rules : Addr
  d_Keeper_rules : FuncData
  F_Keeper_rules : Fun K "rules" "Keeper.rules" s_Keeper_rules f_Keeper_rules d_Keeper_rules
  b_Keeper_rules : Binds K d_Keeper_rules ["self"] []
  pa_Keeper_rules : Addr
  pr_Keeper_rules : PropOf K ca.Keeper "rules" pa_Keeper_rules f_Keeper_rules
  pb_Keeper_rules : Binds K d_Keeper_rules ["self"] []
  kw_parted_words_other_one : KBn K d_parted ["one", "other", "words"] 0 ["words", "other", "one"] (fun us ws => us ++ sel [2, 1, 0] ws) (fun us ws => us ++ sel [2, 1, 0] ws)
  t_LETTERS : Tok
  c_LETTERS : mg "LETTERS" = some (.str "abcdefghijklmnopqrstuvwxyz" t_LETTERS)
  t_LONGEST : Tok
  c_LONGEST : mg "LONGEST" = some (.int 8 t_LONGEST)
  t_TURN : Tok
  c_TURN : mg "TURN" = some (.str "turn" t_TURN)
  t_MOST_CONDITIONS : Tok
  c_MOST_CONDITIONS : mg "MOST_CONDITIONS" = some (.int 6 t_MOST_CONDITIONS)
  t_MOST_RULES : Tok
  c_MOST_RULES : mg "MOST_RULES" = some (.int 8 t_MOST_RULES)
  t_MOST_WANTS : Tok
  c_MOST_WANTS : mg "MOST_WANTS" = some (.int 3 t_MOST_WANTS)
  t_MOST_WORDS : Tok
  c_MOST_WORDS : mg "MOST_WORDS" = some (.int 3 t_MOST_WORDS)
  a_CONDITIONS : Addr
  c_CONDITIONS : mg "CONDITIONS" = some (.ref a_CONDITIONS)
  r_CONDITIONS : ∀ G, Rp K G (.ref a_CONDITIONS) (.tup [.str "alone", .str "bare", .str "child", .str "free", .str "going", .str "gone", .str "held", .str "others", .str "right", .str "strays", .str "there", .str "tidy", .str "unwanted", .str "wanted", .str "wrong"])
  a_PARTS : Addr
  c_PARTS : mg "PARTS" = some (.ref a_PARTS)
  r_PARTS : ∀ G, Rp K G (.ref a_PARTS) (.tup [.str "other", .str "own", .str "stray", .str "thing"])
  a_PLAIN_DEEDS : Addr
  c_PLAIN_DEEDS : mg "PLAIN_DEEDS" = some (.ref a_PLAIN_DEEDS)
  r_PLAIN_DEEDS : ∀ G, Rp K G (.ref a_PLAIN_DEEDS) (.tup [.str "clear", .str "correct", .str "hold", .str "make", .str "mark", .str "release", .str "strike"])
  m_abs : mg "abs" = none
  m_all : mg "all" = none
  m_bool : mg "bool" = none
  m_enumerate : mg "enumerate" = none
  m_int : mg "int" = none
  m_isinstance : mg "isinstance" = none
  m_len : mg "len" = none
  m_list : mg "list" = none
  m_min : mg "min" = none
  m_range : mg "range" = none
  m_repr : mg "repr" = none
  m_set : mg "set" = none
  m_sorted : mg "sorted" = none
  m_str : mg "str" = none
  m_tuple : mg "tuple" = none
section
variable {P : Program} {w : World} {K : PySem.W.Frag} {mg : Str → Option Value} {base : Heap}
theorem okG_Keeper_rules (T : Top K mg) : FnOk P w K mg base CX0 1 T.f_Keeper_rules T.d_Keeper_rules ["self"] (getSp T.ca.Keeper "own_rules") := getter_ok T.F_Keeper_rules sc_Keeper_rules T.cl_Keeper T.na_Keeper_own_rules
theorem ok_is_list (T : Top K mg) : FnOk P w K mg base CX0 1 T.f_is_list T.d_is_list ["value"] (toSp K 1 S_is_list) := by
  refine ok_tree T.F_is_list sc_is_list (fun cdv A outer s H E hr =>
    (ds_one (ds_ret (d_callB call_isi2 (c_isi _) (by rfl) T.m_isinstance bt_isinstance (d_cons (d_var 0) (d_cons (d_tup (d_cons (d_bltT (by rfl) T.m_list bt_list) (d_cons (d_bltT (by rfl) T.m_tuple bt_tuple) d_nil))) d_nil)))))) ?_
  exact k_is_list
theorem ok_is_word (T : Top K mg) : FnOk P w K mg base CX0 1 T.f_is_word T.d_is_word ["value"] (toSp K 1 S_is_word) := by
  refine ok_tree T.F_is_word sc_is_word (fun cdv A outer s H E hr =>
    (ds_cons (ds_if (PW.pt (d_orT (d_notT (d_tst (d_callB call_isi2 (c_isi _) (by rfl) T.m_isinstance bt_isinstance (d_cons (d_var 0) (d_cons (d_bltT (by rfl) T.m_str bt_str) d_nil))))) (d_or1T (d_notT (d_chainT op_le2 op_le2 (c_ord _) (c_ord _) d_int (d_callB call_len2 (c_len _) (by rfl) T.m_len bt_len (d_cons (d_var 0) d_nil)) (d_glob (v := (.int 8)) (d := (.int 8)) (by rfl) T.c_LONGEST ⟨_, rfl⟩ (fun _ => .int _))))))) (ds_one (ds_ret d_bl)) ds_nil)
      (ds_one (ds_ret (d_callB (cr_all rfl) (c_all _) (by rfl) T.m_all bt_all (d_cons (d_lc rfl sc_is_word.nd (di_str (d_var 0)) (blkOk_by (N := ["value", "letter"]) (sc := defScope s_is_word) (own := [("letter", 1)]) (by decide +kernel)) (fun _ _ _ _ _ => (dg_name 1 sc_is_word.nd)) (fun _ _ _ _ _ => dts_nil) (fun _ _ _ _ _ => (d_cmp op_in2 (c_in _) (d_var 1) (d_glob (v := (.str "abcdefghijklmnopqrstuvwxyz")) (d := (.str "abcdefghijklmnopqrstuvwxyz")) (by rfl) T.c_LETTERS ⟨_, rfl⟩ (fun _ => .str _)) rfl))) d_nil)))))) ?_
  exact k_is_word
theorem ok_thing_conditions (T : Top K mg) : FnOk P w K mg base CX0 1 T.f_thing_conditions T.d_thing_conditions ["thing", "wants"] (toSp K 2 S_thing_conditions) := by
  refine ok_tree T.F_thing_conditions sc_thing_conditions (fun cdv A outer s H E hr =>
    (ds_cons (ds_if (d_cmpT (op_eq3 hr.units) (c_eq _) (d_var 0) (d_tup d_nil) (nomark _)) (ds_one (ds_ret (d_lst (d_cons d_str d_nil)))) ds_nil)
      (ds_cons (ds_asg (d_frz (d_var 0)) (dg_tup (n := 3) rfl (dg_cons (dg_name 2 sc_thing_conditions.nd) (dg_cons (dg_name 3 sc_thing_conditions.nd) (dg_cons (dg_name 4 sc_thing_conditions.nd) dg_nil)))))
      (ds_cons (ds_set 5 sc_thing_conditions.nd (d_lst (d_cons (d_ife (d_tst (d_var 3)) d_str d_str) (d_cons (d_ife (d_tst (d_var 4)) d_str d_str) d_nil))))
      (ds_one (ds_ret (d_bin op_add4 (c_add _) (d_var 5) (d_lst (d_cons (d_ife (d_cmpT op_in2 (c_in _) (d_var 2) (d_var 1) rfl) d_str d_str) d_nil))))))))) ?_
  exact k_thing_conditions
theorem ok_own_conditions (T : Top K mg) : FnOk P w K mg base CX0 1 T.f_own_conditions T.d_own_conditions ["thing", "own"] (toSp K 2 S_own_conditions) := by
  refine ok_tree T.F_own_conditions sc_own_conditions (fun cdv A outer s H E hr =>
    (ds_cons (ds_if (d_cmpT (op_eq3 hr.units) (c_eq _) (d_var 1) (d_tup d_nil) (nomark _)) (ds_one (ds_ret (d_lst (d_cons d_str d_nil)))) ds_nil)
      (ds_one (ds_ret (d_lst (d_cons d_str (d_cons (d_ife (PW.pt (d_andT (d_cmpT (op_ne3 hr.units) (c_ne _) (d_var 0) (d_tup d_nil) (nomark _)) (d_and1T (d_cmpT (op_eq3 hr.units) (c_eq _) (d_ix (d_var 1) d_int) (d_ix (d_var 0) d_int) (nomark _))))) d_str d_str) d_nil))))))) ?_
  exact k_own_conditions
theorem ok_held_for (T : Top K mg) : FnOk P w K mg base CX0 2 T.f_held_for T.d_held_for ["view", "wants"] (toSp K 2 S_held_for) := by
  refine ok_tree T.F_held_for sc_held_for (fun cdv A outer s H E hr =>
    (ds_cons (ds_asg (d_frz (d_var 0)) (dg_tup (n := 4) rfl (dg_cons (dg_name 2 sc_held_for.nd) (dg_cons (dg_name 3 sc_held_for.nd) (dg_cons (dg_name 4 sc_held_for.nd) (dg_cons (dg_name 5 sc_held_for.nd) dg_nil))))))
      (ds_cons (ds_set 6 sc_held_for.nd (d_bin op_add4 (c_add _) (d_call ((ok_thing_conditions T).mono (by decide)) hr (by rfl) T.g_thing_conditions T.F_thing_conditions.kp T.b_thing_conditions pass0 (d_cons (d_frz (d_var 2)) (d_cons (d_frz (d_var 1)) d_nil))) (d_call ((ok_own_conditions T).mono (by decide)) hr (by rfl) T.g_own_conditions T.F_own_conditions.kp T.b_own_conditions pass0 (d_cons (d_frz (d_var 2)) (d_cons (d_frz (d_var 3)) d_nil)))))
      (ds_cons (ds_set 6 sc_held_for.nd (d_bin op_add4 (c_add _) (d_var 6) (d_lst (d_cons (d_ife (d_tst (d_var 4)) d_str d_str) (d_cons (d_ife (d_cmpT (op_eq3 hr.units) (c_eq _) (d_var 5) d_int (nomark _)) d_str d_str) d_nil)))))
      (ds_one (ds_ret (d_callB cr_sorted2 (c_sorted2 _) (by rfl) T.m_sorted bt_sorted (d_cons (d_var 6) d_nil)))))))) ?_
  exact k_held_for
theorem ok_things_of (T : Top K mg) : FnOk P w K mg base CX0 1 T.f_things_of T.d_things_of ["words"] (toSp K 1 S_things_of) := by
  refine ok_tree T.F_things_of sc_things_of (fun cdv A outer s H E hr =>
    (ds_one (ds_ret (d_bin op_add4 (c_add _) (d_lst (d_cons (d_tup d_nil) d_nil)) (d_lcN rfl sc_things_of.nd (di_seq (d_frz (d_var 0))) (blkOk_by (N := ["words", "word", "is_going", "is_held"]) (sc := defScope s_things_of) (own := [("word", 1), ("is_going", 2), ("is_held", 3)]) (by decide +kernel)) (fun env => loop_out turn_out3_0 (fun _ => rfl)) (fun _ _ _ _ _ => (dg_name 1 sc_things_of.nd)) (fun _ _ _ _ _ => dts_nil) (fun _ _ _ _ _ => (db_for (vs := [2, 3]) rfl rfl (loop_out turn_out3_1 (fun _ => rfl)) rfl (di_seq (d_tup (d_cons d_bl (d_cons d_bl d_nil)))) (dg_name 2 sc_things_of.nd) dts_nil (db_for (vs := [3]) rfl rfl (loop_in turn_in3) rfl (di_seq (d_tup (d_cons d_bl (d_cons d_bl d_nil)))) (dg_name 3 sc_things_of.nd) dts_nil (db_last rfl (d_tup (d_cons (d_frz (d_var 1)) (d_cons (d_frz (d_var 2)) (d_cons (d_frz (d_var 3)) d_nil))))) (by decide) (by decide)) (by decide) (by decide)))))))) ?_
  exact k_things_of
theorem ok_views_of (T : Top K mg) : FnOk P w K mg base CX0 2 T.f_views_of T.d_views_of ["words"] (toSp K 1 S_views_of) := by
  refine ok_tree T.F_views_of sc_views_of (fun cdv A outer s H E hr =>
    (ds_cons (ds_set 1 sc_views_of.nd (d_bin op_add4 (c_add _) (d_lst (d_cons (d_tup d_nil) d_nil)) (d_lc rfl sc_views_of.nd (di_seq (d_frz (d_var 0))) (blkOk_by (N := ["words", "owns", "word", "thing", "own", "other", "stray"]) (sc := defScope s_views_of) (own := [("word", 2)]) (by decide +kernel)) (fun _ _ _ _ _ => (dg_name 2 sc_views_of.nd)) (fun _ _ _ _ _ => dts_nil) (fun _ _ _ _ _ => (d_tup (d_cons d_int (d_cons (d_frz (d_var 2)) d_nil)))))))
      (ds_one (ds_ret (d_lcN rfl sc_views_of.nd (di_seq (d_call ((ok_things_of T).mono (by decide)) hr (by rfl) T.g_things_of T.F_things_of.kp T.b_things_of pass0 (d_cons (d_frz (d_var 0)) d_nil))) (blkOk_by (N := ["words", "owns", "word", "thing", "own", "other", "stray"]) (sc := defScope s_views_of) (own := [("thing", 3), ("own", 4), ("other", 5), ("stray", 6)]) (by decide +kernel)) (fun env => loop_out turn_out4_0 (fun _ => rfl)) (fun _ _ _ _ _ => (dg_name 3 sc_views_of.nd)) (fun _ _ _ _ _ => dts_nil) (fun _ _ _ _ _ => (db_for (vs := [4, 5, 6]) rfl rfl (loop_out turn_out4_1 (fun _ => rfl)) rfl (di_seq (d_frz (d_var 1))) (dg_name 4 sc_views_of.nd) dts_nil (db_for (vs := [5, 6]) rfl rfl (loop_out turn_out4_2 (fun _ => rfl)) rfl (di_seq (d_tup (d_cons d_bl (d_cons d_bl d_nil)))) (dg_name 5 sc_views_of.nd) dts_nil (db_for (vs := [6]) rfl rfl (loop_in turn_in4) rfl (di_seq (d_tup (d_cons d_int (d_cons d_int d_nil)))) (dg_name 6 sc_views_of.nd) dts_nil (db_last rfl (d_tup (d_cons (d_frz (d_var 3)) (d_cons (d_frz (d_var 4)) (d_cons (d_frz (d_var 5)) (d_cons (d_frz (d_var 6)) d_nil)))))) (by decide) (by decide)) (by decide) (by decide)) (by decide) (by decide)))))))) ?_
  exact k_views_of
theorem ok_are_different (T : Top K mg) : FnOk P w K mg base CX0 1 T.f_are_different T.d_are_different ["things", "some"] (toSp K 2 S_are_different) := by
  refine ok_tree T.F_are_different sc_are_different (fun cdv A outer s H E hr =>
    (ds_cons (ds_if (PW.pt (d_orT (d_notT (d_tst (d_callB call_isi2 (c_isi _) (by rfl) T.m_isinstance bt_isinstance (d_cons (d_var 0) (d_cons (d_bltT (by rfl) T.m_tuple bt_tuple) d_nil))))) (d_or1T (d_notT (d_tst (d_callB (cr_all rfl) (c_all _) (by rfl) T.m_all bt_all (d_cons (d_lc rfl sc_are_different.nd (di_seq (d_frz (d_var 0))) (blkOk_by (N := ["things", "some", "one"]) (sc := defScope s_are_different) (own := [("one", 2)]) (by decide +kernel)) (fun _ _ _ _ _ => (dg_name 2 sc_are_different.nd)) (fun _ _ _ _ _ => dts_nil) (fun _ _ _ _ _ => (d_and (d_callB call_isi2 (c_isi _) (by rfl) T.m_isinstance bt_isinstance (d_cons (d_var 2) (d_cons (d_bltT (by rfl) T.m_str bt_str) d_nil))) (d_one (d_cmp op_in2 (c_in _) (d_var 2) (d_var 1) rfl))))) d_nil))))))) (ds_one (ds_ret d_bl)) ds_nil)
      (ds_one (ds_ret (d_cmp (op_eq3 hr.units) (c_eq _) (d_lenSet rfl (by rfl) T.m_len (by rfl) T.m_set (d_var 0)) (d_callB call_len2 (c_len _) (by rfl) T.m_len bt_len (d_cons (d_var 0) d_nil)) (nomark _)))))) ?_
  exact k_are_different
theorem ok_is_deed (T : Top K mg) : FnOk P w K mg base CX0 2 T.f_is_deed T.d_is_deed ["value"] (toSp K 1 S_is_deed) := by
  refine ok_tree T.F_is_deed sc_is_deed (fun cdv A outer s H E hr =>
    (ds_cons (ds_if (PW.pt (d_orT (d_notT (d_tst (d_callB call_isi2 (c_isi _) (by rfl) T.m_isinstance bt_isinstance (d_cons (d_var 0) (d_cons (d_bltT (by rfl) T.m_tuple bt_tuple) d_nil))))) (d_orT (d_cmpT (op_eq3 hr.units) (c_eq _) (d_var 0) (d_tup d_nil) (nomark _)) (d_or1T (d_notT (d_tst (d_callB call_isi2 (c_isi _) (by rfl) T.m_isinstance bt_isinstance (d_cons (d_ix (d_var 0) d_int) (d_cons (d_bltT (by rfl) T.m_str bt_str) d_nil))))))))) (ds_one (ds_ret d_bl)) ds_nil)
      (ds_cons (ds_if (d_cmpT (op_eq3 hr.units) (c_eq _) (d_ix (d_var 0) d_int) (d_glob (v := (.str "turn")) (d := (.str "turn")) (by rfl) T.c_TURN ⟨_, rfl⟩ (fun _ => .str _)) (nomark _)) (ds_one (ds_ret (d_and (d_cmp (op_eq3 hr.units) (c_eq _) (d_callB call_len2 (c_len _) (by rfl) T.m_len bt_len (d_cons (d_var 0) d_nil)) d_int (nomark _)) (d_one (d_call ((ok_is_word T).mono (by decide)) hr (by rfl) T.g_is_word T.F_is_word.kp T.b_is_word pass0 (d_cons (d_ix (d_var 0) d_int) d_nil)))))) ds_nil)
      (ds_one (ds_ret (d_and (d_cmp (op_eq3 hr.units) (c_eq _) (d_callB call_len2 (c_len _) (by rfl) T.m_len bt_len (d_cons (d_var 0) d_nil)) d_int (nomark _)) (d_one (d_cmp op_in2 (c_in _) (d_ix (d_var 0) d_int) (d_glob (v := .ref T.a_PLAIN_DEEDS) (d := (.tup [.str "clear", .str "correct", .str "hold", .str "make", .str "mark", .str "release", .str "strike"])) (by rfl) T.c_PLAIN_DEEDS rfl T.r_PLAIN_DEEDS) rfl)))))))) ?_
  exact k_is_deed
theorem ok_is_rule (T : Top K mg) : FnOk P w K mg base CX0 3 T.f_is_rule T.d_is_rule ["value"] (toSp K 1 S_is_rule) := by
  refine ok_tree T.F_is_rule sc_is_rule (fun cdv A outer s H E hr =>
    (ds_cons (ds_if (PW.pt (d_orT (d_notT (d_tst (d_callB call_isi2 (c_isi _) (by rfl) T.m_isinstance bt_isinstance (d_cons (d_var 0) (d_cons (d_bltT (by rfl) T.m_tuple bt_tuple) d_nil))))) (d_or1T (d_cmpT (op_ne3 hr.units) (c_ne _) (d_callB call_len2 (c_len _) (by rfl) T.m_len bt_len (d_cons (d_var 0) d_nil)) d_int (nomark _))))) (ds_one (ds_ret d_bl)) ds_nil)
      (ds_cons (ds_asg (d_frz (d_var 0)) (dg_tup (n := 3) rfl (dg_cons (dg_name 1 sc_is_rule.nd) (dg_cons (dg_name 2 sc_is_rule.nd) (dg_cons (dg_name 3 sc_is_rule.nd) dg_nil)))))
      (ds_one (ds_ret (d_and (d_call ((ok_are_different T).mono (by decide)) hr (by rfl) T.g_are_different T.F_are_different.kp T.b_are_different pass0 (d_cons (d_frz (d_var 1)) (d_cons (d_glob (v := .ref T.a_CONDITIONS) (d := (.tup [.str "alone", .str "bare", .str "child", .str "free", .str "going", .str "gone", .str "held", .str "others", .str "right", .str "strays", .str "there", .str "tidy", .str "unwanted", .str "wanted", .str "wrong"])) (by rfl) T.c_CONDITIONS rfl T.r_CONDITIONS) d_nil))) (d_and (d_cmp op_le2 (c_ord _) (d_callB call_len2 (c_len _) (by rfl) T.m_len bt_len (d_cons (d_var 1) d_nil)) (d_glob (v := (.int 6)) (d := (.int 6)) (by rfl) T.c_MOST_CONDITIONS ⟨_, rfl⟩ (fun _ => .int _)) (nomark _)) (d_and (d_call ((ok_is_deed T).mono (by decide)) hr (by rfl) T.g_is_deed T.F_is_deed.kp T.b_is_deed pass0 (d_cons (d_frz (d_var 2)) d_nil)) (d_one (d_call ((ok_are_different T).mono (by decide)) hr (by rfl) T.g_are_different T.F_are_different.kp T.b_are_different pass0 (d_cons (d_frz (d_var 3)) (d_cons (d_glob (v := .ref T.a_PARTS) (d := (.tup [.str "other", .str "own", .str "stray", .str "thing"])) (by rfl) T.c_PARTS rfl T.r_PARTS) d_nil)))))))))))) ?_
  exact k_is_rule
theorem ok_are_wants (T : Top K mg) : FnOk P w K mg base CX0 2 T.f_are_wants T.d_are_wants ["value"] (toSp K 1 S_are_wants) := by
  refine ok_tree T.F_are_wants sc_are_wants (fun cdv A outer s H E hr =>
    (ds_cons (ds_if (PW.pt (d_orT (d_notT (d_tst (d_call ((ok_is_list T).mono (by decide)) hr (by rfl) T.g_is_list T.F_is_list.kp T.b_is_list pass0 (d_cons (d_frz (d_var 0)) d_nil)))) (d_orT (d_cmpT op_gt2 (c_ord _) (d_callB call_len2 (c_len _) (by rfl) T.m_len bt_len (d_cons (d_var 0) d_nil)) (d_glob (v := (.int 3)) (d := (.int 3)) (by rfl) T.c_MOST_WANTS ⟨_, rfl⟩ (fun _ => .int _)) (nomark _)) (d_or1T (d_notT (d_tst (d_callB (cr_all rfl) (c_all _) (by rfl) T.m_all bt_all (d_cons (d_lc rfl sc_are_wants.nd (di_seq (d_frz (d_var 0))) (blkOk_by (N := ["value", "word"]) (sc := defScope s_are_wants) (own := [("word", 1)]) (by decide +kernel)) (fun _ _ _ _ _ => (dg_name 1 sc_are_wants.nd)) (fun _ _ _ _ _ => dts_nil) (fun _ _ _ _ _ => (d_call ((ok_is_word T).mono (by decide)) hr (by rfl) T.g_is_word T.F_is_word.kp T.b_is_word pass0 (d_cons (d_frz (d_var 1)) d_nil)))) d_nil)))))))) (ds_one (ds_ret d_bl)) ds_nil)
      (ds_one (ds_ret (d_cmp (op_eq3 hr.units) (c_eq _) (d_lenSet2 rfl (by rfl) T.m_len (by rfl) T.m_set (d_var 0)) (d_callB call_len2 (c_len _) (by rfl) T.m_len bt_len (d_cons (d_var 0) d_nil)) (nomark _)))))) ?_
  exact k_are_wants
theorem ok_Keeper___init__ (T : Top K mg) : FnOk P w K mg base CX0 4 T.f_Keeper___init__ T.d_Keeper___init__ ["self", "name", "wants", "rules"] (toSp K 4 (S_Keeper___init__ T.ca)) := by
  refine ok_tree T.F_Keeper___init__ sc_Keeper___init__ (fun cdv A outer s H E hr =>
    (ds_cons (ds_if (d_notT (d_tst (d_call ((ok_is_word T).mono (by decide)) hr (by rfl) T.g_is_word T.F_is_word.kp T.b_is_word pass0 (d_cons (d_frz (d_var 1)) d_nil)))) (ds_one ds_never) ds_nil)
      (ds_cons (ds_if (d_notT (d_tst (d_call ((ok_are_wants T).mono (by decide)) hr (by rfl) T.g_are_wants T.F_are_wants.kp T.b_are_wants pass0 (d_cons (d_frz (d_var 2)) d_nil)))) (ds_one ds_never) ds_nil)
      (ds_cons (ds_if (PW.pt (d_orT (d_notT (d_tst (d_call ((ok_is_list T).mono (by decide)) hr (by rfl) T.g_is_list T.F_is_list.kp T.b_is_list pass0 (d_cons (d_frz (d_var 3)) d_nil)))) (d_or1T (d_cmpT op_gt2 (c_ord _) (d_callB call_len2 (c_len _) (by rfl) T.m_len bt_len (d_cons (d_var 3) d_nil)) (d_glob (v := (.int 8)) (d := (.int 8)) (by rfl) T.c_MOST_RULES ⟨_, rfl⟩ (fun _ => .int _)) (nomark _))))) (ds_one ds_never) ds_nil)
      (ds_cons (ds_for PassesOwn.never rfl (di_enum (by rfl) T.m_enumerate (d_cons (d_frz (d_var 3)) d_nil)) (dg_tup (n := 2) rfl (dg_cons (dg_name 4 sc_Keeper___init__.nd) (dg_cons (dg_name 5 sc_Keeper___init__.nd) dg_nil))) (ds_one (ds_if (d_notT (d_tst (d_call ((ok_is_rule T).mono (by decide)) hr (by rfl) T.g_is_rule T.F_is_rule.kp T.b_is_rule pass0 (d_cons (d_frz (d_var 5)) d_nil)))) (ds_one ds_never) ds_nil)))
      (ds_cons (ds_fld 0 T.cl_Keeper T.na_Keeper_own_name (d_frz (d_var 1)))
      (ds_cons (ds_fld 0 T.cl_Keeper T.na_Keeper_own_wants (d_callT call_tuple_of (c_tuple _) (by rfl) T.m_tuple bt_tuple (d_cons (d_callB cr_sorted2 (c_sorted2 _) (by rfl) T.m_sorted bt_sorted (d_cons (d_var 2) d_nil)) d_nil)))
      (ds_one (ds_fld 0 T.cl_Keeper T.na_Keeper_own_rules (d_callT call_tuple_of (c_tuple _) (by rfl) T.m_tuple bt_tuple (d_cons (d_lc rfl sc_Keeper___init__.nd (di_seq (d_frz (d_var 3))) (blkOk_by (N := ["self", "name", "wants", "rules", "at", "rule", "sight", "deed", "checks"]) (sc := defScope s_Keeper___init__) (own := [("sight", 6), ("deed", 7), ("checks", 8)]) (by decide +kernel)) (fun _ _ _ _ _ => (dg_tup (n := 3) rfl (dg_cons (dg_name 6 sc_Keeper___init__.nd) (dg_cons (dg_name 7 sc_Keeper___init__.nd) (dg_cons (dg_name 8 sc_Keeper___init__.nd) dg_nil))))) (fun _ _ _ _ _ => dts_nil) (fun _ _ _ _ _ => (d_tup (d_cons (d_callT call_tuple_of (c_tuple _) (by rfl) T.m_tuple bt_tuple (d_cons (d_callB cr_sorted2 (c_sorted2 _) (by rfl) T.m_sorted bt_sorted (d_cons (d_var 6) d_nil)) d_nil)) (d_cons (d_frz (d_var 7)) (d_cons (d_callT call_tuple_of (c_tuple _) (by rfl) T.m_tuple bt_tuple (d_cons (d_callB cr_sorted2 (c_sorted2 _) (by rfl) T.m_sorted bt_sorted (d_cons (d_var 8) d_nil)) d_nil)) d_nil)))))) d_nil))))))))))) ?_
  exact k_Keeper___init__ T.ca
theorem ok_Keeper_decided (T : Top K mg) : FnOk P w K mg base CX0 3 T.f_Keeper_decided T.d_Keeper_decided ["self", "view"] (toSp K 2 (S_Keeper_decided T.ca)) := by
  refine ok_tree T.F_Keeper_decided sc_Keeper_decided (fun cdv A outer s H E hr =>
    (ds_cons (ds_set 2 sc_Keeper_decided.nd (d_frz (d_call ((ok_held_for T).mono (by decide)) hr (by rfl) T.g_held_for T.F_held_for.kp T.b_held_for pass0 (d_cons (d_frz (d_var 1)) (d_cons (d_fld T.cl_Keeper T.na_Keeper_own_wants (d_var 0)) d_nil)))))
      (ds_cons (ds_for PassesOwn.never rfl (di_enum (by rfl) T.m_enumerate (d_cons (d_fld T.cl_Keeper T.na_Keeper_own_rules (d_var 0)) d_nil)) (dg_tup (n := 2) rfl (dg_cons (dg_name 3 sc_Keeper_decided.nd) (dg_cons (dg_name 4 sc_Keeper_decided.nd) dg_nil))) (ds_one (ds_if (d_tst (d_callB (cr_all rfl) (c_all _) (by rfl) T.m_all bt_all (d_cons (d_lc rfl sc_Keeper_decided.nd (di_seq (d_ix (d_var 4) d_int)) (blkOk_by (N := ["self", "view", "known", "at", "rule", "condition"]) (sc := defScope s_Keeper_decided) (own := [("condition", 5)]) (by decide +kernel)) (fun _ _ _ _ _ => (dg_name 5 sc_Keeper_decided.nd)) (fun _ _ _ _ _ => dts_nil) (fun _ _ _ _ _ => (d_cmp op_in2 (c_in _) (d_var 5) (d_var 2) rfl))) d_nil))) (ds_one (ds_ret (d_var 3))) ds_nil)))
      (ds_one (ds_ret d_non))))) ?_
  exact k_Keeper_decided T.ca
theorem ok_need_words (T : Top K mg) : FnOk P w K mg base CX0 2 T.f_need_words T.d_need_words ["words"] (toSp K 1 S_need_words) := by
  refine ok_tree T.F_need_words sc_need_words (fun cdv A outer s H E hr =>
    (ds_cons (ds_if (PW.pt (d_orT (d_notT (d_tst (d_call ((ok_is_list T).mono (by decide)) hr (by rfl) T.g_is_list T.F_is_list.kp T.b_is_list pass0 (d_cons (d_frz (d_var 0)) d_nil)))) (d_or1T (d_notT (d_chainT op_le2 op_le2 (c_ord _) (c_ord _) d_int (d_callB call_len2 (c_len _) (by rfl) T.m_len bt_len (d_cons (d_var 0) d_nil)) (d_glob (v := (.int 3)) (d := (.int 3)) (by rfl) T.c_MOST_WORDS ⟨_, rfl⟩ (fun _ => .int _))))))) (ds_one ds_never) ds_nil)
      (ds_one (ds_for PassesOwn.never rfl (di_enum (by rfl) T.m_enumerate (d_cons (d_frz (d_var 0)) d_nil)) (dg_tup (n := 2) rfl (dg_cons (dg_name 1 sc_need_words.nd) (dg_cons (dg_name 2 sc_need_words.nd) dg_nil))) (ds_one (ds_if (PW.pt (d_orT (d_notT (d_tst (d_call ((ok_is_word T).mono (by decide)) hr (by rfl) T.g_is_word T.F_is_word.kp T.b_is_word pass0 (d_cons (d_frz (d_var 2)) d_nil)))) (d_or1T (d_cmpT op_in2 (c_in _) (d_var 2) (d_slice (d_var 0) d_nop (d_part (d_var 1))) rfl)))) (ds_one ds_never) ds_nil)))))) ?_
  exact k_need_words
theorem ok_all_views (T : Top K mg) : FnOk P w K mg base CX0 3 T.f_all_views T.d_all_views ["words"] (toSp K 1 S_all_views) := by
  refine ok_tree T.F_all_views sc_all_views (fun cdv A outer s H E hr =>
    (ds_cons (ds_expr (d_call ((ok_need_words T).mono (by decide)) hr (by rfl) T.g_need_words T.F_need_words.kp T.b_need_words pass0 (d_cons (d_frz (d_var 0)) d_nil)))
      (ds_one (ds_ret (d_call ((ok_views_of T).mono (by decide)) hr (by rfl) T.g_views_of T.F_views_of.kp T.b_views_of pass0 (d_cons (d_callB cr_sorted2 (c_sorted2 _) (by rfl) T.m_sorted bt_sorted (d_cons (d_var 0) d_nil)) d_nil)))))) ?_
  exact k_all_views
theorem ok_choice (T : Top K mg) : FnOk P w K mg base CX0 4 T.f_choice T.d_choice ["keeper", "view"] (toSp K 2 (S_choice T.ca)) := by
  refine ok_tree T.F_choice sc_choice (fun cdv A outer s H E hr =>
    (ds_cons (ds_set 2 sc_choice.nd (d_ometh (d_var 0) T.cl_Keeper T.me_Keeper_decided ((ok_Keeper_decided T).mono (by decide)) hr T.b_Keeper_decided pass0 (d_cons (d_frz (d_var 1)) d_nil)))
      (ds_one (ds_ret (d_ife (d_cmpT op_isN (c_isN _) (d_var 2) d_non (nomark _)) d_non (d_slice (d_ix (d_prop T.cl_Keeper T.pr_Keeper_rules (okG_Keeper_rules T) (hr.mono (by decide)) T.pb_Keeper_rules pass0 (d_var 0)) (d_var 2)) (d_part d_int) d_nop)))))) ?_
  exact k_choice T.ca
theorem ok_parted (T : Top K mg) : FnOk P w K mg base CX0 5 T.f_parted T.d_parted ["one", "other", "words"] (toSp K 3 (S_parted T.ca)) := by
  refine ok_tree T.F_parted sc_parted (fun cdv A outer s H E hr =>
    (ds_cons (ds_for PassesOwn.never rfl (di_seq (d_call ((ok_all_views T).mono (by decide)) hr (by rfl) T.g_all_views T.F_all_views.kp T.b_all_views pass0 (d_cons (d_frz (d_var 2)) d_nil))) (dg_name 3 sc_parted.nd) (ds_one (ds_if (d_cmpT (op_ne3 hr.units) (c_ne _) (d_call ((ok_choice T).mono (by decide)) hr (by rfl) T.g_choice T.F_choice.kp T.b_choice pass0 (d_cons (d_frz (d_var 0)) (d_cons (d_frz (d_var 3)) d_nil))) (d_call ((ok_choice T).mono (by decide)) hr (by rfl) T.g_choice T.F_choice.kp T.b_choice pass0 (d_cons (d_frz (d_var 1)) (d_cons (d_frz (d_var 3)) d_nil))) (nomark _)) (ds_one (ds_ret (d_var 3))) ds_nil)))
      (ds_one (ds_ret d_non)))) ?_
  exact k_parted T.ca
theorem ok__law_begun (T : Top K mg) : FnOk P w K mg base CX0 1 T.f__law_begun T.d__law_begun ["_law_script"] (toSp K 1 S__law_begun) := by
  refine ok_tree T.F__law_begun sc__law_begun (fun cdv A outer s H E hr =>
    (ds_cons (ds_setLc 1 rfl sc__law_begun.nd (di_seq (d_frz (d_var 0))) (blkOk_by (N := ["_law_script", "_law_cells", "_law_cell"]) (sc := defScope s__law_begun) (own := [("_law_cell", 2)]) (by decide +kernel)) (fun _ _ _ _ _ => (dg_name 2 sc__law_begun.nd)) (fun _ _ _ _ _ => dts_nil) (fun _ _ _ _ _ => (d_callB call_abs (c_abs _) (by rfl) T.m_abs bt_abs (d_cons (d_var 2) d_nil))) (by rfl))
      (ds_one (ds_ret (d_sgNew 1 (d_lc rfl sc__law_begun.nd (di_seq (d_frz (d_var 1))) (blkOk_by (N := ["_law_script", "_law_cells", "_law_cell"]) (sc := defScope s__law_begun) (own := [("_law_cell", 2)]) (by decide +kernel)) (fun _ _ _ _ _ => (dg_name 2 sc__law_begun.nd)) (fun _ _ _ _ _ => (dts_one (d_cmpT op_ge2 (c_ord _) (d_var 2) (d_bin op_pow (c_pow _) d_int d_int) (nomark _)))) (fun _ _ _ _ _ => (d_bin op_sub (c_sub _) (d_var 2) (d_bin op_pow (c_pow _) d_int d_int))))))))) ?_
  exact k__law_begun
theorem ok__law_mixed (T : Top K mg) : FnOk P w K mg base CX0 1 T.f__law_mixed T.d__law_mixed ["_law_draw"] (toSp K 1 S__law_mixed) := by
  refine ok_tree T.F__law_mixed sc__law_mixed (fun cdv A outer s H E hr =>
    (ds_cons (ds_set 1 sc__law_mixed.nd (d_bin op_add4 (c_add _) (d_sgTurn 0 (hu_of hr)) d_int))
      (ds_cons (ds_sgTurn 0 (hu_of hr) (d_var 1))
      (ds_cons (ds_set 2 sc__law_mixed.nd (d_bin op_add4 (c_add _) (d_bin op_mul2 (c_mul _) d_int (d_var 1)) (d_callB call_len2 (c_len _) (by rfl) T.m_len bt_len (d_cons (d_sgCells 0 (hu_of hr)) d_nil))))
      (ds_cons (ds_for PassesOwn.never rfl (di_seq (d_sgCells 0 (hu_of hr))) (dg_name 3 sc__law_mixed.nd) (ds_one (ds_set 2 sc__law_mixed.nd (d_bin op_mod (c_mod _) (d_callT call_int1 (c_int _) (by rfl) T.m_int bt_int (d_cons (d_bin op_add4 (c_add _) (d_bin op_add4 (c_add _) (d_bin op_mul2 (c_mul _) (d_var 2) d_int) (d_var 3)) (d_bin op_mul2 (c_mul _) d_int (d_var 1))) d_nil)) d_int))))
      (ds_cons (ds_for PassesOwn.never rfl (di_range1 (by rfl) T.m_range (d_cons d_int d_nil)) (dg_name 4 sc__law_mixed.nd) (ds_one (ds_set 2 sc__law_mixed.nd (d_bin op_mod (c_mod _) (d_callT call_int1 (c_int _) (by rfl) T.m_int bt_int (d_cons (d_bin op_add4 (c_add _) (d_bin op_add4 (c_add _) (d_bin op_add4 (c_add _) (d_bin op_mul2 (c_mul _) (d_var 2) (d_var 2)) (d_bin op_mul2 (c_mul _) d_int (d_var 2))) d_int) (d_var 4)) d_nil)) d_int))))
      (ds_one (ds_ret (d_var 2))))))))) ?_
  exact k__law_mixed
theorem ok__law_take (T : Top K mg) : FnOk P w K mg base CX0 2 T.f__law_take T.d__law_take ["_law_draw", "_law_many"] (toSp K 2 S__law_take) := by
  refine ok_tree T.F__law_take sc__law_take (fun cdv A outer s H E hr =>
    (ds_drawG 0 (ds_cons (ds_if (d_cmpT (op_eq3 hr.units) (c_eq _) (d_sgRest 0 (hu_of hr)) d_int (nomark _)) (ds_one (ds_sgRest 0 (hu_of hr) (d_ife (d_sgAny 0 (hu_of hr)) (d_sgPop 0 (hu_of hr)) (d_call ((ok__law_mixed T).mono (by decide)) hr (by rfl) T.g__law_mixed T.F__law_mixed.kp T.b__law_mixed pass0 (d_cons (d_var 0) d_nil))))) ds_nil)
      (ds_cons (ds_set 2 sc__law_take.nd (d_bin op_mod (c_mod _) (d_callT call_int1 (c_int _) (by rfl) T.m_int bt_int (d_cons (d_sgRest 0 (hu_of hr)) d_nil)) (d_var 1)))
      (ds_cons (ds_sgRest 0 (hu_of hr) (d_bin op_fdiv (c_div _) (d_sgRest 0 (hu_of hr)) (d_var 1)))
      (ds_one (ds_ret (d_var 2)))))))) ?_
  exact k__law_take
theorem ok__law_pick (T : Top K mg) : FnOk P w K mg base CX0 3 T.f__law_pick T.d__law_pick ["_law_draw", "_law_some"] (toSp K 2 S__law_pick) := by
  refine ok_tree T.F__law_pick sc__law_pick (fun cdv A outer s H E hr =>
    (ds_one (ds_ret (d_ix (d_var 1) (d_call ((ok__law_take T).mono (by decide)) hr (by rfl) T.g__law_take T.F__law_take.kp T.b__law_take pass0 (d_cons (d_var 0) (d_cons (d_callB call_len2 (c_len _) (by rfl) T.m_len bt_len (d_cons (d_var 1) d_nil)) d_nil))))))) ?_
  exact k__law_pick
theorem ok__law_word (T : Top K mg) : FnOk P w K mg base CX0 4 T.f__law_word T.d__law_word ["_law_draw"] (toSp K 1 S__law_word) := by
  refine ok_tree T.F__law_word sc__law_word (fun cdv A outer s H E hr =>
    (ds_cons (ds_if (d_cmpT (op_eq3 hr.units) (c_eq _) (d_call ((ok__law_take T).mono (by decide)) hr (by rfl) T.g__law_take T.F__law_take.kp T.b__law_take pass0 (d_cons (d_var 0) (d_cons d_int d_nil))) d_int (nomark _)) (ds_one (ds_ret (d_call ((ok__law_pick T).mono (by decide)) hr (by rfl) T.g__law_pick T.F__law_pick.kp T.b__law_pick pass0 (d_cons (d_var 0) (d_cons (d_lst (d_cons d_str (d_cons d_str (d_cons d_str (d_cons d_str (d_cons d_str (d_cons d_str (d_cons d_str (d_cons d_str (d_cons d_str (d_cons d_str (d_cons d_str d_nil)))))))))))) d_nil))))) ds_nil)
      (ds_cons (ds_set 1 sc__law_word.nd d_str)
      (ds_cons (ds_set 2 sc__law_word.nd (d_frz (d_call ((ok__law_pick T).mono (by decide)) hr (by rfl) T.g__law_pick T.F__law_pick.kp T.b__law_pick pass0 (d_cons (d_var 0) (d_cons (d_lst (d_cons d_int (d_cons d_int (d_cons d_int (d_cons d_int (d_cons d_int d_nil)))))) d_nil)))))
      (ds_one (ds_ret (d_m1 PySem.F.slot_str_join PySem.F.type_str_join mt_join (c_join _) d_str (d_lc rfl sc__law_word.nd (di_range1 (by rfl) T.m_range (d_cons (d_var 2) d_nil)) (blkOk_by (N := ["_law_draw", "_law_letters", "_law_long", "_law_lap"]) (sc := defScope s__law_word) (own := [("_law_lap", 3)]) (by decide +kernel)) (fun _ _ _ _ _ => (dg_name 3 sc__law_word.nd)) (fun _ _ _ _ _ => dts_nil) (fun _ _ _ _ _ => (d_call ((ok__law_pick T).mono (by decide)) hr (by rfl) T.g__law_pick T.F__law_pick.kp T.b__law_pick pass0 (d_cons (d_var 0) (d_cons (d_frz (d_var 1)) d_nil)))))))))))) ?_
  exact k__law_word
theorem ok__law_words (T : Top K mg) : FnOk P w K mg base CX0 5 T.f__law_words T.d__law_words ["_law_draw", "_law_many"] (toSp K 2 S__law_words) := by
  refine ok_tree T.F__law_words sc__law_words (fun cdv A outer s H E hr =>
    (ds_cons (ds_set 2 sc__law_words.nd (d_lst d_nil))
      (ds_cons (ds_for PassesOwn.never rfl (di_range1 (by rfl) T.m_range (d_cons (d_var 1) d_nil)) (dg_name 3 sc__law_words.nd) (ds_cons (ds_set 4 sc__law_words.nd (d_frz (d_call ((ok__law_word T).mono (by decide)) hr (by rfl) T.g__law_word T.F__law_word.kp T.b__law_word pass0 (d_cons (d_var 0) d_nil))))
      (ds_one (ds_expr (d_methF 2 PySem.F.slot_list_append PySem.F.type_list_append mt_append (cm_append _) (d_cons (d_ix (d_lc rfl sc__law_words.nd (di_seq (d_lst (d_cons (d_frz (d_var 4)) (d_cons d_str (d_cons d_str (d_cons d_str (d_cons d_str (d_cons d_str (d_cons d_str d_nil))))))))) (blkOk_by (N := ["_law_draw", "_law_many", "_law_found", "_law_turn", "_law_word_here", "_law_spare"]) (sc := defScope s__law_words) (own := [("_law_spare", 5)]) (by decide +kernel)) (fun _ _ _ _ _ => (dg_name 5 sc__law_words.nd)) (fun _ _ _ _ _ => (dts_one (d_cmpT op_notin2 (c_in _) (d_var 5) (d_var 2) rfl))) (fun _ _ _ _ _ => (d_frz (d_var 5)))) d_int) d_nil))))))
      (ds_one (ds_ret (d_var 2)))))) ?_
  exact k__law_words
theorem ok__law_known (T : Top K mg) : FnOk P w K mg base CX0 1 T.f__law_known T.d__law_known ["_law_seen", "_law_wants"] (toSp K 2 S__law_known) := by
  refine ok_tree T.F__law_known sc__law_known (fun cdv A outer s H E hr =>
    (ds_cons (ds_asg (d_frz (d_var 0)) (dg_tup (n := 4) rfl (dg_cons (dg_name 2 sc__law_known.nd) (dg_cons (dg_name 3 sc__law_known.nd) (dg_cons (dg_name 4 sc__law_known.nd) (dg_cons (dg_name 5 sc__law_known.nd) dg_nil))))))
      (ds_cons (ds_set 6 sc__law_known.nd (d_lst (d_cons (d_ife (d_tst (d_var 4)) d_str d_str) (d_cons (d_ife (d_cmpT (op_eq3 hr.units) (c_eq _) (d_var 5) d_int (nomark _)) d_str d_str) (d_cons (d_ife (d_cmpT (op_eq3 hr.units) (c_eq _) (d_var 3) (d_tup d_nil) (nomark _)) d_str d_str) d_nil)))))
      (ds_cons (ds_if (d_cmpT (op_eq3 hr.units) (c_eq _) (d_var 2) (d_tup d_nil) (nomark _)) (ds_one (ds_expr (d_methF 6 PySem.F.slot_list_append PySem.F.type_list_append mt_append (cm_append _) (d_cons d_str d_nil)))) (ds_cons (ds_expr (d_methF 6 PySem.F.slot_list_append PySem.F.type_list_append mt_append (cm_append _) (d_cons (d_ife (d_tst (d_ix (d_var 2) d_int)) d_str d_str) d_nil)))
      (ds_cons (ds_expr (d_methF 6 PySem.F.slot_list_append PySem.F.type_list_append mt_append (cm_append _) (d_cons (d_ife (d_tst (d_ix (d_var 2) d_int)) d_str d_str) d_nil)))
      (ds_one (ds_expr (d_methF 6 PySem.F.slot_list_append PySem.F.type_list_append mt_append (cm_append _) (d_cons (d_ife (d_cmpT op_in2 (c_in _) (d_ix (d_var 2) d_int) (d_var 1) rfl) d_str d_str) d_nil)))))))
      (ds_cons (ds_if (d_cmpT (op_ne3 hr.units) (c_ne _) (d_var 3) (d_tup d_nil) (nomark _)) (ds_one (ds_expr (d_methF 6 PySem.F.slot_list_append PySem.F.type_list_append mt_append (cm_append _) (d_cons (d_ife (PW.pt (d_andT (d_cmpT (op_ne3 hr.units) (c_ne _) (d_var 2) (d_tup d_nil) (nomark _)) (d_and1T (d_cmpT (op_eq3 hr.units) (c_eq _) (d_ix (d_var 2) d_int) (d_ix (d_var 3) d_int) (nomark _))))) d_str d_str) d_nil)))) ds_nil)
      (ds_one (ds_ret (d_var 6)))))))) ?_
  exact k__law_known
theorem ok__law_decided (T : Top K mg) : FnOk P w K mg base CX0 2 T.f__law_decided T.d__law_decided ["_law_person", "_law_seen"] (toSp K 2 S__law_decided) := by
  refine ok_tree T.F__law_decided sc__law_decided (fun cdv A outer s H E hr =>
    (ds_cons (ds_set 2 sc__law_decided.nd (d_frz (d_call ((ok__law_known T).mono (by decide)) hr (by rfl) T.g__law_known T.F__law_known.kp T.b__law_known pass0 (d_cons (d_frz (d_var 1)) (d_cons (d_ix (d_var 0) d_int) d_nil)))))
      (ds_cons (ds_for PassesOwn.never rfl (di_enum (by rfl) T.m_enumerate (d_cons (d_ix (d_var 0) d_int) d_nil)) (dg_tup (n := 2) rfl (dg_cons (dg_name 3 sc__law_decided.nd) (dg_cons (dg_name 4 sc__law_decided.nd) dg_nil))) (ds_one (ds_if (d_cmpT (op_eq3 hr.units) (c_eq _) (d_lc rfl sc__law_decided.nd (di_seq (d_ix (d_var 4) d_int)) (blkOk_by (N := ["_law_person", "_law_seen", "_law_known_here", "_law_at", "_law_rule", "_law_item"]) (sc := defScope s__law_decided) (own := [("_law_item", 5)]) (by decide +kernel)) (fun _ _ _ _ _ => (dg_name 5 sc__law_decided.nd)) (fun _ _ _ _ _ => (dts_one (d_cmpT op_notin2 (c_in _) (d_var 5) (d_var 2) rfl))) (fun _ _ _ _ _ => (d_frz (d_var 5)))) (d_lst d_nil) (nomark _)) (ds_one (ds_ret (d_var 3))) ds_nil)))
      (ds_one (ds_ret d_non))))) ?_
  exact k__law_decided
theorem ok__law_all_views (T : Top K mg) : FnOk P w K mg base CX0 1 T.f__law_all_views T.d__law_all_views ["_law_some"] (toSp K 1 S__law_all_views) := by
  refine ok_tree T.F__law_all_views sc__law_all_views (fun cdv A outer s H E hr =>
    (ds_cons (ds_par3M 1 2 3 rfl sc__law_all_views.nd (d_lst (d_cons (d_tup d_nil) d_nil)) (d_lst (d_cons (d_tup d_nil) d_nil)) (d_lst d_nil) (by rfl))
      (ds_cons (ds_for PassesOwn.never rfl (di_seq (d_callB cr_sorted2 (c_sorted2 _) (by rfl) T.m_sorted bt_sorted (d_cons (d_var 0) d_nil))) (dg_name 4 sc__law_all_views.nd) (ds_cons (ds_set 1 sc__law_all_views.nd (d_bin op_add4 (c_add _) (d_var 1) (d_lst (d_cons (d_tup (d_cons (d_frz (d_var 4)) (d_cons d_bl (d_cons d_bl d_nil)))) (d_cons (d_tup (d_cons (d_frz (d_var 4)) (d_cons d_bl (d_cons d_bl d_nil)))) (d_cons (d_tup (d_cons (d_frz (d_var 4)) (d_cons d_bl (d_cons d_bl d_nil)))) (d_cons (d_tup (d_cons (d_frz (d_var 4)) (d_cons d_bl (d_cons d_bl d_nil)))) d_nil)))))))
      (ds_one (ds_expr (d_methF 2 PySem.F.slot_list_append PySem.F.type_list_append mt_append (cm_append _) (d_cons (d_tup (d_cons d_int (d_cons (d_frz (d_var 4)) d_nil))) d_nil))))))
      (ds_cons (ds_for PassesOwn.never rfl (di_seq (d_frz (d_var 1))) (dg_name 5 sc__law_all_views.nd) (ds_one (ds_for PassesOwn.never rfl (di_seq (d_frz (d_var 2))) (dg_name 6 sc__law_all_views.nd) (ds_one (ds_for PassesOwn.never rfl (di_seq (d_lst (d_cons d_bl (d_cons d_bl d_nil)))) (dg_name 7 sc__law_all_views.nd) (ds_one (ds_set 3 sc__law_all_views.nd (d_bin op_add4 (c_add _) (d_var 3) (d_lst (d_cons (d_tup (d_cons (d_frz (d_var 5)) (d_cons (d_frz (d_var 6)) (d_cons (d_frz (d_var 7)) (d_cons d_int d_nil))))) (d_cons (d_tup (d_cons (d_frz (d_var 5)) (d_cons (d_frz (d_var 6)) (d_cons (d_frz (d_var 7)) (d_cons d_int d_nil))))) d_nil)))))))))))
      (ds_one (ds_ret (d_var 3))))))) ?_
  exact k__law_all_views
theorem ok__law_choice (T : Top K mg) : FnOk P w K mg base CX0 3 T.f__law_choice T.d__law_choice ["_law_person", "_law_seen"] (toSp K 2 S__law_choice) := by
  refine ok_tree T.F__law_choice sc__law_choice (fun cdv A outer s H E hr =>
    (ds_cons (ds_set 2 sc__law_choice.nd (d_frz (d_call ((ok__law_decided T).mono (by decide)) hr (by rfl) T.g__law_decided T.F__law_decided.kp T.b__law_decided pass0 (d_cons (d_frz (d_var 0)) (d_cons (d_frz (d_var 1)) d_nil)))))
      (ds_one (ds_ret (d_ife (d_cmpT op_isN (c_isN _) (d_var 2) d_non (nomark _)) d_non (d_tup (d_cons (d_ix (d_ix (d_ix (d_var 0) d_int) (d_var 2)) d_int) (d_cons (d_callB cr_sorted2 (c_sorted2 _) (by rfl) T.m_sorted bt_sorted (d_cons (d_ix (d_ix (d_ix (d_var 0) d_int) (d_var 2)) d_int) d_nil)) d_nil)))))))) ?_
  exact k__law_choice
theorem ok__law_any_rule (T : Top K mg) : FnOk P w K mg base CX0 4 T.f__law_any_rule T.d__law_any_rule ["_law_draw", "_law_some"] (toSp K 2 S__law_any_rule) := by
  refine ok_tree T.F__law_any_rule sc__law_any_rule (fun cdv A outer s H E hr =>
    (ds_cons (ds_set 2 sc__law_any_rule.nd (d_lst (d_cons d_str (d_cons d_str (d_cons d_str (d_cons d_str (d_cons d_str (d_cons d_str (d_cons d_str (d_cons d_str (d_cons d_str (d_cons d_str (d_cons d_str (d_cons d_str d_nil))))))))))))))
      (ds_cons (ds_set 2 sc__law_any_rule.nd (d_bin op_add4 (c_add _) (d_var 2) (d_lst (d_cons d_str (d_cons d_str (d_cons d_str d_nil))))))
      (ds_cons (ds_set 3 sc__law_any_rule.nd (d_slice (d_lc rfl sc__law_any_rule.nd (di_seq (d_frz (d_var 2))) (blkOk_by (N := ["_law_draw", "_law_some", "_law_known_here", "_law_sight", "_law_item", "_law_word_here", "_law_checks", "_law_part"]) (sc := defScope s__law_any_rule) (own := [("_law_item", 4)]) (by decide +kernel)) (fun _ _ _ _ _ => (dg_name 4 sc__law_any_rule.nd)) (fun _ _ _ _ _ => (dts_one (d_cmpT (op_eq3 hr.units) (c_eq _) (d_call ((ok__law_take T).mono (by decide)) hr (by rfl) T.g__law_take T.F__law_take.kp T.b__law_take pass0 (d_cons (d_var 0) (d_cons d_int d_nil))) d_int (nomark _)))) (fun _ _ _ _ _ => (d_frz (d_var 4)))) d_nop (d_part (d_call ((ok__law_take T).mono (by decide)) hr (by rfl) T.g__law_take T.F__law_take.kp T.b__law_take pass0 (d_cons (d_var 0) (d_cons d_int d_nil))))))
      (ds_cons (ds_set 5 sc__law_any_rule.nd (d_frz (d_call ((ok__law_pick T).mono (by decide)) hr (by rfl) T.g__law_pick T.F__law_pick.kp T.b__law_pick pass0 (d_cons (d_var 0) (d_cons (d_lst (d_cons d_str (d_cons d_str (d_cons d_str (d_cons d_str (d_cons d_str (d_cons d_str (d_cons d_str (d_cons d_str d_nil))))))))) d_nil)))))
      (ds_cons (ds_setLc 6 rfl sc__law_any_rule.nd (di_seq (d_lst (d_cons d_str (d_cons d_str (d_cons d_str (d_cons d_str d_nil)))))) (blkOk_by (N := ["_law_draw", "_law_some", "_law_known_here", "_law_sight", "_law_item", "_law_word_here", "_law_checks", "_law_part"]) (sc := defScope s__law_any_rule) (own := [("_law_part", 7)]) (by decide +kernel)) (fun _ _ _ _ _ => (dg_name 7 sc__law_any_rule.nd)) (fun _ _ _ _ _ => (dts_one (d_cmpT (op_eq3 hr.units) (c_eq _) (d_call ((ok__law_take T).mono (by decide)) hr (by rfl) T.g__law_take T.F__law_take.kp T.b__law_take pass0 (d_cons (d_var 0) (d_cons d_int d_nil))) d_int (nomark _)))) (fun _ _ _ _ _ => (d_frz (d_var 7))) (by rfl))
      (ds_one (ds_ret (d_tup (d_cons (d_callT call_tuple_of (c_tuple _) (by rfl) T.m_tuple bt_tuple (d_cons (d_rev (d_var 3)) d_nil)) (d_cons (d_ife (d_cmpT (op_eq3 hr.units) (c_eq _) (d_var 5) d_str (nomark _)) (d_tup (d_cons d_str (d_cons (d_call ((ok__law_pick T).mono (by decide)) hr (by rfl) T.g__law_pick T.F__law_pick.kp T.b__law_pick pass0 (d_cons (d_var 0) (d_cons (d_frz (d_var 1)) d_nil))) d_nil))) (d_tup (d_cons (d_frz (d_var 5)) d_nil))) (d_cons (d_callT call_tuple_of (c_tuple _) (by rfl) T.m_tuple bt_tuple (d_cons (d_var 6) d_nil)) d_nil)))))))))))) ?_
  exact k__law_any_rule
theorem ok__law_any_keeper (T : Top K mg) : FnOk P w K mg base CX0 5 T.f__law_any_keeper T.d__law_any_keeper ["_law_draw", "_law_tag", "_law_some"] (toSp K 3 S__law_any_keeper) := by
  refine ok_tree T.F__law_any_keeper sc__law_any_keeper (fun cdv A outer s H E hr =>
    (ds_cons (ds_setLc 3 rfl sc__law_any_keeper.nd (di_seq (d_frz (d_var 2))) (blkOk_by (N := ["_law_draw", "_law_tag", "_law_some", "_law_wants", "_law_word_here", "_law_turn"]) (sc := defScope s__law_any_keeper) (own := [("_law_word_here", 4)]) (by decide +kernel)) (fun _ _ _ _ _ => (dg_name 4 sc__law_any_keeper.nd)) (fun _ _ _ _ _ => (dts_one (d_cmpT (op_eq3 hr.units) (c_eq _) (d_call ((ok__law_take T).mono (by decide)) hr (by rfl) T.g__law_take T.F__law_take.kp T.b__law_take pass0 (d_cons (d_var 0) (d_cons d_int d_nil))) d_int (nomark _)))) (fun _ _ _ _ _ => (d_frz (d_var 4))) (by rfl))
      (ds_one (ds_ret (d_tup (d_cons (d_frz (d_var 1)) (d_cons (d_frz (d_var 3)) (d_cons (d_lc rfl sc__law_any_keeper.nd (di_range1 (by rfl) T.m_range (d_cons (d_call ((ok__law_take T).mono (by decide)) hr (by rfl) T.g__law_take T.F__law_take.kp T.b__law_take pass0 (d_cons (d_var 0) (d_cons d_int d_nil))) d_nil)) (blkOk_by (N := ["_law_draw", "_law_tag", "_law_some", "_law_wants", "_law_word_here", "_law_turn"]) (sc := defScope s__law_any_keeper) (own := [("_law_turn", 5)]) (by decide +kernel)) (fun _ _ _ _ _ => (dg_name 5 sc__law_any_keeper.nd)) (fun _ _ _ _ _ => dts_nil) (fun _ _ _ _ _ => (d_call ((ok__law_any_rule T).mono (by decide)) hr (by rfl) T.g__law_any_rule T.F__law_any_rule.kp T.b__law_any_rule pass0 (d_cons (d_var 0) (d_cons (d_frz (d_var 2)) d_nil))))) d_nil)))))))) ?_
  exact k__law_any_keeper
theorem ok__law_near (T : Top K mg) : FnOk P w K mg base CX0 5 T.f__law_near T.d__law_near ["_law_draw", "_law_person", "_law_some"] (toSp K 3 S__law_near) := by
  refine ok_tree T.F__law_near sc__law_near (fun cdv A outer s H E hr =>
    (ds_cons (ds_asg (d_frz (d_var 1)) (dg_tup (n := 3) rfl (dg_cons (dg_name 3 sc__law_near.nd) (dg_cons (dg_name 4 sc__law_near.nd) (dg_cons (dg_name 5 sc__law_near.nd) dg_nil)))))
      (ds_cons (ds_par2 6 7 rfl sc__law_near.nd (d_call ((ok__law_take T).mono (by decide)) hr (by rfl) T.g__law_take T.F__law_take.kp T.b__law_take pass0 (d_cons (d_var 0) (d_cons (d_bin op_add4 (c_add _) (d_callB call_len2 (c_len _) (by rfl) T.m_len bt_len (d_cons (d_var 5) d_nil)) d_int) d_nil))) (d_call ((ok__law_take T).mono (by decide)) hr (by rfl) T.g__law_take T.F__law_take.kp T.b__law_take pass0 (d_cons (d_var 0) (d_cons d_int d_nil))) (by rfl))
      (ds_cons (ds_if (d_cmpT (op_eq3 hr.units) (c_eq _) (d_var 7) d_int (nomark _)) (ds_one (ds_ret (d_tup (d_cons (d_frz (d_var 3)) (d_cons (d_lc rfl sc__law_near.nd (di_seq (d_frz (d_var 4))) (blkOk_by (N := ["_law_draw", "_law_person", "_law_some", "_law_tag", "_law_wants", "_law_rules", "_law_spot", "_law_way", "_law_word_here", "_law_sight", "_law_deed", "_law_checks"]) (sc := defScope s__law_near) (own := [("_law_word_here", 8)]) (by decide +kernel)) (fun _ _ _ _ _ => (dg_name 8 sc__law_near.nd)) (fun _ _ _ _ _ => (dts_one (d_cmpT (op_eq3 hr.units) (c_eq _) (d_call ((ok__law_take T).mono (by decide)) hr (by rfl) T.g__law_take T.F__law_take.kp T.b__law_take pass0 (d_cons (d_var 0) (d_cons d_int d_nil))) d_int (nomark _)))) (fun _ _ _ _ _ => (d_frz (d_var 8)))) (d_cons (d_frz (d_var 5)) d_nil)))))) ds_nil)
      (ds_cons (ds_if (PW.pt (d_andT (d_cmpT (op_eq3 hr.units) (c_eq _) (d_var 7) d_int (nomark _)) (d_and1T (d_cmpT op_lt2 (c_ord _) (d_callB call_len2 (c_len _) (by rfl) T.m_len bt_len (d_cons (d_var 5) d_nil)) d_int (nomark _))))) (ds_one (ds_ret (d_tup (d_cons (d_frz (d_var 3)) (d_cons (d_frz (d_var 4)) (d_cons (d_bin op_add4 (c_add _) (d_bin op_add4 (c_add _) (d_slice (d_var 5) d_nop (d_part (d_var 6))) (d_lst (d_cons (d_call ((ok__law_any_rule T).mono (by decide)) hr (by rfl) T.g__law_any_rule T.F__law_any_rule.kp T.b__law_any_rule pass0 (d_cons (d_var 0) (d_cons (d_frz (d_var 2)) d_nil))) d_nil))) (d_slice (d_var 5) (d_part (d_var 6)) d_nop)) d_nil)))))) ds_nil)
      (ds_cons (ds_if (d_cmpT (op_eq3 hr.units) (c_eq _) (d_var 7) d_int (nomark _)) (ds_one (ds_ret (d_tup (d_cons (d_frz (d_var 3)) (d_cons (d_frz (d_var 4)) (d_cons (d_bin op_add4 (c_add _) (d_slice (d_var 5) d_nop (d_part (d_var 6))) (d_slice (d_var 5) (d_part (d_bin op_add4 (c_add _) (d_var 6) d_int)) d_nop)) d_nil)))))) ds_nil)
      (ds_cons (ds_if (PW.pt (d_andT (d_cmpT (op_eq3 hr.units) (c_eq _) (d_var 7) d_int (nomark _)) (d_andT (d_cmpT op_lt2 (c_ord _) (d_var 6) (d_callB call_len2 (c_len _) (by rfl) T.m_len bt_len (d_cons (d_var 5) d_nil)) (nomark _)) (d_and1T (d_cmpT op_lt2 (c_ord _) (d_callB call_len2 (c_len _) (by rfl) T.m_len bt_len (d_cons (d_var 5) d_nil)) d_int (nomark _)))))) (ds_one (ds_ret (d_tup (d_cons (d_frz (d_var 3)) (d_cons (d_frz (d_var 4)) (d_cons (d_bin op_add4 (c_add _) (d_var 5) (d_lst (d_cons (d_ix (d_var 5) (d_var 6)) d_nil))) d_nil)))))) ds_nil)
      (ds_cons (ds_if (d_cmpT (op_eq3 hr.units) (c_eq _) (d_var 7) d_int (nomark _)) (ds_one (ds_ret (d_tup (d_cons (d_frz (d_var 3)) (d_cons (d_frz (d_var 4)) (d_cons (d_bin op_add4 (c_add _) (d_bin op_add4 (c_add _) (d_slice (d_var 5) d_nop (d_part (d_var 6))) (d_rev2 (d_slice (d_var 5) (d_part (d_var 6)) (d_part (d_bin op_add4 (c_add _) (d_var 6) d_int))))) (d_slice (d_var 5) (d_part (d_bin op_add4 (c_add _) (d_var 6) d_int)) d_nop)) d_nil)))))) ds_nil)
      (ds_cons (ds_if (PW.pt (d_andT (d_cmpT (op_eq3 hr.units) (c_eq _) (d_var 7) d_int (nomark _)) (d_and1T (d_cmpT op_lt2 (c_ord _) (d_var 6) (d_callB call_len2 (c_len _) (by rfl) T.m_len bt_len (d_cons (d_var 5) d_nil)) (nomark _))))) (ds_cons (ds_asg (d_ix (d_var 5) (d_var 6)) (dg_tup (n := 3) rfl (dg_cons (dg_name 9 sc__law_near.nd) (dg_cons (dg_name 10 sc__law_near.nd) (dg_cons (dg_name 11 sc__law_near.nd) dg_nil)))))
      (ds_one (ds_ret (d_tup (d_cons (d_frz (d_var 3)) (d_cons (d_frz (d_var 4)) (d_cons (d_bin op_add4 (c_add _) (d_bin op_add4 (c_add _) (d_slice (d_var 5) d_nop (d_part (d_var 6))) (d_lst (d_cons (d_tup (d_cons (d_slice (d_var 9) (d_part d_int) d_nop) (d_cons (d_frz (d_var 10)) (d_cons (d_frz (d_var 11)) d_nil)))) d_nil))) (d_slice (d_var 5) (d_part (d_bin op_add4 (c_add _) (d_var 6) d_int)) d_nop)) d_nil))))))) ds_nil)
      (ds_cons (ds_if (d_cmpT op_lt2 (c_ord _) (d_var 6) (d_callB call_len2 (c_len _) (by rfl) T.m_len bt_len (d_cons (d_var 5) d_nil)) (nomark _)) (ds_cons (ds_asg (d_ix (d_var 5) (d_var 6)) (dg_tup (n := 3) rfl (dg_cons (dg_name 9 sc__law_near.nd) (dg_cons (dg_name 10 sc__law_near.nd) (dg_cons (dg_name 11 sc__law_near.nd) dg_nil)))))
      (ds_one (ds_ret (d_tup (d_cons (d_frz (d_var 3)) (d_cons (d_frz (d_var 4)) (d_cons (d_bin op_add4 (c_add _) (d_bin op_add4 (c_add _) (d_slice (d_var 5) d_nop (d_part (d_var 6))) (d_lst (d_cons (d_tup (d_cons (d_frz (d_var 9)) (d_cons (d_frz (d_var 10)) (d_cons (d_slice (d_rev2 (d_var 11)) d_nop (d_part d_int)) d_nil)))) d_nil))) (d_slice (d_var 5) (d_part (d_bin op_add4 (c_add _) (d_var 6) d_int)) d_nop)) d_nil))))))) ds_nil)
      (ds_one (ds_ret (d_tup (d_cons d_str (d_cons (d_frz (d_var 4)) (d_cons (d_frz (d_var 5)) d_nil)))))))))))))))) ?_
  exact k__law_near
theorem ok_law (T : Top K mg) (hS : Keeps S_law 1 13 (r_law T.ca)) : FnG P w K mg base CX0 6 T.f_law T.d_law ["_law_script"] (toSp K 1 S_law) := by
  refine okG_tree T.F_law sc_law (fun cdv A outer s H E gz hr => PSs.nox (
    (ds_cons (ds_set 1 sc_law.nd (d_call ((ok__law_begun T).mono (by decide)) hr (by rfl) T.g__law_begun T.F__law_begun.kp T.b__law_begun pass0 (d_cons (d_frz (d_var 0)) d_nil)))
      (ds_cons (ds_for PassesOwn.never rfl (di_range1 (by rfl) T.m_range (d_cons (d_bin op_add4 (c_add _) d_int (d_callB (call_min2 rfl) (c_min2 _) (by rfl) T.m_min bt_min (d_cons (d_callB call_len2 (c_len _) (by rfl) T.m_len bt_len (d_cons (d_var 0) d_nil)) (d_cons d_int d_nil)))) d_nil)) (dg_name 2 sc_law.nd) (ds_cons (ds_set 3 sc_law.nd (d_frz (d_call ((ok__law_words T).mono (by decide)) hr (by rfl) T.g__law_words T.F__law_words.kp T.b__law_words pass0 (d_cons (d_var 1) (d_cons d_int d_nil)))))
      (ds_cons (ds_set 4 sc_law.nd (d_slice (d_var 3) d_nop (d_part (d_bin op_add4 (c_add _) d_int (d_call ((ok__law_take T).mono (by decide)) hr (by rfl) T.g__law_take T.F__law_take.kp T.b__law_take pass0 (d_cons (d_var 1) (d_cons d_int d_nil)))))))
      (ds_cons (ds_set 5 sc_law.nd (d_frz (d_call ((ok__law_any_keeper T).mono (by decide)) hr (by rfl) T.g__law_any_keeper T.F__law_any_keeper.kp T.b__law_any_keeper pass0 (d_cons (d_var 1) (d_cons d_str (d_cons (d_slice (d_var 3) d_nop (d_part d_int)) d_nil))))))
      (ds_cons (ds_set 6 sc_law.nd (d_ife (d_cmpT op_gt2 (c_ord _) (d_call ((ok__law_take T).mono (by decide)) hr (by rfl) T.g__law_take T.F__law_take.kp T.b__law_take pass0 (d_cons (d_var 1) (d_cons d_int d_nil))) d_int (nomark _)) (d_frz (d_var 5)) (d_call ((ok__law_any_keeper T).mono (by decide)) hr (by rfl) T.g__law_any_keeper T.F__law_any_keeper.kp T.b__law_any_keeper pass0 (d_cons (d_var 1) (d_cons d_str (d_cons (d_slice (d_var 3) d_nop (d_part d_int)) d_nil))))))
      (ds_cons (ds_for PassesOwn.never rfl (di_range1 (by rfl) T.m_range (d_cons (d_call ((ok__law_take T).mono (by decide)) hr (by rfl) T.g__law_take T.F__law_take.kp T.b__law_take pass0 (d_cons (d_var 1) (d_cons d_int d_nil))) d_nil)) (dg_name 7 sc_law.nd) (ds_one (ds_set 6 sc_law.nd (d_frz (d_call ((ok__law_near T).mono (by decide)) hr (by rfl) T.g__law_near T.F__law_near.kp T.b__law_near pass0 (d_cons (d_var 1) (d_cons (d_frz (d_var 6)) (d_cons (d_slice (d_var 3) d_nop (d_part d_int)) d_nil))))))))
      (ds_cons (ds_set 8 sc_law.nd (d_lst (d_cons (d_make T.mk_Keeper ((ok_Keeper___init__ T).mono (by decide)) hr (by rfl) T.g_Keeper T.b_Keeper___init__ pass0 (d_cons (d_ix (d_var 5) d_int) (d_cons (d_ix (d_var 5) d_int) (d_cons (d_ix (d_var 5) d_int) d_nil)))) (d_cons (d_make T.mk_Keeper ((ok_Keeper___init__ T).mono (by decide)) hr (by rfl) T.g_Keeper T.b_Keeper___init__ pass0 (d_cons (d_ix (d_var 6) d_int) (d_cons (d_ix (d_var 6) d_int) (d_cons (d_ix (d_var 6) d_int) d_nil)))) d_nil))))
      (ds_cons (ds_setLc 9 rfl sc_law.nd (di_seq (d_call ((ok__law_all_views T).mono (by decide)) hr (by rfl) T.g__law_all_views T.F__law_all_views.kp T.b__law_all_views pass0 (d_cons (d_frz (d_var 4)) d_nil))) (blkOk_by (N := ["_law_script", "_law_draw", "_law_turn", "_law_pool", "_law_some", "_law_first", "_law_second", "_law_bend", "_law_both", "_law_unlike", "_law_seen", "_law_due", "_law_found"]) (sc := defScope s_law) (own := [("_law_seen", 10)]) (by decide +kernel)) (fun _ _ _ _ _ => (dg_name 10 sc_law.nd)) (fun _ _ _ _ _ => (dts_one (d_cmpT (op_ne3 hr.units) (c_ne _) (d_call ((ok__law_choice T).mono (by decide)) hr (by rfl) T.g__law_choice T.F__law_choice.kp T.b__law_choice pass0 (d_cons (d_frz (d_var 5)) (d_cons (d_frz (d_var 10)) d_nil))) (d_call ((ok__law_choice T).mono (by decide)) hr (by rfl) T.g__law_choice T.F__law_choice.kp T.b__law_choice pass0 (d_cons (d_frz (d_var 6)) (d_cons (d_frz (d_var 10)) d_nil))) (nomark _)))) (fun _ _ _ _ _ => (d_frz (d_var 10))) (by rfl))
      (ds_cons (ds_set 11 sc_law.nd (d_ife (d_cmpT (op_ne3 hr.units) (c_ne _) (d_var 9) (d_lst d_nil) (nomark _)) (d_ix (d_var 9) d_int) d_non))
      (ds_cons (ds_set 12 sc_law.nd (d_lst (d_cons (d_call ((ok_parted T).mono (by decide)) hr (by rfl) T.g_parted T.F_parted.kp T.b_parted pass0 (d_cons (d_ix (d_var 8) d_int) (d_cons (d_ix (d_var 8) d_int) (d_cons (d_frz (d_var 4)) d_nil)))) (d_cons (d_call ((ok_parted T).mono (by decide)) hr (by rfl) T.g_parted T.F_parted.kp T.b_parted pass0 (d_cons (d_ix (d_var 8) d_int) (d_cons (d_ix (d_var 8) d_int) (d_cons (d_rev (d_var 4)) d_nil)))) d_nil))))
      (ds_cons (ds_expr (d_methF 12 PySem.F.slot_list_append PySem.F.type_list_append mt_append (cm_append _) (d_cons (d_callKw [2, 1, 0] ((ok_parted T).mono (by decide)) hr (by rfl) T.g_parted T.F_parted.kp (T.kw_parted_words_other_one) pass0 (dk_cons (d_callT call_tuple_of (c_tuple _) (by rfl) T.m_tuple bt_tuple (d_cons (d_var 4) d_nil)) (dk_cons (d_ix (d_var 8) d_int) (dk_cons (d_ix (d_var 8) d_int) dk_nil)))) d_nil)))
      (ds_one (ds_if (PW.pt (d_orT (d_cmpT (op_ne3 hr.units) (c_ne _) (d_callB (call_repr gz hr.units) (c_repr _) (by rfl) T.m_repr bt_repr (d_cons (d_var 12) d_nil)) (d_callB (call_repr gz hr.units) (c_repr _) (by rfl) T.m_repr bt_repr (d_cons (d_bin op_mul2 (c_mul _) (d_lst (d_cons (d_frz (d_var 11)) d_nil)) d_int) d_nil)) (nomark _)) (d_or1T (d_cmpT op_notN (c_notN _) (d_call ((ok_parted T).mono (by decide)) hr (by rfl) T.g_parted T.F_parted.kp T.b_parted pass0 (d_cons (d_ix (d_var 8) d_int) (d_cons (d_ix (d_var 8) d_int) (d_cons (d_frz (d_var 4)) d_nil)))) d_non (nomark _))))) (ds_one (ds_ret d_bl)) ds_nil)))))))))))))
      (ds_one (ds_ret d_bl)))))) ?_
  exact hS
end
def top_mk {K : PySem.W.Frag} {h : Heap} {mg : Str → Option Value} (X : K.In h) (G : h.Ns mainGlobals mg)
    {C_Keeper : Addr} (a_Keeper : PySem.W.nsIn K mainGlobals "Keeper" = some (some (.ref C_Keeper)))
    (pg_Keeper : PySem.W.plainGet K C_Keeper Str.empty = true) (hd_Keeper : PySem.W.hasDictIn K C_Keeper = true) (po_Keeper : PySem.W.plainOver K C_Keeper = true) (sa_Keeper : PySem.W.findIn K (.ref C_Keeper) "__setattr__" = some (some (.builtin "object.__setattr__")))
    (mk_Keeper : PySem.W.makesIn K C_Keeper = true) (kc_Keeper : PySem.W.keepIn K (.ref C_Keeper) = true)
    (na_Keeper_own_name : PySem.W.findIn K (.ref C_Keeper) "own_name" = some none)
    (na_Keeper_own_rules : PySem.W.findIn K (.ref C_Keeper) "own_rules" = some none)
    (na_Keeper_own_wants : PySem.W.findIn K (.ref C_Keeper) "own_wants" = some none)
    {f_is_list : Addr} {od_is_list an_is_list : Option Addr} {sl_is_list : Array (Option Value)} {oc_is_list kV_is_list dc_is_list pm_is_list cd_is_list ct_is_list : Value}
    (a_is_list : PySem.W.nsIn K mainGlobals "is_list" = some (some (.ref f_is_list)))
    (l_is_list : K.lookup f_is_list = some ⟨oc_is_list, od_is_list, .func (PySem.W.fnOf "is_list" "is_list" (defArgs s_is_list) (defBody s_is_list) (defScope s_is_list) .none kV_is_list dc_is_list pm_is_list an_is_list cd_is_list ct_is_list), sl_is_list⟩)
    (c_is_list : PySem.W.codeIn K cd_is_list "is_list" = true) (k_is_list : PySem.W.keepIn K (.ref f_is_list) = true)
    {f_is_word : Addr} {od_is_word an_is_word : Option Addr} {sl_is_word : Array (Option Value)} {oc_is_word kV_is_word dc_is_word pm_is_word cd_is_word ct_is_word : Value}
    (a_is_word : PySem.W.nsIn K mainGlobals "is_word" = some (some (.ref f_is_word)))
    (l_is_word : K.lookup f_is_word = some ⟨oc_is_word, od_is_word, .func (PySem.W.fnOf "is_word" "is_word" (defArgs s_is_word) (defBody s_is_word) (defScope s_is_word) .none kV_is_word dc_is_word pm_is_word an_is_word cd_is_word ct_is_word), sl_is_word⟩)
    (c_is_word : PySem.W.codeIn K cd_is_word "is_word" = true) (k_is_word : PySem.W.keepIn K (.ref f_is_word) = true)
    {f_thing_conditions : Addr} {od_thing_conditions an_thing_conditions : Option Addr} {sl_thing_conditions : Array (Option Value)} {oc_thing_conditions kV_thing_conditions dc_thing_conditions pm_thing_conditions cd_thing_conditions ct_thing_conditions : Value}
    (a_thing_conditions : PySem.W.nsIn K mainGlobals "thing_conditions" = some (some (.ref f_thing_conditions)))
    (l_thing_conditions : K.lookup f_thing_conditions = some ⟨oc_thing_conditions, od_thing_conditions, .func (PySem.W.fnOf "thing_conditions" "thing_conditions" (defArgs s_thing_conditions) (defBody s_thing_conditions) (defScope s_thing_conditions) .none kV_thing_conditions dc_thing_conditions pm_thing_conditions an_thing_conditions cd_thing_conditions ct_thing_conditions), sl_thing_conditions⟩)
    (c_thing_conditions : PySem.W.codeIn K cd_thing_conditions "thing_conditions" = true) (k_thing_conditions : PySem.W.keepIn K (.ref f_thing_conditions) = true)
    {f_own_conditions : Addr} {od_own_conditions an_own_conditions : Option Addr} {sl_own_conditions : Array (Option Value)} {oc_own_conditions kV_own_conditions dc_own_conditions pm_own_conditions cd_own_conditions ct_own_conditions : Value}
    (a_own_conditions : PySem.W.nsIn K mainGlobals "own_conditions" = some (some (.ref f_own_conditions)))
    (l_own_conditions : K.lookup f_own_conditions = some ⟨oc_own_conditions, od_own_conditions, .func (PySem.W.fnOf "own_conditions" "own_conditions" (defArgs s_own_conditions) (defBody s_own_conditions) (defScope s_own_conditions) .none kV_own_conditions dc_own_conditions pm_own_conditions an_own_conditions cd_own_conditions ct_own_conditions), sl_own_conditions⟩)
    (c_own_conditions : PySem.W.codeIn K cd_own_conditions "own_conditions" = true) (k_own_conditions : PySem.W.keepIn K (.ref f_own_conditions) = true)
    {f_held_for : Addr} {od_held_for an_held_for : Option Addr} {sl_held_for : Array (Option Value)} {oc_held_for kV_held_for dc_held_for pm_held_for cd_held_for ct_held_for : Value}
    (a_held_for : PySem.W.nsIn K mainGlobals "held_for" = some (some (.ref f_held_for)))
    (l_held_for : K.lookup f_held_for = some ⟨oc_held_for, od_held_for, .func (PySem.W.fnOf "held_for" "held_for" (defArgs s_held_for) (defBody s_held_for) (defScope s_held_for) .none kV_held_for dc_held_for pm_held_for an_held_for cd_held_for ct_held_for), sl_held_for⟩)
    (c_held_for : PySem.W.codeIn K cd_held_for "held_for" = true) (k_held_for : PySem.W.keepIn K (.ref f_held_for) = true)
    {f_things_of : Addr} {od_things_of an_things_of : Option Addr} {sl_things_of : Array (Option Value)} {oc_things_of kV_things_of dc_things_of pm_things_of cd_things_of ct_things_of : Value}
    (a_things_of : PySem.W.nsIn K mainGlobals "things_of" = some (some (.ref f_things_of)))
    (l_things_of : K.lookup f_things_of = some ⟨oc_things_of, od_things_of, .func (PySem.W.fnOf "things_of" "things_of" (defArgs s_things_of) (defBody s_things_of) (defScope s_things_of) .none kV_things_of dc_things_of pm_things_of an_things_of cd_things_of ct_things_of), sl_things_of⟩)
    (c_things_of : PySem.W.codeIn K cd_things_of "things_of" = true) (k_things_of : PySem.W.keepIn K (.ref f_things_of) = true)
    {f_views_of : Addr} {od_views_of an_views_of : Option Addr} {sl_views_of : Array (Option Value)} {oc_views_of kV_views_of dc_views_of pm_views_of cd_views_of ct_views_of : Value}
    (a_views_of : PySem.W.nsIn K mainGlobals "views_of" = some (some (.ref f_views_of)))
    (l_views_of : K.lookup f_views_of = some ⟨oc_views_of, od_views_of, .func (PySem.W.fnOf "views_of" "views_of" (defArgs s_views_of) (defBody s_views_of) (defScope s_views_of) .none kV_views_of dc_views_of pm_views_of an_views_of cd_views_of ct_views_of), sl_views_of⟩)
    (c_views_of : PySem.W.codeIn K cd_views_of "views_of" = true) (k_views_of : PySem.W.keepIn K (.ref f_views_of) = true)
    {f_are_different : Addr} {od_are_different an_are_different : Option Addr} {sl_are_different : Array (Option Value)} {oc_are_different kV_are_different dc_are_different pm_are_different cd_are_different ct_are_different : Value}
    (a_are_different : PySem.W.nsIn K mainGlobals "are_different" = some (some (.ref f_are_different)))
    (l_are_different : K.lookup f_are_different = some ⟨oc_are_different, od_are_different, .func (PySem.W.fnOf "are_different" "are_different" (defArgs s_are_different) (defBody s_are_different) (defScope s_are_different) .none kV_are_different dc_are_different pm_are_different an_are_different cd_are_different ct_are_different), sl_are_different⟩)
    (c_are_different : PySem.W.codeIn K cd_are_different "are_different" = true) (k_are_different : PySem.W.keepIn K (.ref f_are_different) = true)
    {f_is_deed : Addr} {od_is_deed an_is_deed : Option Addr} {sl_is_deed : Array (Option Value)} {oc_is_deed kV_is_deed dc_is_deed pm_is_deed cd_is_deed ct_is_deed : Value}
    (a_is_deed : PySem.W.nsIn K mainGlobals "is_deed" = some (some (.ref f_is_deed)))
    (l_is_deed : K.lookup f_is_deed = some ⟨oc_is_deed, od_is_deed, .func (PySem.W.fnOf "is_deed" "is_deed" (defArgs s_is_deed) (defBody s_is_deed) (defScope s_is_deed) .none kV_is_deed dc_is_deed pm_is_deed an_is_deed cd_is_deed ct_is_deed), sl_is_deed⟩)
    (c_is_deed : PySem.W.codeIn K cd_is_deed "is_deed" = true) (k_is_deed : PySem.W.keepIn K (.ref f_is_deed) = true)
    {f_is_rule : Addr} {od_is_rule an_is_rule : Option Addr} {sl_is_rule : Array (Option Value)} {oc_is_rule kV_is_rule dc_is_rule pm_is_rule cd_is_rule ct_is_rule : Value}
    (a_is_rule : PySem.W.nsIn K mainGlobals "is_rule" = some (some (.ref f_is_rule)))
    (l_is_rule : K.lookup f_is_rule = some ⟨oc_is_rule, od_is_rule, .func (PySem.W.fnOf "is_rule" "is_rule" (defArgs s_is_rule) (defBody s_is_rule) (defScope s_is_rule) .none kV_is_rule dc_is_rule pm_is_rule an_is_rule cd_is_rule ct_is_rule), sl_is_rule⟩)
    (c_is_rule : PySem.W.codeIn K cd_is_rule "is_rule" = true) (k_is_rule : PySem.W.keepIn K (.ref f_is_rule) = true)
    {f_are_wants : Addr} {od_are_wants an_are_wants : Option Addr} {sl_are_wants : Array (Option Value)} {oc_are_wants kV_are_wants dc_are_wants pm_are_wants cd_are_wants ct_are_wants : Value}
    (a_are_wants : PySem.W.nsIn K mainGlobals "are_wants" = some (some (.ref f_are_wants)))
    (l_are_wants : K.lookup f_are_wants = some ⟨oc_are_wants, od_are_wants, .func (PySem.W.fnOf "are_wants" "are_wants" (defArgs s_are_wants) (defBody s_are_wants) (defScope s_are_wants) .none kV_are_wants dc_are_wants pm_are_wants an_are_wants cd_are_wants ct_are_wants), sl_are_wants⟩)
    (c_are_wants : PySem.W.codeIn K cd_are_wants "are_wants" = true) (k_are_wants : PySem.W.keepIn K (.ref f_are_wants) = true)
    {f_Keeper___init__ : Addr} {od_Keeper___init__ an_Keeper___init__ : Option Addr} {sl_Keeper___init__ : Array (Option Value)} {oc_Keeper___init__ kV_Keeper___init__ dc_Keeper___init__ pm_Keeper___init__ cd_Keeper___init__ ct_Keeper___init__ : Value}
    (a_Keeper___init__ : PySem.W.findIn K (.ref C_Keeper) "__init__" = some (some (.ref f_Keeper___init__))) (i_Keeper___init__ : PySem.W.isFn K (.ref f_Keeper___init__) = true)
    (l_Keeper___init__ : K.lookup f_Keeper___init__ = some ⟨oc_Keeper___init__, od_Keeper___init__, .func (PySem.W.fnOf "__init__" "Keeper.__init__" (defArgs s_Keeper___init__) (defBody s_Keeper___init__) (defScope s_Keeper___init__) .none kV_Keeper___init__ dc_Keeper___init__ pm_Keeper___init__ an_Keeper___init__ cd_Keeper___init__ ct_Keeper___init__), sl_Keeper___init__⟩)
    (c_Keeper___init__ : PySem.W.codeIn K cd_Keeper___init__ "Keeper.__init__" = true) (k_Keeper___init__ : PySem.W.keepIn K (.ref f_Keeper___init__) = true)
    {f_Keeper_decided : Addr} {od_Keeper_decided an_Keeper_decided : Option Addr} {sl_Keeper_decided : Array (Option Value)} {oc_Keeper_decided kV_Keeper_decided dc_Keeper_decided pm_Keeper_decided cd_Keeper_decided ct_Keeper_decided : Value}
    (a_Keeper_decided : PySem.W.findIn K (.ref C_Keeper) "decided" = some (some (.ref f_Keeper_decided))) (i_Keeper_decided : PySem.W.isFn K (.ref f_Keeper_decided) = true)
    (l_Keeper_decided : K.lookup f_Keeper_decided = some ⟨oc_Keeper_decided, od_Keeper_decided, .func (PySem.W.fnOf "decided" "Keeper.decided" (defArgs s_Keeper_decided) (defBody s_Keeper_decided) (defScope s_Keeper_decided) .none kV_Keeper_decided dc_Keeper_decided pm_Keeper_decided an_Keeper_decided cd_Keeper_decided ct_Keeper_decided), sl_Keeper_decided⟩)
    (c_Keeper_decided : PySem.W.codeIn K cd_Keeper_decided "Keeper.decided" = true) (k_Keeper_decided : PySem.W.keepIn K (.ref f_Keeper_decided) = true)
    {f_need_words : Addr} {od_need_words an_need_words : Option Addr} {sl_need_words : Array (Option Value)} {oc_need_words kV_need_words dc_need_words pm_need_words cd_need_words ct_need_words : Value}
    (a_need_words : PySem.W.nsIn K mainGlobals "need_words" = some (some (.ref f_need_words)))
    (l_need_words : K.lookup f_need_words = some ⟨oc_need_words, od_need_words, .func (PySem.W.fnOf "need_words" "need_words" (defArgs s_need_words) (defBody s_need_words) (defScope s_need_words) .none kV_need_words dc_need_words pm_need_words an_need_words cd_need_words ct_need_words), sl_need_words⟩)
    (c_need_words : PySem.W.codeIn K cd_need_words "need_words" = true) (k_need_words : PySem.W.keepIn K (.ref f_need_words) = true)
    {f_all_views : Addr} {od_all_views an_all_views : Option Addr} {sl_all_views : Array (Option Value)} {oc_all_views kV_all_views dc_all_views pm_all_views cd_all_views ct_all_views : Value}
    (a_all_views : PySem.W.nsIn K mainGlobals "all_views" = some (some (.ref f_all_views)))
    (l_all_views : K.lookup f_all_views = some ⟨oc_all_views, od_all_views, .func (PySem.W.fnOf "all_views" "all_views" (defArgs s_all_views) (defBody s_all_views) (defScope s_all_views) .none kV_all_views dc_all_views pm_all_views an_all_views cd_all_views ct_all_views), sl_all_views⟩)
    (c_all_views : PySem.W.codeIn K cd_all_views "all_views" = true) (k_all_views : PySem.W.keepIn K (.ref f_all_views) = true)
    {f_choice : Addr} {od_choice an_choice : Option Addr} {sl_choice : Array (Option Value)} {oc_choice kV_choice dc_choice pm_choice cd_choice ct_choice : Value}
    (a_choice : PySem.W.nsIn K mainGlobals "choice" = some (some (.ref f_choice)))
    (l_choice : K.lookup f_choice = some ⟨oc_choice, od_choice, .func (PySem.W.fnOf "choice" "choice" (defArgs s_choice) (defBody s_choice) (defScope s_choice) .none kV_choice dc_choice pm_choice an_choice cd_choice ct_choice), sl_choice⟩)
    (c_choice : PySem.W.codeIn K cd_choice "choice" = true) (k_choice : PySem.W.keepIn K (.ref f_choice) = true)
    {f_parted : Addr} {od_parted an_parted : Option Addr} {sl_parted : Array (Option Value)} {oc_parted kV_parted dc_parted pm_parted cd_parted ct_parted : Value}
    (a_parted : PySem.W.nsIn K mainGlobals "parted" = some (some (.ref f_parted)))
    (l_parted : K.lookup f_parted = some ⟨oc_parted, od_parted, .func (PySem.W.fnOf "parted" "parted" (defArgs s_parted) (defBody s_parted) (defScope s_parted) .none kV_parted dc_parted pm_parted an_parted cd_parted ct_parted), sl_parted⟩)
    (c_parted : PySem.W.codeIn K cd_parted "parted" = true) (k_parted : PySem.W.keepIn K (.ref f_parted) = true)
    {f__law_begun : Addr} {od__law_begun an__law_begun : Option Addr} {sl__law_begun : Array (Option Value)} {oc__law_begun kV__law_begun dc__law_begun pm__law_begun cd__law_begun ct__law_begun : Value}
    (a__law_begun : PySem.W.nsIn K mainGlobals "_law_begun" = some (some (.ref f__law_begun)))
    (l__law_begun : K.lookup f__law_begun = some ⟨oc__law_begun, od__law_begun, .func (PySem.W.fnOf "_law_begun" "_law_begun" (defArgs s__law_begun) (defBody s__law_begun) (defScope s__law_begun) .none kV__law_begun dc__law_begun pm__law_begun an__law_begun cd__law_begun ct__law_begun), sl__law_begun⟩)
    (c__law_begun : PySem.W.codeIn K cd__law_begun "_law_begun" = true) (k__law_begun : PySem.W.keepIn K (.ref f__law_begun) = true)
    {f__law_mixed : Addr} {od__law_mixed an__law_mixed : Option Addr} {sl__law_mixed : Array (Option Value)} {oc__law_mixed kV__law_mixed dc__law_mixed pm__law_mixed cd__law_mixed ct__law_mixed : Value}
    (a__law_mixed : PySem.W.nsIn K mainGlobals "_law_mixed" = some (some (.ref f__law_mixed)))
    (l__law_mixed : K.lookup f__law_mixed = some ⟨oc__law_mixed, od__law_mixed, .func (PySem.W.fnOf "_law_mixed" "_law_mixed" (defArgs s__law_mixed) (defBody s__law_mixed) (defScope s__law_mixed) .none kV__law_mixed dc__law_mixed pm__law_mixed an__law_mixed cd__law_mixed ct__law_mixed), sl__law_mixed⟩)
    (c__law_mixed : PySem.W.codeIn K cd__law_mixed "_law_mixed" = true) (k__law_mixed : PySem.W.keepIn K (.ref f__law_mixed) = true)
    {f__law_take : Addr} {od__law_take an__law_take : Option Addr} {sl__law_take : Array (Option Value)} {oc__law_take kV__law_take dc__law_take pm__law_take cd__law_take ct__law_take : Value}
    (a__law_take : PySem.W.nsIn K mainGlobals "_law_take" = some (some (.ref f__law_take)))
    (l__law_take : K.lookup f__law_take = some ⟨oc__law_take, od__law_take, .func (PySem.W.fnOf "_law_take" "_law_take" (defArgs s__law_take) (defBody s__law_take) (defScope s__law_take) .none kV__law_take dc__law_take pm__law_take an__law_take cd__law_take ct__law_take), sl__law_take⟩)
    (c__law_take : PySem.W.codeIn K cd__law_take "_law_take" = true) (k__law_take : PySem.W.keepIn K (.ref f__law_take) = true)
    {f__law_pick : Addr} {od__law_pick an__law_pick : Option Addr} {sl__law_pick : Array (Option Value)} {oc__law_pick kV__law_pick dc__law_pick pm__law_pick cd__law_pick ct__law_pick : Value}
    (a__law_pick : PySem.W.nsIn K mainGlobals "_law_pick" = some (some (.ref f__law_pick)))
    (l__law_pick : K.lookup f__law_pick = some ⟨oc__law_pick, od__law_pick, .func (PySem.W.fnOf "_law_pick" "_law_pick" (defArgs s__law_pick) (defBody s__law_pick) (defScope s__law_pick) .none kV__law_pick dc__law_pick pm__law_pick an__law_pick cd__law_pick ct__law_pick), sl__law_pick⟩)
    (c__law_pick : PySem.W.codeIn K cd__law_pick "_law_pick" = true) (k__law_pick : PySem.W.keepIn K (.ref f__law_pick) = true)
    {f__law_word : Addr} {od__law_word an__law_word : Option Addr} {sl__law_word : Array (Option Value)} {oc__law_word kV__law_word dc__law_word pm__law_word cd__law_word ct__law_word : Value}
    (a__law_word : PySem.W.nsIn K mainGlobals "_law_word" = some (some (.ref f__law_word)))
    (l__law_word : K.lookup f__law_word = some ⟨oc__law_word, od__law_word, .func (PySem.W.fnOf "_law_word" "_law_word" (defArgs s__law_word) (defBody s__law_word) (defScope s__law_word) .none kV__law_word dc__law_word pm__law_word an__law_word cd__law_word ct__law_word), sl__law_word⟩)
    (c__law_word : PySem.W.codeIn K cd__law_word "_law_word" = true) (k__law_word : PySem.W.keepIn K (.ref f__law_word) = true)
    {f__law_words : Addr} {od__law_words an__law_words : Option Addr} {sl__law_words : Array (Option Value)} {oc__law_words kV__law_words dc__law_words pm__law_words cd__law_words ct__law_words : Value}
    (a__law_words : PySem.W.nsIn K mainGlobals "_law_words" = some (some (.ref f__law_words)))
    (l__law_words : K.lookup f__law_words = some ⟨oc__law_words, od__law_words, .func (PySem.W.fnOf "_law_words" "_law_words" (defArgs s__law_words) (defBody s__law_words) (defScope s__law_words) .none kV__law_words dc__law_words pm__law_words an__law_words cd__law_words ct__law_words), sl__law_words⟩)
    (c__law_words : PySem.W.codeIn K cd__law_words "_law_words" = true) (k__law_words : PySem.W.keepIn K (.ref f__law_words) = true)
    {f__law_known : Addr} {od__law_known an__law_known : Option Addr} {sl__law_known : Array (Option Value)} {oc__law_known kV__law_known dc__law_known pm__law_known cd__law_known ct__law_known : Value}
    (a__law_known : PySem.W.nsIn K mainGlobals "_law_known" = some (some (.ref f__law_known)))
    (l__law_known : K.lookup f__law_known = some ⟨oc__law_known, od__law_known, .func (PySem.W.fnOf "_law_known" "_law_known" (defArgs s__law_known) (defBody s__law_known) (defScope s__law_known) .none kV__law_known dc__law_known pm__law_known an__law_known cd__law_known ct__law_known), sl__law_known⟩)
    (c__law_known : PySem.W.codeIn K cd__law_known "_law_known" = true) (k__law_known : PySem.W.keepIn K (.ref f__law_known) = true)
    {f__law_decided : Addr} {od__law_decided an__law_decided : Option Addr} {sl__law_decided : Array (Option Value)} {oc__law_decided kV__law_decided dc__law_decided pm__law_decided cd__law_decided ct__law_decided : Value}
    (a__law_decided : PySem.W.nsIn K mainGlobals "_law_decided" = some (some (.ref f__law_decided)))
    (l__law_decided : K.lookup f__law_decided = some ⟨oc__law_decided, od__law_decided, .func (PySem.W.fnOf "_law_decided" "_law_decided" (defArgs s__law_decided) (defBody s__law_decided) (defScope s__law_decided) .none kV__law_decided dc__law_decided pm__law_decided an__law_decided cd__law_decided ct__law_decided), sl__law_decided⟩)
    (c__law_decided : PySem.W.codeIn K cd__law_decided "_law_decided" = true) (k__law_decided : PySem.W.keepIn K (.ref f__law_decided) = true)
    {f__law_all_views : Addr} {od__law_all_views an__law_all_views : Option Addr} {sl__law_all_views : Array (Option Value)} {oc__law_all_views kV__law_all_views dc__law_all_views pm__law_all_views cd__law_all_views ct__law_all_views : Value}
    (a__law_all_views : PySem.W.nsIn K mainGlobals "_law_all_views" = some (some (.ref f__law_all_views)))
    (l__law_all_views : K.lookup f__law_all_views = some ⟨oc__law_all_views, od__law_all_views, .func (PySem.W.fnOf "_law_all_views" "_law_all_views" (defArgs s__law_all_views) (defBody s__law_all_views) (defScope s__law_all_views) .none kV__law_all_views dc__law_all_views pm__law_all_views an__law_all_views cd__law_all_views ct__law_all_views), sl__law_all_views⟩)
    (c__law_all_views : PySem.W.codeIn K cd__law_all_views "_law_all_views" = true) (k__law_all_views : PySem.W.keepIn K (.ref f__law_all_views) = true)
    {f__law_choice : Addr} {od__law_choice an__law_choice : Option Addr} {sl__law_choice : Array (Option Value)} {oc__law_choice kV__law_choice dc__law_choice pm__law_choice cd__law_choice ct__law_choice : Value}
    (a__law_choice : PySem.W.nsIn K mainGlobals "_law_choice" = some (some (.ref f__law_choice)))
    (l__law_choice : K.lookup f__law_choice = some ⟨oc__law_choice, od__law_choice, .func (PySem.W.fnOf "_law_choice" "_law_choice" (defArgs s__law_choice) (defBody s__law_choice) (defScope s__law_choice) .none kV__law_choice dc__law_choice pm__law_choice an__law_choice cd__law_choice ct__law_choice), sl__law_choice⟩)
    (c__law_choice : PySem.W.codeIn K cd__law_choice "_law_choice" = true) (k__law_choice : PySem.W.keepIn K (.ref f__law_choice) = true)
    {f__law_any_rule : Addr} {od__law_any_rule an__law_any_rule : Option Addr} {sl__law_any_rule : Array (Option Value)} {oc__law_any_rule kV__law_any_rule dc__law_any_rule pm__law_any_rule cd__law_any_rule ct__law_any_rule : Value}
    (a__law_any_rule : PySem.W.nsIn K mainGlobals "_law_any_rule" = some (some (.ref f__law_any_rule)))
    (l__law_any_rule : K.lookup f__law_any_rule = some ⟨oc__law_any_rule, od__law_any_rule, .func (PySem.W.fnOf "_law_any_rule" "_law_any_rule" (defArgs s__law_any_rule) (defBody s__law_any_rule) (defScope s__law_any_rule) .none kV__law_any_rule dc__law_any_rule pm__law_any_rule an__law_any_rule cd__law_any_rule ct__law_any_rule), sl__law_any_rule⟩)
    (c__law_any_rule : PySem.W.codeIn K cd__law_any_rule "_law_any_rule" = true) (k__law_any_rule : PySem.W.keepIn K (.ref f__law_any_rule) = true)
    {f__law_any_keeper : Addr} {od__law_any_keeper an__law_any_keeper : Option Addr} {sl__law_any_keeper : Array (Option Value)} {oc__law_any_keeper kV__law_any_keeper dc__law_any_keeper pm__law_any_keeper cd__law_any_keeper ct__law_any_keeper : Value}
    (a__law_any_keeper : PySem.W.nsIn K mainGlobals "_law_any_keeper" = some (some (.ref f__law_any_keeper)))
    (l__law_any_keeper : K.lookup f__law_any_keeper = some ⟨oc__law_any_keeper, od__law_any_keeper, .func (PySem.W.fnOf "_law_any_keeper" "_law_any_keeper" (defArgs s__law_any_keeper) (defBody s__law_any_keeper) (defScope s__law_any_keeper) .none kV__law_any_keeper dc__law_any_keeper pm__law_any_keeper an__law_any_keeper cd__law_any_keeper ct__law_any_keeper), sl__law_any_keeper⟩)
    (c__law_any_keeper : PySem.W.codeIn K cd__law_any_keeper "_law_any_keeper" = true) (k__law_any_keeper : PySem.W.keepIn K (.ref f__law_any_keeper) = true)
    {f__law_near : Addr} {od__law_near an__law_near : Option Addr} {sl__law_near : Array (Option Value)} {oc__law_near kV__law_near dc__law_near pm__law_near cd__law_near ct__law_near : Value}
    (a__law_near : PySem.W.nsIn K mainGlobals "_law_near" = some (some (.ref f__law_near)))
    (l__law_near : K.lookup f__law_near = some ⟨oc__law_near, od__law_near, .func (PySem.W.fnOf "_law_near" "_law_near" (defArgs s__law_near) (defBody s__law_near) (defScope s__law_near) .none kV__law_near dc__law_near pm__law_near an__law_near cd__law_near ct__law_near), sl__law_near⟩)
    (c__law_near : PySem.W.codeIn K cd__law_near "_law_near" = true) (k__law_near : PySem.W.keepIn K (.ref f__law_near) = true)
    {f_law : Addr} {od_law an_law : Option Addr} {sl_law : Array (Option Value)} {oc_law kV_law dc_law pm_law cd_law ct_law : Value}
    (a_law : PySem.W.nsIn K mainGlobals "law" = some (some (.ref f_law)))
    (l_law : K.lookup f_law = some ⟨oc_law, od_law, .func (PySem.W.fnOf "law" "law" (defArgs s_law) (defBody s_law) (defScope s_law) .none kV_law dc_law pm_law an_law cd_law ct_law), sl_law⟩)
    (c_law : PySem.W.codeIn K cd_law "law" = true) (k_law : PySem.W.keepIn K (.ref f_law) = true)
    {f_Keeper_rules : Addr} {od_Keeper_rules an_Keeper_rules : Option Addr} {sl_Keeper_rules : Array (Option Value)} {oc_Keeper_rules kV_Keeper_rules dc_Keeper_rules pm_Keeper_rules cd_Keeper_rules ct_Keeper_rules : Value}
    {pa_Keeper_rules : Addr} {re_Keeper_rules : List Value} (a_Keeper_rules : PySem.W.findIn K (.ref C_Keeper) "rules" = some (some (.ref pa_Keeper_rules))) (gs_Keeper_rules : PySem.W.specialIn K (.ref pa_Keeper_rules) "__get__" = some (some (.builtin "property.__get__"))) (ti_Keeper_rules : PySem.W.takesIn K (.ref pa_Keeper_rules) = some true) (rc_Keeper_rules : PySem.W.recIn K pa_Keeper_rules "property" = some (.ref f_Keeper_rules :: re_Keeper_rules))
    (l_Keeper_rules : K.lookup f_Keeper_rules = some ⟨oc_Keeper_rules, od_Keeper_rules, .func (PySem.W.fnOf "rules" "Keeper.rules" (defArgs s_Keeper_rules) (defBody s_Keeper_rules) (defScope s_Keeper_rules) .none kV_Keeper_rules dc_Keeper_rules pm_Keeper_rules an_Keeper_rules cd_Keeper_rules ct_Keeper_rules), sl_Keeper_rules⟩)
    (c_Keeper_rules : PySem.W.codeIn K cd_Keeper_rules "Keeper.rules" = true) (k_Keeper_rules : PySem.W.keepIn K (.ref f_Keeper_rules) = true)
    {t_LETTERS : Tok} (n_LETTERS : PySem.W.nsIn K mainGlobals "LETTERS" = some (some (.str "abcdefghijklmnopqrstuvwxyz" t_LETTERS)))
    {t_LONGEST : Tok} (n_LONGEST : PySem.W.nsIn K mainGlobals "LONGEST" = some (some (.int 8 t_LONGEST)))
    {t_TURN : Tok} (n_TURN : PySem.W.nsIn K mainGlobals "TURN" = some (some (.str "turn" t_TURN)))
    {t_MOST_CONDITIONS : Tok} (n_MOST_CONDITIONS : PySem.W.nsIn K mainGlobals "MOST_CONDITIONS" = some (some (.int 6 t_MOST_CONDITIONS)))
    {t_MOST_RULES : Tok} (n_MOST_RULES : PySem.W.nsIn K mainGlobals "MOST_RULES" = some (some (.int 8 t_MOST_RULES)))
    {t_MOST_WANTS : Tok} (n_MOST_WANTS : PySem.W.nsIn K mainGlobals "MOST_WANTS" = some (some (.int 3 t_MOST_WANTS)))
    {t_MOST_WORDS : Tok} (n_MOST_WORDS : PySem.W.nsIn K mainGlobals "MOST_WORDS" = some (some (.int 3 t_MOST_WORDS)))
    {a_CONDITIONS : Addr} {oo_CONDITIONS : Option Addr} {ii_CONDITIONS : Array Value} {nn_CONDITIONS : Nat} {ss_CONDITIONS : Array (Option Value)} (n_CONDITIONS : PySem.W.nsIn K mainGlobals "CONDITIONS" = some (some (.ref a_CONDITIONS)))
    (v_CONDITIONS : K.lookup a_CONDITIONS = some ⟨.type "tuple", oo_CONDITIONS, .seq ii_CONDITIONS nn_CONDITIONS, ss_CONDITIONS⟩) (w_CONDITIONS : Vals ((["alone", "bare", "child", "free", "going", "gone", "held", "others", "right", "strays", "there", "tidy", "unwanted", "wanted", "wrong"] : List Str).map V.str) ii_CONDITIONS.toList)
    {a_PARTS : Addr} {oo_PARTS : Option Addr} {ii_PARTS : Array Value} {nn_PARTS : Nat} {ss_PARTS : Array (Option Value)} (n_PARTS : PySem.W.nsIn K mainGlobals "PARTS" = some (some (.ref a_PARTS)))
    (v_PARTS : K.lookup a_PARTS = some ⟨.type "tuple", oo_PARTS, .seq ii_PARTS nn_PARTS, ss_PARTS⟩) (w_PARTS : Vals ((["other", "own", "stray", "thing"] : List Str).map V.str) ii_PARTS.toList)
    {a_PLAIN_DEEDS : Addr} {oo_PLAIN_DEEDS : Option Addr} {ii_PLAIN_DEEDS : Array Value} {nn_PLAIN_DEEDS : Nat} {ss_PLAIN_DEEDS : Array (Option Value)} (n_PLAIN_DEEDS : PySem.W.nsIn K mainGlobals "PLAIN_DEEDS" = some (some (.ref a_PLAIN_DEEDS)))
    (v_PLAIN_DEEDS : K.lookup a_PLAIN_DEEDS = some ⟨.type "tuple", oo_PLAIN_DEEDS, .seq ii_PLAIN_DEEDS nn_PLAIN_DEEDS, ss_PLAIN_DEEDS⟩) (w_PLAIN_DEEDS : Vals ((["clear", "correct", "hold", "make", "mark", "release", "strike"] : List Str).map V.str) ii_PLAIN_DEEDS.toList)
    (z_abs : PySem.W.nsIn K mainGlobals "abs" = some none)
    (z_all : PySem.W.nsIn K mainGlobals "all" = some none)
    (z_bool : PySem.W.nsIn K mainGlobals "bool" = some none)
    (z_enumerate : PySem.W.nsIn K mainGlobals "enumerate" = some none)
    (z_int : PySem.W.nsIn K mainGlobals "int" = some none)
    (z_isinstance : PySem.W.nsIn K mainGlobals "isinstance" = some none)
    (z_len : PySem.W.nsIn K mainGlobals "len" = some none)
    (z_list : PySem.W.nsIn K mainGlobals "list" = some none)
    (z_min : PySem.W.nsIn K mainGlobals "min" = some none)
    (z_range : PySem.W.nsIn K mainGlobals "range" = some none)
    (z_repr : PySem.W.nsIn K mainGlobals "repr" = some none)
    (z_set : PySem.W.nsIn K mainGlobals "set" = some none)
    (z_sorted : PySem.W.nsIn K mainGlobals "sorted" = some none)
    (z_str : PySem.W.nsIn K mainGlobals "str" = some none)
    (z_tuple : PySem.W.nsIn K mainGlobals "tuple" = some none) : Top K mg :=
  { ca := { Keeper := C_Keeper },
    g_Keeper := PySem.W.mg_of X G a_Keeper, cl_Keeper := ⟨pg_Keeper, hd_Keeper, po_Keeper, sa_Keeper⟩,
    mk_Keeper := ⟨mk_Keeper, a_Keeper___init__, i_Keeper___init__, kc_Keeper⟩,
    na_Keeper_own_name := na_Keeper_own_name,
    na_Keeper_own_rules := na_Keeper_own_rules,
    na_Keeper_own_wants := na_Keeper_own_wants,
    f_is_list := f_is_list, d_is_list := _, F_is_list := fun_mk (st := s_is_list) l_is_list c_is_list k_is_list,
    g_is_list := PySem.W.mg_of X G a_is_list,
    b_is_list := (fun_mk (st := s_is_list) l_is_list c_is_list k_is_list).binds (ps := ["value"]) fun _ _ _ _ _ _ us hl => match us, hl with | [_], _ => rfl,
    f_is_word := f_is_word, d_is_word := _, F_is_word := fun_mk (st := s_is_word) l_is_word c_is_word k_is_word,
    g_is_word := PySem.W.mg_of X G a_is_word,
    b_is_word := (fun_mk (st := s_is_word) l_is_word c_is_word k_is_word).binds (ps := ["value"]) fun _ _ _ _ _ _ us hl => match us, hl with | [_], _ => rfl,
    f_thing_conditions := f_thing_conditions, d_thing_conditions := _, F_thing_conditions := fun_mk (st := s_thing_conditions) l_thing_conditions c_thing_conditions k_thing_conditions,
    g_thing_conditions := PySem.W.mg_of X G a_thing_conditions,
    b_thing_conditions := (fun_mk (st := s_thing_conditions) l_thing_conditions c_thing_conditions k_thing_conditions).binds (ps := ["thing", "wants"]) fun _ _ _ _ _ _ us hl => match us, hl with | [_, _], _ => rfl,
    f_own_conditions := f_own_conditions, d_own_conditions := _, F_own_conditions := fun_mk (st := s_own_conditions) l_own_conditions c_own_conditions k_own_conditions,
    g_own_conditions := PySem.W.mg_of X G a_own_conditions,
    b_own_conditions := (fun_mk (st := s_own_conditions) l_own_conditions c_own_conditions k_own_conditions).binds (ps := ["thing", "own"]) fun _ _ _ _ _ _ us hl => match us, hl with | [_, _], _ => rfl,
    f_held_for := f_held_for, d_held_for := _, F_held_for := fun_mk (st := s_held_for) l_held_for c_held_for k_held_for,
    g_held_for := PySem.W.mg_of X G a_held_for,
    b_held_for := (fun_mk (st := s_held_for) l_held_for c_held_for k_held_for).binds (ps := ["view", "wants"]) fun _ _ _ _ _ _ us hl => match us, hl with | [_, _], _ => rfl,
    f_things_of := f_things_of, d_things_of := _, F_things_of := fun_mk (st := s_things_of) l_things_of c_things_of k_things_of,
    g_things_of := PySem.W.mg_of X G a_things_of,
    b_things_of := (fun_mk (st := s_things_of) l_things_of c_things_of k_things_of).binds (ps := ["words"]) fun _ _ _ _ _ _ us hl => match us, hl with | [_], _ => rfl,
    f_views_of := f_views_of, d_views_of := _, F_views_of := fun_mk (st := s_views_of) l_views_of c_views_of k_views_of,
    g_views_of := PySem.W.mg_of X G a_views_of,
    b_views_of := (fun_mk (st := s_views_of) l_views_of c_views_of k_views_of).binds (ps := ["words"]) fun _ _ _ _ _ _ us hl => match us, hl with | [_], _ => rfl,
    f_are_different := f_are_different, d_are_different := _, F_are_different := fun_mk (st := s_are_different) l_are_different c_are_different k_are_different,
    g_are_different := PySem.W.mg_of X G a_are_different,
    b_are_different := (fun_mk (st := s_are_different) l_are_different c_are_different k_are_different).binds (ps := ["things", "some"]) fun _ _ _ _ _ _ us hl => match us, hl with | [_, _], _ => rfl,
    f_is_deed := f_is_deed, d_is_deed := _, F_is_deed := fun_mk (st := s_is_deed) l_is_deed c_is_deed k_is_deed,
    g_is_deed := PySem.W.mg_of X G a_is_deed,
    b_is_deed := (fun_mk (st := s_is_deed) l_is_deed c_is_deed k_is_deed).binds (ps := ["value"]) fun _ _ _ _ _ _ us hl => match us, hl with | [_], _ => rfl,
    f_is_rule := f_is_rule, d_is_rule := _, F_is_rule := fun_mk (st := s_is_rule) l_is_rule c_is_rule k_is_rule,
    g_is_rule := PySem.W.mg_of X G a_is_rule,
    b_is_rule := (fun_mk (st := s_is_rule) l_is_rule c_is_rule k_is_rule).binds (ps := ["value"]) fun _ _ _ _ _ _ us hl => match us, hl with | [_], _ => rfl,
    f_are_wants := f_are_wants, d_are_wants := _, F_are_wants := fun_mk (st := s_are_wants) l_are_wants c_are_wants k_are_wants,
    g_are_wants := PySem.W.mg_of X G a_are_wants,
    b_are_wants := (fun_mk (st := s_are_wants) l_are_wants c_are_wants k_are_wants).binds (ps := ["value"]) fun _ _ _ _ _ _ us hl => match us, hl with | [_], _ => rfl,
    f_Keeper___init__ := f_Keeper___init__, d_Keeper___init__ := _, F_Keeper___init__ := fun_mk (st := s_Keeper___init__) l_Keeper___init__ c_Keeper___init__ k_Keeper___init__,
    b_Keeper___init__ := (fun_mk (st := s_Keeper___init__) l_Keeper___init__ c_Keeper___init__ k_Keeper___init__).binds (ps := ["self", "name", "wants", "rules"]) fun _ _ _ _ _ _ us hl => match us, hl with | [_, _, _, _], _ => rfl,
    f_Keeper_decided := f_Keeper_decided, d_Keeper_decided := _, F_Keeper_decided := fun_mk (st := s_Keeper_decided) l_Keeper_decided c_Keeper_decided k_Keeper_decided,
    me_Keeper_decided := ⟨a_Keeper_decided, i_Keeper_decided, k_Keeper_decided⟩,
    b_Keeper_decided := (fun_mk (st := s_Keeper_decided) l_Keeper_decided c_Keeper_decided k_Keeper_decided).binds (ps := ["self", "view"]) fun _ _ _ _ _ _ us hl => match us, hl with | [_, _], _ => rfl,
    f_need_words := f_need_words, d_need_words := _, F_need_words := fun_mk (st := s_need_words) l_need_words c_need_words k_need_words,
    g_need_words := PySem.W.mg_of X G a_need_words,
    b_need_words := (fun_mk (st := s_need_words) l_need_words c_need_words k_need_words).binds (ps := ["words"]) fun _ _ _ _ _ _ us hl => match us, hl with | [_], _ => rfl,
    f_all_views := f_all_views, d_all_views := _, F_all_views := fun_mk (st := s_all_views) l_all_views c_all_views k_all_views,
    g_all_views := PySem.W.mg_of X G a_all_views,
    b_all_views := (fun_mk (st := s_all_views) l_all_views c_all_views k_all_views).binds (ps := ["words"]) fun _ _ _ _ _ _ us hl => match us, hl with | [_], _ => rfl,
    f_choice := f_choice, d_choice := _, F_choice := fun_mk (st := s_choice) l_choice c_choice k_choice,
    g_choice := PySem.W.mg_of X G a_choice,
    b_choice := (fun_mk (st := s_choice) l_choice c_choice k_choice).binds (ps := ["keeper", "view"]) fun _ _ _ _ _ _ us hl => match us, hl with | [_, _], _ => rfl,
    f_parted := f_parted, d_parted := _, F_parted := fun_mk (st := s_parted) l_parted c_parted k_parted,
    g_parted := PySem.W.mg_of X G a_parted,
    b_parted := (fun_mk (st := s_parted) l_parted c_parted k_parted).binds (ps := ["one", "other", "words"]) fun _ _ _ _ _ _ us hl => match us, hl with | [_, _, _], _ => rfl,
    f__law_begun := f__law_begun, d__law_begun := _, F__law_begun := fun_mk (st := s__law_begun) l__law_begun c__law_begun k__law_begun,
    g__law_begun := PySem.W.mg_of X G a__law_begun,
    b__law_begun := (fun_mk (st := s__law_begun) l__law_begun c__law_begun k__law_begun).binds (ps := ["_law_script"]) fun _ _ _ _ _ _ us hl => match us, hl with | [_], _ => rfl,
    f__law_mixed := f__law_mixed, d__law_mixed := _, F__law_mixed := fun_mk (st := s__law_mixed) l__law_mixed c__law_mixed k__law_mixed,
    g__law_mixed := PySem.W.mg_of X G a__law_mixed,
    b__law_mixed := (fun_mk (st := s__law_mixed) l__law_mixed c__law_mixed k__law_mixed).binds (ps := ["_law_draw"]) fun _ _ _ _ _ _ us hl => match us, hl with | [_], _ => rfl,
    f__law_take := f__law_take, d__law_take := _, F__law_take := fun_mk (st := s__law_take) l__law_take c__law_take k__law_take,
    g__law_take := PySem.W.mg_of X G a__law_take,
    b__law_take := (fun_mk (st := s__law_take) l__law_take c__law_take k__law_take).binds (ps := ["_law_draw", "_law_many"]) fun _ _ _ _ _ _ us hl => match us, hl with | [_, _], _ => rfl,
    f__law_pick := f__law_pick, d__law_pick := _, F__law_pick := fun_mk (st := s__law_pick) l__law_pick c__law_pick k__law_pick,
    g__law_pick := PySem.W.mg_of X G a__law_pick,
    b__law_pick := (fun_mk (st := s__law_pick) l__law_pick c__law_pick k__law_pick).binds (ps := ["_law_draw", "_law_some"]) fun _ _ _ _ _ _ us hl => match us, hl with | [_, _], _ => rfl,
    f__law_word := f__law_word, d__law_word := _, F__law_word := fun_mk (st := s__law_word) l__law_word c__law_word k__law_word,
    g__law_word := PySem.W.mg_of X G a__law_word,
    b__law_word := (fun_mk (st := s__law_word) l__law_word c__law_word k__law_word).binds (ps := ["_law_draw"]) fun _ _ _ _ _ _ us hl => match us, hl with | [_], _ => rfl,
    f__law_words := f__law_words, d__law_words := _, F__law_words := fun_mk (st := s__law_words) l__law_words c__law_words k__law_words,
    g__law_words := PySem.W.mg_of X G a__law_words,
    b__law_words := (fun_mk (st := s__law_words) l__law_words c__law_words k__law_words).binds (ps := ["_law_draw", "_law_many"]) fun _ _ _ _ _ _ us hl => match us, hl with | [_, _], _ => rfl,
    f__law_known := f__law_known, d__law_known := _, F__law_known := fun_mk (st := s__law_known) l__law_known c__law_known k__law_known,
    g__law_known := PySem.W.mg_of X G a__law_known,
    b__law_known := (fun_mk (st := s__law_known) l__law_known c__law_known k__law_known).binds (ps := ["_law_seen", "_law_wants"]) fun _ _ _ _ _ _ us hl => match us, hl with | [_, _], _ => rfl,
    f__law_decided := f__law_decided, d__law_decided := _, F__law_decided := fun_mk (st := s__law_decided) l__law_decided c__law_decided k__law_decided,
    g__law_decided := PySem.W.mg_of X G a__law_decided,
    b__law_decided := (fun_mk (st := s__law_decided) l__law_decided c__law_decided k__law_decided).binds (ps := ["_law_person", "_law_seen"]) fun _ _ _ _ _ _ us hl => match us, hl with | [_, _], _ => rfl,
    f__law_all_views := f__law_all_views, d__law_all_views := _, F__law_all_views := fun_mk (st := s__law_all_views) l__law_all_views c__law_all_views k__law_all_views,
    g__law_all_views := PySem.W.mg_of X G a__law_all_views,
    b__law_all_views := (fun_mk (st := s__law_all_views) l__law_all_views c__law_all_views k__law_all_views).binds (ps := ["_law_some"]) fun _ _ _ _ _ _ us hl => match us, hl with | [_], _ => rfl,
    f__law_choice := f__law_choice, d__law_choice := _, F__law_choice := fun_mk (st := s__law_choice) l__law_choice c__law_choice k__law_choice,
    g__law_choice := PySem.W.mg_of X G a__law_choice,
    b__law_choice := (fun_mk (st := s__law_choice) l__law_choice c__law_choice k__law_choice).binds (ps := ["_law_person", "_law_seen"]) fun _ _ _ _ _ _ us hl => match us, hl with | [_, _], _ => rfl,
    f__law_any_rule := f__law_any_rule, d__law_any_rule := _, F__law_any_rule := fun_mk (st := s__law_any_rule) l__law_any_rule c__law_any_rule k__law_any_rule,
    g__law_any_rule := PySem.W.mg_of X G a__law_any_rule,
    b__law_any_rule := (fun_mk (st := s__law_any_rule) l__law_any_rule c__law_any_rule k__law_any_rule).binds (ps := ["_law_draw", "_law_some"]) fun _ _ _ _ _ _ us hl => match us, hl with | [_, _], _ => rfl,
    f__law_any_keeper := f__law_any_keeper, d__law_any_keeper := _, F__law_any_keeper := fun_mk (st := s__law_any_keeper) l__law_any_keeper c__law_any_keeper k__law_any_keeper,
    g__law_any_keeper := PySem.W.mg_of X G a__law_any_keeper,
    b__law_any_keeper := (fun_mk (st := s__law_any_keeper) l__law_any_keeper c__law_any_keeper k__law_any_keeper).binds (ps := ["_law_draw", "_law_tag", "_law_some"]) fun _ _ _ _ _ _ us hl => match us, hl with | [_, _, _], _ => rfl,
    f__law_near := f__law_near, d__law_near := _, F__law_near := fun_mk (st := s__law_near) l__law_near c__law_near k__law_near,
    g__law_near := PySem.W.mg_of X G a__law_near,
    b__law_near := (fun_mk (st := s__law_near) l__law_near c__law_near k__law_near).binds (ps := ["_law_draw", "_law_person", "_law_some"]) fun _ _ _ _ _ _ us hl => match us, hl with | [_, _, _], _ => rfl,
    f_law := f_law, d_law := _, F_law := fun_mk (st := s_law) l_law c_law k_law,
    g_law := PySem.W.mg_of X G a_law,
    b_law := (fun_mk (st := s_law) l_law c_law k_law).binds (ps := ["_law_script"]) fun _ _ _ _ _ _ us hl => match us, hl with | [_], _ => rfl,
    f_Keeper_rules := f_Keeper_rules, d_Keeper_rules := _, F_Keeper_rules := fun_mk (st := s_Keeper_rules) l_Keeper_rules c_Keeper_rules k_Keeper_rules,
    pa_Keeper_rules := pa_Keeper_rules, pr_Keeper_rules := ⟨a_Keeper_rules, gs_Keeper_rules, ti_Keeper_rules, ⟨_, rc_Keeper_rules⟩⟩, pb_Keeper_rules := (fun_mk (st := s_Keeper_rules) l_Keeper_rules c_Keeper_rules k_Keeper_rules).binds (ps := ["self"]) fun _ _ _ _ _ _ us hl => match us, hl with | [_], _ => rfl,
    b_Keeper_rules := (fun_mk (st := s_Keeper_rules) l_Keeper_rules c_Keeper_rules k_Keeper_rules).binds (ps := ["self"]) fun _ _ _ _ _ _ us hl => match us, hl with | [_], _ => rfl,
    kw_parted_words_other_one := kbn_mk [2, 1, 0] (fun_mk (st := s_parted) l_parted c_parted k_parted) fun _ _ _ _ _ _ ws hl => match ws, hl with | [_, _, _], _ => rfl,
    t_LETTERS := t_LETTERS, c_LETTERS := PySem.W.mg_of X G n_LETTERS,
    t_LONGEST := t_LONGEST, c_LONGEST := PySem.W.mg_of X G n_LONGEST,
    t_TURN := t_TURN, c_TURN := PySem.W.mg_of X G n_TURN,
    t_MOST_CONDITIONS := t_MOST_CONDITIONS, c_MOST_CONDITIONS := PySem.W.mg_of X G n_MOST_CONDITIONS,
    t_MOST_RULES := t_MOST_RULES, c_MOST_RULES := PySem.W.mg_of X G n_MOST_RULES,
    t_MOST_WANTS := t_MOST_WANTS, c_MOST_WANTS := PySem.W.mg_of X G n_MOST_WANTS,
    t_MOST_WORDS := t_MOST_WORDS, c_MOST_WORDS := PySem.W.mg_of X G n_MOST_WORDS,
    a_CONDITIONS := a_CONDITIONS, c_CONDITIONS := PySem.W.mg_of X G n_CONDITIONS, r_CONDITIONS := fun G => .tup (.inr ⟨_, _, _, v_CONDITIONS, rfl, rfl, ktup_size w_CONDITIONS (Nat.le_of_ble_eq_true rfl), w_CONDITIONS⟩) (RpL.strs (["alone", "bare", "child", "free", "going", "gone", "held", "others", "right", "strays", "there", "tidy", "unwanted", "wanted", "wrong"] : List Str)),
    a_PARTS := a_PARTS, c_PARTS := PySem.W.mg_of X G n_PARTS, r_PARTS := fun G => .tup (.inr ⟨_, _, _, v_PARTS, rfl, rfl, ktup_size w_PARTS (Nat.le_of_ble_eq_true rfl), w_PARTS⟩) (RpL.strs (["other", "own", "stray", "thing"] : List Str)),
    a_PLAIN_DEEDS := a_PLAIN_DEEDS, c_PLAIN_DEEDS := PySem.W.mg_of X G n_PLAIN_DEEDS, r_PLAIN_DEEDS := fun G => .tup (.inr ⟨_, _, _, v_PLAIN_DEEDS, rfl, rfl, ktup_size w_PLAIN_DEEDS (Nat.le_of_ble_eq_true rfl), w_PLAIN_DEEDS⟩) (RpL.strs (["clear", "correct", "hold", "make", "mark", "release", "strike"] : List Str)),
    m_abs := PySem.W.mg_none_of X G z_abs,
    m_all := PySem.W.mg_none_of X G z_all,
    m_bool := PySem.W.mg_none_of X G z_bool,
    m_enumerate := PySem.W.mg_none_of X G z_enumerate,
    m_int := PySem.W.mg_none_of X G z_int,
    m_isinstance := PySem.W.mg_none_of X G z_isinstance,
    m_len := PySem.W.mg_none_of X G z_len,
    m_list := PySem.W.mg_none_of X G z_list,
    m_min := PySem.W.mg_none_of X G z_min,
    m_range := PySem.W.mg_none_of X G z_range,
    m_repr := PySem.W.mg_none_of X G z_repr,
    m_set := PySem.W.mg_none_of X G z_set,
    m_sorted := PySem.W.mg_none_of X G z_sorted,
    m_str := PySem.W.mg_none_of X G z_str,
    m_tuple := PySem.W.mg_none_of X G z_tuple }
theorem all_mk {l : PySem.W.OpenLaw} {w : World} {K : PySem.W.Frag} {h : Heap} {mg : Str → Option Value} {fa : Addr} (X : K.In h) (G : h.Ns mainGlobals mg) (hfa : mg "law" = some (.ref fa)) (T : Top K mg) (hb : ∀ (s : Shared) (v : Value), BindsTo s T.d_law ⟨[v], []⟩ [("_law_script", v)]) :
    ∃ fd : FuncData, (∀ (s : Shared) (v : Value), BindsTo s fd ⟨[v], []⟩ [("_law_script", v)]) ∧ ∀ base : Heap, K.In base → base.Ns mainGlobals mg → FnG l.prog w K mg base CX0 6 fa fd ["_law_script"] (toSp K 1 S_law) := by
  obtain rfl : fa = T.f_law := by have e := hfa.symm.trans T.g_law; cases e; rfl
  exact ⟨T.d_law, hb, fun _ _ _ => ok_law T (k_law T.ca)⟩
end Lk45
open PySem PySem.W PyProof.Rows
set_option maxHeartbeats 0 in
theorem PySem.Challenge.cw_latekeepers_k45_keepers_parted_holds : PySem.Challenge.rw_latekeepers_k45_keepers_parted.Holds := by
  w_on; o_law; k_head; (case hw => w_witness2)
  k_fill
  refine TL.walk_ofG (l := PySem.Challenge.rw_latekeepers_k45_keepers_parted) (n := 63) (k := 6) (x := "_law_script") (CX := fun _ => L2.CX0) (sp := fun w => TL.toSp _ 1 Lk45.S_law) rfl (by decide) rfl ⟨rfl, by decide, by decide⟩ (fun w h Y => PySem.W.kIn_of Y) ?F (fun _ _ a ns hl only sq => TL.law_sp only sq (Lk45.law_true ns hl)) (fun _ _ _ _ _ h => h)
  case F =>
    intro w mg fa h KX G hmg
    refine' Lk45.all_mk KX G hmg (Lk45.top_mk KX G ?a_Keeper ?pg_Keeper ?hd_Keeper ?po_Keeper ?sa_Keeper ?mk_Keeper ?kc_Keeper ?na_Keeper_own_name ?na_Keeper_own_rules ?na_Keeper_own_wants ?a_is_list ?l_is_list ?c_is_list ?k_is_list ?a_is_word ?l_is_word ?c_is_word ?k_is_word ?a_thing_conditions ?l_thing_conditions ?c_thing_conditions ?k_thing_conditions ?a_own_conditions ?l_own_conditions ?c_own_conditions ?k_own_conditions ?a_held_for ?l_held_for ?c_held_for ?k_held_for ?a_things_of ?l_things_of ?c_things_of ?k_things_of ?a_views_of ?l_views_of ?c_views_of ?k_views_of ?a_are_different ?l_are_different ?c_are_different ?k_are_different ?a_is_deed ?l_is_deed ?c_is_deed ?k_is_deed ?a_is_rule ?l_is_rule ?c_is_rule ?k_is_rule ?a_are_wants ?l_are_wants ?c_are_wants ?k_are_wants ?a_Keeper___init__ ?i_Keeper___init__ ?l_Keeper___init__ ?c_Keeper___init__ ?k_Keeper___init__ ?a_Keeper_decided ?i_Keeper_decided ?l_Keeper_decided ?c_Keeper_decided ?k_Keeper_decided ?a_need_words ?l_need_words ?c_need_words ?k_need_words ?a_all_views ?l_all_views ?c_all_views ?k_all_views ?a_choice ?l_choice ?c_choice ?k_choice ?a_parted ?l_parted ?c_parted ?k_parted ?a__law_begun ?l__law_begun ?c__law_begun ?k__law_begun ?a__law_mixed ?l__law_mixed ?c__law_mixed ?k__law_mixed ?a__law_take ?l__law_take ?c__law_take ?k__law_take ?a__law_pick ?l__law_pick ?c__law_pick ?k__law_pick ?a__law_word ?l__law_word ?c__law_word ?k__law_word ?a__law_words ?l__law_words ?c__law_words ?k__law_words ?a__law_known ?l__law_known ?c__law_known ?k__law_known ?a__law_decided ?l__law_decided ?c__law_decided ?k__law_decided ?a__law_all_views ?l__law_all_views ?c__law_all_views ?k__law_all_views ?a__law_choice ?l__law_choice ?c__law_choice ?k__law_choice ?a__law_any_rule ?l__law_any_rule ?c__law_any_rule ?k__law_any_rule ?a__law_any_keeper ?l__law_any_keeper ?c__law_any_keeper ?k__law_any_keeper ?a__law_near ?l__law_near ?c__law_near ?k__law_near ?a_law ?l_law ?c_law ?k_law ?a_Keeper_rules ?gs_Keeper_rules ?ti_Keeper_rules ?rc_Keeper_rules ?l_Keeper_rules ?c_Keeper_rules ?k_Keeper_rules ?n_LETTERS ?n_LONGEST ?n_TURN ?n_MOST_CONDITIONS ?n_MOST_RULES ?n_MOST_WANTS ?n_MOST_WORDS ?n_CONDITIONS ?v_CONDITIONS ?w_CONDITIONS ?n_PARTS ?v_PARTS ?w_PARTS ?n_PLAIN_DEEDS ?v_PLAIN_DEEDS ?w_PLAIN_DEEDS ?z_abs ?z_all ?z_bool ?z_enumerate ?z_int ?z_isinstance ?z_len ?z_list ?z_min ?z_range ?z_repr ?z_set ?z_sorted ?z_str ?z_tuple) (fun s v => .of_eq rfl)
    (case a_Keeper => k_is); (case pg_Keeper => k_is); (case hd_Keeper => k_is); (case po_Keeper => k_is); (case sa_Keeper => k_is); (case mk_Keeper => k_is); (case kc_Keeper => k_is); (case na_Keeper_own_name => k_is); (case na_Keeper_own_rules => k_is); (case na_Keeper_own_wants => k_is); (case a_is_list => k_is); (case l_is_list => k_is); (case c_is_list => k_is); (case k_is_list => k_is); (case a_is_word => k_is); (case l_is_word => k_is); (case c_is_word => k_is); (case k_is_word => k_is); (case a_thing_conditions => k_is); (case l_thing_conditions => k_is); (case c_thing_conditions => k_is); (case k_thing_conditions => k_is); (case a_own_conditions => k_is); (case l_own_conditions => k_is); (case c_own_conditions => k_is); (case k_own_conditions => k_is); (case a_held_for => k_is); (case l_held_for => k_is); (case c_held_for => k_is); (case k_held_for => k_is); (case a_things_of => k_is); (case l_things_of => k_is); (case c_things_of => k_is); (case k_things_of => k_is); (case a_views_of => k_is); (case l_views_of => k_is); (case c_views_of => k_is); (case k_views_of => k_is); (case a_are_different => k_is); (case l_are_different => k_is); (case c_are_different => k_is); (case k_are_different => k_is); (case a_is_deed => k_is); (case l_is_deed => k_is); (case c_is_deed => k_is); (case k_is_deed => k_is); (case a_is_rule => k_is); (case l_is_rule => k_is); (case c_is_rule => k_is); (case k_is_rule => k_is); (case a_are_wants => k_is); (case l_are_wants => k_is); (case c_are_wants => k_is); (case k_are_wants => k_is); (case a_Keeper___init__ => k_is); (case i_Keeper___init__ => k_is); (case l_Keeper___init__ => k_is); (case c_Keeper___init__ => k_is); (case k_Keeper___init__ => k_is); (case a_Keeper_decided => k_is); (case i_Keeper_decided => k_is); (case l_Keeper_decided => k_is); (case c_Keeper_decided => k_is); (case k_Keeper_decided => k_is); (case a_need_words => k_is); (case l_need_words => k_is); (case c_need_words => k_is); (case k_need_words => k_is); (case a_all_views => k_is); (case l_all_views => k_is); (case c_all_views => k_is); (case k_all_views => k_is); (case a_choice => k_is); (case l_choice => k_is); (case c_choice => k_is); (case k_choice => k_is); (case a_parted => k_is); (case l_parted => k_is); (case c_parted => k_is); (case k_parted => k_is); (case a__law_begun => k_is); (case l__law_begun => k_is); (case c__law_begun => k_is); (case k__law_begun => k_is); (case a__law_mixed => k_is); (case l__law_mixed => k_is); (case c__law_mixed => k_is); (case k__law_mixed => k_is); (case a__law_take => k_is); (case l__law_take => k_is); (case c__law_take => k_is); (case k__law_take => k_is); (case a__law_pick => k_is); (case l__law_pick => k_is); (case c__law_pick => k_is); (case k__law_pick => k_is); (case a__law_word => k_is); (case l__law_word => k_is); (case c__law_word => k_is); (case k__law_word => k_is); (case a__law_words => k_is); (case l__law_words => k_is); (case c__law_words => k_is); (case k__law_words => k_is); (case a__law_known => k_is); (case l__law_known => k_is); (case c__law_known => k_is); (case k__law_known => k_is); (case a__law_decided => k_is); (case l__law_decided => k_is); (case c__law_decided => k_is); (case k__law_decided => k_is); (case a__law_all_views => k_is); (case l__law_all_views => k_is); (case c__law_all_views => k_is); (case k__law_all_views => k_is); (case a__law_choice => k_is); (case l__law_choice => k_is); (case c__law_choice => k_is); (case k__law_choice => k_is); (case a__law_any_rule => k_is); (case l__law_any_rule => k_is); (case c__law_any_rule => k_is); (case k__law_any_rule => k_is); (case a__law_any_keeper => k_is); (case l__law_any_keeper => k_is); (case c__law_any_keeper => k_is); (case k__law_any_keeper => k_is); (case a__law_near => k_is); (case l__law_near => k_is); (case c__law_near => k_is); (case k__law_near => k_is); (case a_law => k_is); (case l_law => k_is); (case c_law => k_is); (case k_law => k_is); (case a_Keeper_rules => k_is); (case gs_Keeper_rules => k_is); (case ti_Keeper_rules => k_is); (case rc_Keeper_rules => k_is); (case l_Keeper_rules => k_is); (case c_Keeper_rules => k_is); (case k_Keeper_rules => k_is); (case n_LETTERS => k_is); (case n_LONGEST => k_is); (case n_TURN => k_is); (case n_MOST_CONDITIONS => k_is); (case n_MOST_RULES => k_is); (case n_MOST_WANTS => k_is); (case n_MOST_WORDS => k_is); (case n_CONDITIONS => k_is); (case v_CONDITIONS => k_is); (case n_PARTS => k_is); (case v_PARTS => k_is); (case n_PLAIN_DEEDS => k_is); (case v_PLAIN_DEEDS => k_is); (case z_abs => k_is); (case z_all => k_is); (case z_bool => k_is); (case z_enumerate => k_is); (case z_int => k_is); (case z_isinstance => k_is); (case z_len => k_is); (case z_list => k_is); (case z_min => k_is); (case z_range => k_is); (case z_repr => k_is); (case z_set => k_is); (case z_sorted => k_is); (case z_str => k_is); (case z_tuple => k_is)
    (case w_CONDITIONS => exact .cons ⟨_, rfl⟩ (.cons ⟨_, rfl⟩ (.cons ⟨_, rfl⟩ (.cons ⟨_, rfl⟩ (.cons ⟨_, rfl⟩ (.cons ⟨_, rfl⟩ (.cons ⟨_, rfl⟩ (.cons ⟨_, rfl⟩ (.cons ⟨_, rfl⟩ (.cons ⟨_, rfl⟩ (.cons ⟨_, rfl⟩ (.cons ⟨_, rfl⟩ (.cons ⟨_, rfl⟩ (.cons ⟨_, rfl⟩ (.cons ⟨_, rfl⟩ (.nil))))))))))))))))
    (case w_PARTS => exact .cons ⟨_, rfl⟩ (.cons ⟨_, rfl⟩ (.cons ⟨_, rfl⟩ (.cons ⟨_, rfl⟩ (.nil)))))
    (case w_PLAIN_DEEDS => exact .cons ⟨_, rfl⟩ (.cons ⟨_, rfl⟩ (.cons ⟨_, rfl⟩ (.cons ⟨_, rfl⟩ (.cons ⟨_, rfl⟩ (.cons ⟨_, rfl⟩ (.cons ⟨_, rfl⟩ (.nil))))))))
