import PyProof.Rows.All
import Wide.All
import OpenK.AllK
import Wide.FinOn
import HandS.ForMost
import HandS.DictComp
import HandS.Conv
import HandS.IsInst
import HandS.Star
import HandS.MakeKw
import HandS.TupAny
import HandS.OwnEq
import HandS.Wide
import HandS.EndBits
import HandS.Keys
import KE.KSortTupG
import HandS.Defaults
import PyProof.InstEq
import HandS.Walk
import PyProof.ReprRoads
import KE.IntBitsLaws
import OpenK.KOps
import HandS.Property
import HandS.TryOnly
import PyProof.CallFns
import HandS.RaiseMore
import KE.LtData
import HandS.MakeKwOnly
import HandS.ExcOwn
import HandS.WordsExc
import HandS.HotCalls
import HandS.ExcInitHot
import PySem.Challenge.RW_maskwrites_k09_masks_made
import HandS.TupSets
import HandS.Set
import KE.KDictWalk
import KE.KDictList
import KE.KDictSum
import KE.KSuper
import KE.KExcSuper
import HandS.ExcInit
import HandS.ExcSuper
import KE.KExcIs
import HandS.ExcField
import HandS.ExcCtx
import HandS.TupLe
import HandS.Flow
import HandS.More
import KE.RegKSuper
import HandS.ExcIs
set_option Elab.async false
set_option linter.all false
set_option maxRecDepth 100000
set_option maxHeartbeats 4000000
/-! Gk: what the masks' laws want beyond the hand layer. -/
namespace Gk
open PySem PySem.Spec PyProof.Rows L2

/-! ### great numbers -/
abbrev nbits (i : Int) : Nat := Builtin.Int.intBits i
def CMulB (i j : Int) : Prop := nbits i + nbits j ≤ 134217728
def CPowB (i j : Int) : Prop := 0 ≤ j ∧ (nbits i : Int) * j ≤ 134217728
section
variable {X : Cx}
theorem op_mulB : OpR X (binaryOp .Mult) (rI CMulB fun i j => .int (i * j)) :=
  opI fun i j _ _ _ _ _ hc q => mul_int q (IntMulOk.of_le (Nat.le_refl _) (Nat.le_refl _) hc)
theorem op_powB : OpR X (binaryOp .Pow) (rI CPowB fun i j => .int (i ^ j.toNat)) :=
  opI fun i j _ _ _ _ _ hc q => pow_int hc.1 hc.2 q
end

/-! ### either way -/
section
variable {X : Cx}
theorem pi_or {tg it : Expr} {w1 w2 : TI} (h1 : PI X tg it w1) (h2 : PI X tg it w2) : PI X tg it (fun st H R => w1 st H R ∨ w2 st H R) :=
  ⟨fun ps s st H R I h => h.elim (h1.run ps s st H R I) (h2.run ps s st H R I)⟩
theorem pe_or2 {e : Expr} {t1 t2 : TE} (h1 : PE X e t1) (h2 : PE X e t2) : PE X e (fun st H Q => t1 st H Q ∨ t2 st H Q) :=
  ⟨fun ps s st H Q I h => h.elim (h1.run ps s st H Q I) (h2.run ps s st H Q I)⟩
theorem cr_or {f : Value} {r1 r2 : List V → Hp → VK → Prop} (h1 : CallR X f r1) (h2 : CallR X f r2) : CallR X f (fun vs H Q => r1 vs H Q ∨ r2 vs H Q) :=
  fun ps s st H xs us Q I r h => h.elim (h1 ps s st H xs us Q I r) (h2 ps s st H xs us Q I r)
end

/-! ### a dict made by a comprehension, whatever its keys -/
/-- what a turn's store asks: the dict's place, key, value, heap, what is wanted behind -/
abbrev TStore := Addr → V → V → Hp → (Hp → Prop) → Prop
structure StoreOk (P : Program) (w : World) (A : Around) (new : HO) (t : TStore) : Prop where
  fresh : ∀ (H : Hp) (h : Heap), sysModules < h.objs.size → ObjOk P w H (h.push { cls := .type "dict", data := .dict #[] }) h.objs.size new
  store : ∀ (X : Cx) (ps : List (Addr × Obj)) (st : L2.St) (H : Hp) (s : Shared) (D : Addr) (y z : V) (u r : Value) (R : Hp → Prop), X.prog = P → X.w = w → X.A = A →
    Inv X ps st H s → RelV y u → RelV z r → t D y z H R → wpAny (model P w) A (dictSet D u r) (fun _ s2 => ∃ H2, Inv X ps st H2 s2 ∧ R H2) X.xe s
def tDcG (new : HO) (t : TStore) (wi : TI) (g : TG) (tt : TT) (tk tv : TE) (vs : List Nat) : TE := fun st H Q => wi st H fun J H1 =>
  ∀ D, H1 D = none → ∃ W : Nat → Nat → Hp → Prop, (∃ m, W 0 m (upd H1 D new)) ∧ ∀ i m Ha, W i m Ha →
    (J.stop i Ha ∧ Q (.ref D) Ha) ∨
    (J.go i Ha ∧ ∃ Nx : Hp → Prop, (∀ Hb, Nx Hb → ∃ m2, m2 < m ∧ W (i + 1) m2 Hb) ∧ ∀ x Hb, J.yld i Ha x Hb →
      g x (wipe st vs) Hb fun st2 H2 => wipe st2 vs = wipe st vs ∧ tt st2 H2 fun b H3 =>
        if b = true then tk st2 H3 fun y H4 => tv st2 H4 fun z H5 => t D y z H5 Nx else Nx H3)

theorem dcG_core {X : Cx} {ps : List (Addr × Obj)} {s : Shared} {st : L2.St} {H : Hp} {Q : VK} {kx vx tg iter : Expr} {ifs : List Expr} {sc : Scope} {own : List (Str × Nat)} {pos pos2 : Pos}
    {wi : TI} {g : TG} {tt : TT} {tk tv : TE} {new : HO} {t : TStore} {Qf : Value → Shared → Prop}
    (so : StoreOk X.prog X.w X.A new t) (calm : X.calm = true) (nd : X.N.Nodup) (I : Inv X ps st H s) (walk : PI X tg iter wi) (ok : BlkOk X.N X.env.scope sc own)
    (pgA : ∀ (s : Shared) (H : Hp) (C : Addr) (cl : List (Str × Addr)) (fp : List Addr), PG (X.blk s H sc (compEnvC sc cl C X.env) fp) tg g)
    (ptA : ∀ (s : Shared) (H : Hp) (C : Addr) (cl : List (Str × Addr)) (fp : List Addr), PTs (X.blk s H sc (compEnvC sc cl C X.env) fp) ifs tt)
    (pkA : ∀ (s : Shared) (H : Hp) (C : Addr) (cl : List (Str × Addr)) (fp : List Addr), PE (X.blk s H sc (compEnvC sc cl C X.env) fp) kx tk)
    (pvA : ∀ (s : Shared) (H : Hp) (C : Addr) (cl : List (Str × Addr)) (fp : List Addr), PE (X.blk s H sc (compEnvC sc cl C X.env) fp) vx tv)
    (hs : ∀ x, foldedSetIterable iter X.env x = pure x) (h : tDcG new t wi g tt tk tv (own.map (·.2)) st H Q)
    (fin : ∀ D C s2 m H2, Inv X ps st H2 s2 → Q (.ref D) H2 → s2.heap.Ns C m → FpOk X ps H2 C → compPost (model X.prog X.w) X.A X.xe none Qf (.ref D) C (.ok .next) s2) :
    wpAny (model X.prog X.w) X.A (comprehension (.DictComp kx vx [⟨tg, iter, ifs, 0⟩] sc pos) sc X.env pos2 newDict false (eval iter X.env) none) Qf X.xe s := by
  have free : ∀ y ∈ sc.names, y.2 = .free → ∃ c, X.env.cells.lookup y.1 = some c := by
    intro y hy e
    exact I.ok.has _ (ok.free y hy e)
  refine wpAny_comprehension_free (use := none) rfl hs (closure_ok free) ok.kind (fun y hy e => by rw [ok.uniq y hy, e]) ?_
  refine thn (walk.run ps s st H _ I h) fun v0 s1 k1 => thn k1 fun v1 s2 k2 => ?_
  obtain ⟨it, fp, tn, J, H2, rfl, I2, T, at2, f2, q⟩ := k2
  refine wpAny_newObj_type (newEnv_comp ?_)
  have noD : H2 s2.heap.objs.size = none := I2.hok.fresh (Nat.le_refl _)
  obtain ⟨W, ⟨m0, w0⟩, turn⟩ := q _ noD
  generalize eD : s2.heap.objs.size = D at *
  generalize e3 : ({ s2 with heap := s2.heap.push { cls := .type "dict", data := .dict #[] } } : Shared) = s3
  have hp3 : s3.heap = s2.heap.push { cls := .type "dict", data := .dict #[] } := by rw [← e3]
  have I3 : Inv X ps st (upd H2 D new) s3 := by
    rw [← e3, ← eD]
    exact I2.laid (t' := s2.toks) (fun b o e => Heap.get?_push_of_some _ e) (Nat.le_refl _) (so.fresh _ _ I2.big)
  have young : ∀ b ∈ fp, b < D := by
    intro b hb
    obtain ⟨o, e, _⟩ := T.obj _ _ at2 b hb
    rw [← eD]
    exact Heap.lt_size e
  have sz3 : s3.heap.objs.size = D + 1 := by rw [hp3, Heap.size_push, eD]
  have f3 : ∀ b ∈ fp, FpOk X ps (upd H2 D new) b ∧ b < s3.heap.objs.size := by
    intro b hb
    have lt := young b hb
    exact ⟨⟨(upd_ne (Nat.ne_of_lt lt)).trans (f2 b hb).1, (f2 b hb).2⟩, by rw [sz3]; exact Nat.lt_succ_of_lt lt⟩
  have at3 : tn 0 s3.heap := T.keep _ _ _ at2 fun b _ o e => hp3 ▸ Heap.get?_push_of_some _ e
  have I4 := block_start I3 ok nd f3
  show codeAny _ _ (.compStart (.DictComp kx vx [⟨tg, iter, ifs, 0⟩] sc pos) 0 (.ref it) (.ref D) (compEnvC sc (cellsFrom (s3.heap.objs.size + 1) sc.names (cloFrom X.env.cells sc.names [])) s3.heap.objs.size X.env))
    (compPost (model X.prog X.w) X.A X.xe none Qf (.ref D) s3.heap.objs.size) { s3 with heap := pushCells (s3.heap.push { cls := .type "dict", data := .dict #[] }) sc.names }
  generalize eC : cellsFrom (s3.heap.objs.size + 1) sc.names (cloFrom X.env.cells sc.names []) = cells at I4 ⊢
  have pg := pgA s3 (upd H2 D new) s3.heap.objs.size cells fp
  have pt := ptA s3 (upd H2 D new) s3.heap.objs.size cells fp
  have pk := pkA s3 (upd H2 D new) s3.heap.objs.size cells fp
  have pv := pvA s3 (upd H2 D new) s3.heap.objs.size cells fp
  generalize eE : compEnvC sc cells s3.heap.objs.size X.env = ce at I4 pg pt pk pv ⊢
  have loc : ce.locals = s3.heap.objs.size := by rw [← eE] <;> rfl
  generalize eH : upd H2 D new = H3 at I3 I4 pg pt pk pv w0 f3
  generalize e4 : ({ s3 with heap := pushCells (s3.heap.push { cls := .type "dict", data := .dict #[] }) sc.names } : Shared) = s4 at I4 ⊢
  have at4 : tn 0 s4.heap := T.keep _ _ _ at3 fun b _ o e => by
    rw [← e4]
    exact pushCells_keeps _ _ _ _ (Heap.get?_push_of_some _ e)
  have fpo : ∀ {st1 : L2.St} {Ha : Hp} {sa : Shared}, Inv (X.blk s3 H3 sc ce fp) [] st1 Ha sa → (∀ b ∈ fp, Ha b = none) → ∀ b ∈ fp, FpOk (X.blk s3 H3 sc ce fp) [] Ha b := by
    intro st1 Ha sa Ia hn b hb
    have e := Ia.ok.exf b hb
    exact ⟨hn b hb, e.1, Ia.ok.exfs b hb, .inl hb, fun x c z => e.2 x c z, fun p hp => absurd (show p ∈ ([] : List (Addr × Obj)) from hp) List.not_mem_nil⟩
  have loop : codeAny (model X.prog X.w) X.A (.compLoop (.DictComp kx vx [⟨tg, iter, ifs, 0⟩] sc pos) 0 (.ref it) (.ref D) ce) (compPost (model X.prog X.w) X.A X.xe none Qf (.ref D) s3.heap.objs.size) s4 := by
    refine compLoop_anyD (fun n sa => ∃ i Ha, Inv (X.blk s3 H3 sc ce fp) [] (wipe st (own.map (·.2))) Ha sa ∧ tn i sa.heap ∧ (∀ b ∈ fp, Ha b = none) ∧ W i n Ha) ?_ m0 ⟨0, H3, I4, at4, fun b hb => (f3 b hb).1.1, w0⟩
    rintro n s5 ⟨i, H5, I5, at5, n5, w5⟩
    rcases turn i n H5 w5 with ⟨stop, qq⟩ | ⟨go, Nx, down, step⟩
    · refine thnF (T.done (X.blk s3 H3 sc ce fp) rfl rfl rfl calm i [] s5 _ H5 (fun _ _ => False) I5 (fpo I5 n5) at5 stop) fun r s6 hr => ?_
      obtain ⟨rfl, I6⟩ := hr
      have I7 : Inv X ps st H5 s6 := I3.call' (ch := fp) I6.os I6.base I6.hok I6.bare fun b hb => by
        obtain ⟨⟨_, a1, _, a3, a4, a5⟩, _⟩ := f3 b hb
        exact ⟨a3, a1, a4, a5⟩
      have noC : H5 s3.heap.objs.size = none := loc ▸ I6.free
      obtain ⟨m, hn, _⟩ := I6.loc
      exact fin D s3.heap.objs.size s6 m H5 I7 qq (loc ▸ (show s6.heap.Ns ce.locals m from hn)) (I3.fpOk (Nat.le_refl _) noC)
    · refine thnF (T.item (X.blk s3 H3 sc ce fp) rfl rfl rfl calm i [] s5 _ H5 (fun _ _ => False) I5 (fpo I5 n5) at5 go) fun r s6 hr => ?_
      obtain ⟨u, rfl, k6⟩ := hr
      refine thnF k6 fun _ s7 k7 => ?_
      obtain ⟨x, H7, I7, r7, y7, at7, n7⟩ := k7
      have J7 := I7.pinned (fpo I7 n7) (T.obj _ _ at7)
      refine thnF (pg.run _ s7 _ H7 x u _ J7 r7 (step x H7 y7)) fun _ s8 k8 => ?_
      obtain ⟨st8, H8, I8, ew, q8⟩ := k8
      refine thnF (pt.run _ s8 st8 H8 _ I8 q8) fun b s9 k9 => ?_
      obtain ⟨H9, I9, q9⟩ := k9
      have next : ∀ {sb : Shared} {Hb : Hp}, Inv (X.blk s3 H3 sc ce fp) ([] ++ pinsAt fp s7.heap) st8 Hb sb → Nx Hb →
          ∃ m, m < n ∧ ∃ i Ha, Inv (X.blk s3 H3 sc ce fp) [] (wipe st (own.map (·.2))) Ha sb ∧ tn i sb.heap ∧ (∀ b ∈ fp, Ha b = none) ∧ W i m Ha := by
        intro sb Hb Ib nx
        obtain ⟨m2, lt, w2⟩ := down Hb nx
        have still : ∀ b ∈ fp, ∀ o, s7.heap.get? b = some o → sb.heap.get? b = some o ∧ Hb b = none := by
          intro b hb o e
          have z := Ib.pin (b, o) (List.mem_append_right _ (List.mem_append_right _ (mem_pinsAt hb e)))
          exact ⟨z.1, z.2.1⟩
        have el : (wipe st (own.map (·.2))).length = st8.length := ew ▸ wipe_length _ _
        refine ⟨m2, lt, i + 1, Hb, (Ib.unpinned (pins := [])).weak el fun j v e => (wipe_some (ew ▸ e)).1, T.keep _ _ _ at7 fun b hb o e => (still b hb o e).1, ?_, w2⟩
        intro b hb
        obtain ⟨o, e, _⟩ := T.obj _ _ at7 b hb
        exact (still b hb o e).2
      cases b with
      | false =>
        rw [if_neg Bool.false_ne_true] at q9 ⊢
        exact next I9 q9
      | true =>
        rw [if_pos rfl] at q9 ⊢
        refine thnF (pk.run _ s9 st8 H9 _ I9 q9) fun ku s10 k10 => ?_
        obtain ⟨yk, H10, I10, r10, q10⟩ := k10
        refine thnF (pv.run _ s10 st8 H10 _ I10 q10) fun vu s11 k11 => ?_
        obtain ⟨yv, H11, I11, r11, q11⟩ := k11
        refine thnF (so.store (X.blk s3 H3 sc ce fp) _ st8 H11 s11 D yk yv ku vu Nx rfl rfl rfl I11 r10 r11 q11) fun _ s12 k12 => ?_
        obtain ⟨H12, I12, nx⟩ := k12
        exact next I12 nx
  exact codeAny_compStart_dict loop (T.self X.A 0 _ _ _ at4 loop)

theorem pe_dcG {X : Cx} {kx vx tg iter : Expr} {ifs : List Expr} {sc : Scope} {own : List (Str × Nat)} {pos : Pos} {wi : TI} {g : TG} {tt : TT} {tk tv : TE} {new : HO} {t : TStore}
    (so : StoreOk X.prog X.w X.A new t) (calm : X.calm = true) (nd : X.N.Nodup) (walk : PI X tg iter wi) (ok : BlkOk X.N X.env.scope sc own)
    (pgA : ∀ (s : Shared) (H : Hp) (C : Addr) (cl : List (Str × Addr)) (fp : List Addr), PG (X.blk s H sc (compEnvC sc cl C X.env) fp) tg g)
    (ptA : ∀ (s : Shared) (H : Hp) (C : Addr) (cl : List (Str × Addr)) (fp : List Addr), PTs (X.blk s H sc (compEnvC sc cl C X.env) fp) ifs tt)
    (pkA : ∀ (s : Shared) (H : Hp) (C : Addr) (cl : List (Str × Addr)) (fp : List Addr), PE (X.blk s H sc (compEnvC sc cl C X.env) fp) kx tk)
    (pvA : ∀ (s : Shared) (H : Hp) (C : Addr) (cl : List (Str × Addr)) (fp : List Addr), PE (X.blk s H sc (compEnvC sc cl C X.env) fp) vx tv)
    (hs : ∀ x, foldedSetIterable iter X.env x = pure x := by intro _; rfl) :
    PE X (.DictComp kx vx [⟨tg, iter, ifs, 0⟩] sc pos) (tDcG new t wi g tt tk tv (own.map (·.2))) := by
  constructor
  intro ps s st H Q I h
  rw [arm_eval_DictComp]
  refine dcG_core so calm nd I walk ok pgA ptA pkA pvA hs h fun D C s2 m H2 I2 q hn f => ⟨m, hn, fun h3 sb => ?_⟩
  obtain ⟨f0, f1, f2, f3, f4, f5⟩ := f
  exact ⟨.ref D, H2, I2.turned (t' := s2.toks) (fun b o hb e => (sb.2 b hb).trans e) f0 f1 f3 f4 f5, rfl, q⟩

/-- keys that are tuples of ints and texts -/
def stT : TStore := fun D y z H R => ∃ (b : Addr) (kvs : List (List L2.Key × V)) (k : List L2.Key), y = .ref b ∧ H b = some (.tup (k.map kV)) ∧ H D = some (.dT kvs) ∧ kvs.length < sizeLine ∧ R (upd H D (.dT (putK kvs k z)))
theorem storeT {P : Program} {w : World} {A : Around} (hu : A.units < cLine) : StoreOk P w A (.dT []) stT where
  fresh := fun H h hb => dt_empty h hb
  store := by
    intro X ps st H s D y z u r R eP ew eA I ry rz q
    subst eP ew eA
    obtain ⟨b, kvs, k, rfl, hb, hD, lt, q⟩ := q
    cases (show u = Value.ref b from ry)
    obtain ⟨le, nsys, xs, rel, dd⟩ := dt_of I.hok hD
    have hz : xs.length ≤ sizeLine := by
      have e := Paired.length rel
      omega
    refine wpAny_dictSet_heap (hsz := hz) (show (tupleKind (mixKind X.prog X.w)).room X.A from hu) (key_of I.hok hb) dd fun h2 d2 sb => ?_
    obtain ⟨o, es, ep, g1, g2, g3, g4, _, g5⟩ := d2
    refine ⟨_, d_write I (by rw [hD]; exact True.intro) sb ⟨o, g1⟩ ?_, q⟩
    have lp := length_putK kvs k z
    refine ⟨by omega, nsys, _, (rel.put k hb rz).keeps fun c ys ec => ?_, o, es, ep, g1, g2, g3, g4, g5⟩
    exact (upd_ne (ne_of ec hD (fun z => nomatch z))).trans ec
end Gk
/-! Gk2: sorted of a dict whose keys are tuples of texts. -/
namespace Gk
open PySem PySem.Spec PyProof.Rows L2

abbrev Pth := List Str
def pkey (p : Pth) : List (Int ⊕ List Nat) := p.map fun x => Sum.inr x.cps.toList
def ltP (p q : Pth) : Bool := PyProof.Rows.lexLt PyProof.Rows.itemOrd (pkey p) (pkey q)
abbrev shT : Nat → Bool := fun _ => true

theorem items_pth : ∀ (p : Pth) (us : List Value) (i : Nat), Vals (p.map V.str) us → tupItems shT i us = some (pkey p)
  | [], _, _, .nil => rfl
  | x :: p, _, i, .cons r t => by
    obtain ⟨k, rfl⟩ := r
    have e := items_pth p _ (i + 1) t
    show (if shT i = true then (tupItems shT (i + 1) _).map (Sum.inr x.cps.toList :: ·) else none) = _
    rw [if_pos rfl, e] <;> rfl

theorem tupKeyC_at {h : Heap} {a : Addr} {o : Obj} {xs : Array Value} {n : Nat} {l : List (Int ⊕ List Nat)} (ho : h.get? a = some o) (hc : o.cls = .type "tuple") (hd : o.data = .seq xs n)
    (hi : tupItems shT 0 xs.toList = some l) : G.tupKeyC h shT (.ref a) = some l := by
  have e1 : G.isTupObj h (.ref a) = true := by simp [G.isTupObj, ho, hc]
  unfold G.tupKeyC
  rw [if_pos e1]
  show tupKey h shT (.ref a) = some l
  simp only [tupKey, ho, hd]
  exact hi

section
variable {X : Cx}
/-- sorted(d), d's keys tuples of one or more texts -/
def rSortDT : List V → Hp → VK → Prop := fun vs H Q => ∃ (d : Addr) (kvs : List (List L2.Key × V)) (ks : List Pth), vs = [V.ref d] ∧ H d = some (.dT kvs) ∧ kvs.map (·.1) = ks.map (List.map Sum.inr) ∧ (∀ p ∈ ks, p ≠ []) ∧
  ∀ (bs : List (Addr × Pth)) (l : Addr), (bs.map (·.2)).Perm ks → bs.Pairwise (fun a b => ltP b.2 a.2 = false) → (∀ b ∈ bs, H b.1 = some (.tup (b.2.map V.str))) → H l = none →
    Q (.ref l) (upd H l (.lst (bs.map fun b => V.ref b.1)))

theorem kt_keys {H : Hp} : ∀ {kvs : List (List L2.Key × V)} {xs : List (List L2.Key × Addr × Value)} {ks : List Pth}, KT H kvs xs → kvs.map (·.1) = ks.map (List.map Sum.inr) →
    ∃ bs : List (Addr × Pth), bs.map (·.2) = ks ∧ bs.map (·.1) = xs.map (·.2.1) ∧ ∀ b ∈ bs, H b.1 = some (.tup (b.2.map V.str))
  | _, _, ks, .nil, e => by
    have e2 : ks = [] := List.map_eq_nil_iff.mp e.symm
    exact ⟨[], e2.symm, rfl, fun _ h => nomatch h⟩
  | p :: kvs, q :: xs, [], .cons _ _, e => nomatch e
  | p :: kvs, q :: xs, k :: ks, .cons r t, e => by
    rw [List.map_cons, List.map_cons] at e
    injection e with e1 e2
    obtain ⟨bs, b1, b2, b3⟩ := kt_keys t e2
    refine ⟨(q.2.1, k) :: bs, by rw [List.map_cons, b1], by rw [List.map_cons, List.map_cons, b2], ?_⟩
    intro b hb
    rcases List.mem_cons.mp hb with rfl | hb
    · have h1 := r.2.1
      rw [e1, List.map_map] at h1
      exact h1
    · exact b3 b hb

theorem vals_fst : ∀ cs : List (Addr × Pth), Vals (cs.map fun b => V.ref b.1) (cs.map fun b => Value.ref b.1)
  | [] => .nil
  | _ :: cs => .cons rfl (vals_fst cs)

theorem cr_sortedDT (calm : X.calm = true) : CallR X (.builtin "sorted") rSortDT := by
  intro ps st0 st H xs us Q I r h
  obtain ⟨d, kvs, ks, rfl, hd, hk, hne, q⟩ := h
  obtain ⟨u, rfl, rx⟩ := vals1 r
  cases rx
  obtain ⟨z, nsys, ys, pr, o, es, ep, ho, hx, hdat, hes, hkeys, hnd⟩ := dt_of I.hok hd
  obtain ⟨bs, b1, b2, b3⟩ := kt_keys pr hk
  have l1 : es.size = ys.length := size_of_entries hes
  have l2 : kvs.length = ys.length := Paired.length pr
  have lb : bs.length = ys.length := by
    have e := congrArg List.length b2
    rw [List.length_map, List.length_map] at e
    exact e
  refine Calls.call_function_entry PyProof.Rows.kind_sorted PyProof.Rows.plain_sorted PyProof.Rows.entry_sorted (PyProof.Rows.args_sorted1 _) ?_
  unfold Builtin.«sorted»
  refine wpAny_bind (m := checkCount "sorted" 1 1 _) (wpAny_pure ?_)
  refine wpAny_bind (PySem.W.kdu_collect (A := X.A.in1) (kdl_raw nsys hx hdat) (I.ok.hd calm) ho (by omega) fun h1 tk acc keep it => ?_)
  have ea : acc.toList = bs.map fun b => Value.ref b.1 := by
    have e0 : acc.toList.length = ys.length := by rw [Array.length_toList, it.1]; exact l1
    have e1 : (bs.map fun b => Value.ref b.1) = ys.map fun x => Value.ref x.2.1 := by
      have e := congrArg (List.map Value.ref) b2
      rw [List.map_map, List.map_map] at e
      exact e
    rw [e1]
    refine List.ext_getElem (by rw [List.length_map]; exact e0) fun j j1 j2 => ?_
    obtain ⟨en, g1, g2⟩ := it.2 j (acc.toList[j]) (by rw [← Array.getElem?_toList]; exact List.getElem?_eq_getElem j1)
    have g3 := entry_at hes j
    have j3 : j < ys.length := by omega
    rw [g1, List.getElem?_eq_getElem j3] at g3
    have g4 : en = entryOfKey (tupleKind (mixKind X.prog X.w)) ys[j] := Option.some.inj g3
    rw [g2, g4, List.getElem_map]
    rfl
  have I1 : Inv X ps st H { st0 with heap := h1, toks := tk } := I.kept keep
  rw [ea]
  have hln : (bs.map fun b => Value.ref b.1).length ≤ sizeLine := by rw [List.length_map]; omega
  refine wpAny_bind (wpAny_newList ?_ hln)
  have hoL : (h1.push (seqObj "list" (bs.map fun b => Value.ref b.1).toArray 0)).get? h1.objs.size = some (seqObj "list" (bs.map fun b => Value.ref b.1).toArray 0) := Heap.get?_push_size _ rfl
  show wpAny _ _ _ _ _ { st0 with heap := h1.push (seqObj "list" (bs.map fun b => Value.ref b.1).toArray 0), toks := tk }
  -- each key, where it stands
  have at1 : ∀ b ∈ bs, ∃ (ob : Obj) (its : List Value) (n : Nat), (h1.push (seqObj "list" (bs.map fun b => Value.ref b.1).toArray 0)).get? b.1 = some ob ∧ ob.cls = .type "tuple" ∧ ob.data = .seq its.toArray n ∧ Vals (b.2.map V.str) its := by
    intro b hb
    obtain ⟨_, its, rv, ob, g1, g2, n, g3⟩ := (show ObjOk X.prog X.w H h1 b.1 (.tup (b.2.map V.str)) from I1.hok b.1 _ (b3 b hb))
    exact ⟨ob, its, n, Heap.get?_push_of_some _ g1, g2, g3, rv⟩
  have key1 : ∀ b ∈ bs, G.tupKeyC (h1.push (seqObj "list" (bs.map fun b => Value.ref b.1).toArray 0)) shT (.ref b.1) = some (pkey b.2) := by
    intro b hb
    obtain ⟨ob, its, n, g1, g2, g3, rv⟩ := at1 b hb
    exact tupKeyC_at g1 g2 g3 (items_pth b.2 its 0 rv)
  have ne1 : ∀ b ∈ bs, b.2 ≠ [] := by
    intro b hb
    exact hne _ (by rw [← b1]; exact List.mem_map.mpr ⟨b, hb, rfl⟩)
  have tups : ∀ cs : List (Addr × Pth), (∀ b ∈ cs, b ∈ bs) → ∃ fs, TupsOf (h1.push (seqObj "list" (bs.map fun b => Value.ref b.1).toArray 0)) shT (cs.map fun b => Value.ref b.1) fs := by
    intro cs
    induction cs with
    | nil => intro _; exact ⟨[], .nil⟩
    | cons c cs ih =>
      intro hc
      obtain ⟨fs, t⟩ := ih fun b hb => hc b (List.mem_cons_of_mem _ hb)
      obtain ⟨ob, its, n, g1, g2, g3, rv⟩ := at1 c (hc c List.mem_cons_self)
      have nz := ne1 c (hc c List.mem_cons_self)
      cases e : c.2 with
      | nil => exact absurd e nz
      | cons x p =>
        rw [e, List.map_cons] at rv
        cases rv with
        | @cons _ u _ its' ru rt =>
          obtain ⟨k, rfl⟩ := ru
          exact ⟨Value.str x k :: fs, .cons ⟨c.1, ob, _, n, rfl, g1, g2, g3, rfl, (fun z => nomatch z), fun _ => ⟨x, k, rfl⟩⟩ t⟩
  obtain ⟨fs, tu⟩ := tups bs fun _ hb => hb
  refine wpAny_bind (wpAny_holding (wpAny_call_entry PyProof.Rows.slot_list_sort ⟨_, hoL, rfl⟩ PyProof.Rows.entry_list_sort
    (G.list_sort_tups (s := { st0 with heap := h1.push (seqObj "list" (bs.map fun b => Value.ref b.1).toArray 0), toks := tk }) (shape := shT) hoL tu ?_ hln fun so hp hs _ => ⟨_, rfl, ?_⟩)
    (PyProof.Rows.args_list_sort _)))
  · intro v hv
    obtain ⟨b, hb, rfl⟩ := List.mem_map.mp hv
    exact ⟨_, key1 b hb⟩
  · have hpl : (arrOf so).toList.Perm (bs.map fun b => ((Value.ref b.1, Value.ref b.1) : Keyed)) := by
      have e := Array.perm_iff_toList_perm.mp hp
      rw [pairsOf_toList] at e
      have e2 : ((bs.map fun b => Value.ref b.1).zip (bs.map fun b => Value.ref b.1)) = bs.map fun b => ((Value.ref b.1, Value.ref b.1) : Keyed) := by
        rw [List.zip_map'] <;> rfl
      rw [e2] at e
      exact e
    obtain ⟨cs, c1, c2⟩ := perm_lift (fun b : Addr × Pth => ((Value.ref b.1, Value.ref b.1) : Keyed)) hpl bs rfl
    have out : ((arrOf so).map (·.2)).toList = cs.map fun b => Value.ref b.1 := by
      rw [Array.toList_map, ← c2, List.map_map] <;> rfl
    have len : cs.length = bs.length := c1.length_eq
    have kk : ∀ (i : Nat) (hi : i < cs.length), KK (G.tupKindC (h1.push (seqObj "list" (bs.map fun b => Value.ref b.1).toArray 0)) shT) (arrOf so) i = pkey cs[i].2 := by
      intro i hi
      have e : (arrOf so)[i]? = some ((Value.ref cs[i].1, Value.ref cs[i].1) : Keyed) := by
        rw [← Array.getElem?_toList, ← c2, List.getElem?_map, List.getElem?_eq_getElem hi] <;> rfl
      unfold KK
      rw [e]
      show (G.tupKeyC (h1.push (seqObj "list" (bs.map fun b => Value.ref b.1).toArray 0)) shT (.ref cs[i].1)).getD [] = _
      rw [key1 cs[i] (c1.mem_iff.mp (List.getElem_mem hi))] <;> rfl
    have srt : cs.Pairwise (fun a b => ltP b.2 a.2 = false) := by
      rw [List.pairwise_iff_getElem]
      intro i j hi hj lt
      have r : PyProof.Rows.lexLt PyProof.Rows.itemOrd (KK (G.tupKindC (h1.push (seqObj "list" (bs.map fun b => Value.ref b.1).toArray 0)) shT) (arrOf so) j)
          (KK (G.tupKindC (h1.push (seqObj "list" (bs.map fun b => Value.ref b.1).toArray 0)) shT) (arrOf so) i) = false :=
        hs i j (Nat.le_of_lt lt) (by rw [pairsOf_size, List.length_map]; omega)
      rw [kk i hi, kk j hj] at r
      exact r
    obtain ⟨ep2, he2⟩ := PyProof.Rows.sortedHeap_at (vs := bs.map fun b => Value.ref b.1) (out := (arrOf so).map (·.2)) hoL
    have lc : (cs.map fun b => V.ref b.1).length ≤ sizeLine := by rw [List.length_map]; omega
    refine wpAny_pure ⟨_, rfl, .ref h1.objs.size, upd H h1.objs.size (.lst (cs.map fun b => V.ref b.1)), I1.laid (t' := tk) (fun b u e => ?_) (Nat.le_refl _)
      (show ObjOk X.prog X.w _ _ _ (.lst (cs.map fun b => V.ref b.1)) from ⟨lc, ((arrOf so).map (·.2)).toList, ep2, by rw [out]; exact vals_fst cs, by rw [Array.toArray_toList]; exact he2⟩), rfl,
      q cs _ (by rw [← b1]; exact c1.map _) srt (fun b hb => b3 b (c1.mem_iff.mp hb)) (I1.hok.fresh (Nat.le_refl _))⟩
    have lt := Heap.lt_size e
    rw [PyProof.Rows.sortedHeap_old (Nat.ne_of_lt lt) (by rw [size_push']; exact Nat.lt_succ_of_lt lt)]
    exact Heap.get?_push_of_some _ e
end
end Gk
/-! Gk3: operators that a class of the program's own defines, by the promise of its method; a method called with keywords. -/
namespace Gk
open PySem PySem.Spec PyProof.Rows L2

theorem rel_ni {v : V} {u : Value} (r : RelV v u) : u ≠ .notImplemented := by
  intro e
  subst e
  cases v with
  | non => exact nomatch (show Value.notImplemented = Value.none from r)
  | bl b => exact nomatch (show Value.notImplemented = Value.bool b from r)
  | int i => obtain ⟨t, e⟩ := (show ∃ t, Value.notImplemented = Value.int i t from r); exact nomatch e
  | str x => obtain ⟨t, e⟩ := (show ∃ t, Value.notImplemented = Value.str x t from r); exact nomatch e
  | byt b => obtain ⟨t, e⟩ := (show ∃ t, Value.notImplemented = Value.bytes b t from r); exact nomatch e
  | flt b => obtain ⟨t, e⟩ := (show ∃ t, Value.notImplemented = Value.float b t from r); exact nomatch e
  | ref a => exact nomatch (show Value.notImplemented = Value.ref a from r)
  | ty n => exact nomatch (show Value.notImplemented = Value.type n from r)
theorem cmpBack_of {Q : Value → Shared → Prop} {u : Value} {s : Shared} (hn : u ≠ .notImplemented) (h : Q u s) : PySem.W.CmpBack Q u s := by
  cases u with
  | notImplemented => exact hn rfl
  | _ => exact h

section
variable {X : Cx} {CX : CXT} {k : Nat} {f C : Addr} {fd : FuncData} {ps : List Str} {sp : Sp} {E : XK}

/-- a def is run somewhere below the body X, the frames being the body's -/
theorem run_below {A : Around} {pins : List (Addr × Obj)} {st : L2.St} {H : Hp} {s : Shared} {Q : VK} {us : List Value} {vs : List V} (F : FnOk X.prog X.w X.K X.mg X.base CX k f fd ps sp) (fr : A.frames = X.A.frames) (hr : Room k A)
    (hb : Binds X.K fd ps []) (hx : Passes CX X E) (I : Inv X pins st H s) (r : Vals vs us) (h : sp vs H Q E) : wpAny (model X.prog X.w) A (call (.ref f) us) (EP X pins st Q) X.xe s := by
  have e0 : Env0 X.prog X.w X.K X.mg X.base A X.stack s H := by
    have e := I.env0
    exact ⟨fr.trans e.frames, e.mod, e.bs, e.bsz, e.funs, e.frf, e.hok, e.bare⟩
  have hl : us.length = ps.length := r.length.symm.trans (F.len _ _ _ _ h)
  have bd := hb s us I.kIn (by rw [List.append_nil]; exact hl)
  rw [List.append_nil] at bd
  refine wpAny_call (codeAny_mono (F.run A X.stack s H ⟨us, []⟩ us vs Q E hr e0 bd r h) ?_)
  intro res s2 q
  match res, q with
  | .error e, q => exact hx pins st H s e s2 I q
  | .ok (.ret u), q => exact I.after q
  | .ok .next, q => exact q.elim
  | .ok .brk, q => exact q.elim
  | .ok .cont, q => exact q.elim

/-- a method of the class, found by an operator -/
structure Dun (K : PySem.W.Frag) (C : Addr) (m : Str) (f : Addr) : Prop where
  at_ : PySem.W.findIn K (.ref C) m = some (some (.ref f))
  fn : PySem.W.isFn K (.ref f) = true

/-- x op y, both of the class -/
def rOwn (C : Addr) (sp : Sp) (E : XK) : R2 := fun x y H Q => ∃ (a b dx dy : Addr) (fs gs : List (Str × V)), x = .ref a ∧ y = .ref b ∧ H a = some (.ins C dx fs) ∧ H b = some (.ins C dy gs) ∧ sp [.ref a, .ref b] H Q E
theorem op_own {op : Operator} (F : FnOk X.prog X.w X.K X.mg X.base CX k f fd ps sp) (D : Dun X.K C (PySem.dunder op.info.2) f) (self : PySem.W.selfFirst X.K C = true) (hr : Room k X.A) (hb : Binds X.K fd ps []) (hx : Passes CX X E) :
    OpR X (binaryOp op) (rOwn C sp E) := by
  intro pins s st H x y v u Q I rx ry h
  obtain ⟨a, b, dx, dy, fs, gs, rfl, rfl, ha, hb2, h⟩ := h
  cases rx
  cases ry
  obtain ⟨mA, J, _⟩ := ins_get I.hok ha
  obtain ⟨mB, J2, _⟩ := ins_get I.hok hb2
  obtain ⟨od, J, _⟩ := J.look
  obtain ⟨od2, J2, _⟩ := J2.look
  obtain ⟨m, hF⟩ := I.fr
  refine PySem.W.binop_K hF I.ok.mod.kin J J2.type self D.at_ D.fn ?_
  refine thn (run_below F rfl hr hb hx I (show Vals [V.ref a, V.ref b] [Value.ref a, Value.ref b] from .cons rfl (.cons rfl .nil)) h) fun u2 s2 q => ?_
  obtain ⟨z, H2, I2, rz, q2⟩ := q
  exact cmpBack_of (rel_ni rz) ⟨z, H2, I2, rz, q2⟩

/-- y in x, x of the class -/
def rOwnIn (C : Addr) (sp : Sp) (E : XK) (neg : Bool) : R2 := fun y x H Q => ∃ (a dx : Addr) (fs : List (Str × V)), x = .ref a ∧ H a = some (.ins C dx fs) ∧
  sp [.ref a, y] H (fun r H2 => ∃ c : Bool, r = .bl c ∧ Q (.bl (if neg then !c else c)) H2) E
theorem op_ownIn (F : FnOk X.prog X.w X.K X.mg X.base CX k f fd ps sp) (D : Dun X.K C "__contains__" f) (hr : Room k X.A) (hb : Binds X.K fd ps []) (hx : Passes CX X E) : OpR X (compareOp .In) (rOwnIn C sp E false) := by
  intro pins s st H y x v u Q I ry rx h
  obtain ⟨a, dx, fs, rfl, ha, h⟩ := h
  cases rx
  obtain ⟨mA, J, _⟩ := ins_get I.hok ha
  obtain ⟨od, J, _⟩ := J.look
  obtain ⟨m, hF⟩ := I.fr
  refine PySem.W.in_K hF I.ok.mod.kin J D.at_ D.fn ?_
  refine thn (run_below F rfl hr hb hx I (show Vals [V.ref a, y] [Value.ref a, v] from .cons rfl (.cons ry .nil)) h) fun u2 s2 q => ?_
  obtain ⟨z, H2, I2, rz, c, rfl, q2⟩ := q
  cases rz
  exact wpAny_truthy_bool ⟨.bl c, H2, I2, rfl, q2⟩
theorem op_ownNotIn (F : FnOk X.prog X.w X.K X.mg X.base CX k f fd ps sp) (D : Dun X.K C "__contains__" f) (hr : Room k X.A) (hb : Binds X.K fd ps []) (hx : Passes CX X E) : OpR X (compareOp .NotIn) (rOwnIn C sp E true) := by
  intro pins s st H y x v u Q I ry rx h
  obtain ⟨a, dx, fs, rfl, ha, h⟩ := h
  cases rx
  obtain ⟨mA, J, _⟩ := ins_get I.hok ha
  obtain ⟨od, J, _⟩ := J.look
  obtain ⟨m, hF⟩ := I.fr
  refine PySem.W.notIn_K hF I.ok.mod.kin J D.at_ D.fn ?_
  refine thn (run_below F rfl hr hb hx I (show Vals [V.ref a, y] [Value.ref a, v] from .cons rfl (.cons ry .nil)) h) fun u2 s2 q => ?_
  obtain ⟨z, H2, I2, rz, c, rfl, q2⟩ := q
  cases rz
  exact wpAny_truthy_bool ⟨.bl (!c), H2, I2, rfl, q2⟩

/-- x == y, both of the class -/
theorem op_ownEq (F : FnOk X.prog X.w X.K X.mg X.base CX k f fd ps sp) (D : Dun X.K C "__eq__" f) (hr : Room k X.A) (hb : Binds X.K fd ps []) (hx : Passes CX X E) : OpR X (compareOp .Eq) (rOwn C sp E) := by
  intro pins s st H x y v u Q I rx ry h
  obtain ⟨a, b, dx, dy, fs, gs, rfl, rfl, ha, hb2, h⟩ := h
  cases rx
  cases ry
  obtain ⟨mA, J, _⟩ := ins_get I.hok ha
  obtain ⟨mB, J2, _⟩ := ins_get I.hok hb2
  obtain ⟨od, J, _⟩ := J.look
  obtain ⟨od2, J2, _⟩ := J2.look
  obtain ⟨m, hF⟩ := I.fr
  refine PySem.W.cmp_K (op := .Eq) (tb := .ref C) hr.units0 hF I.ok.mod.kin J J2.type (by simp [PySem.W.notFirst]) D.at_ D.fn ?_
  refine thn (run_below F rfl hr hb hx I (show Vals [V.ref a, V.ref b] [Value.ref a, Value.ref b] from .cons rfl (.cons rfl .nil)) h) fun u2 s2 q => ?_
  obtain ⟨z, H2, I2, rz, q2⟩ := q
  exact cmpBack_of (rel_ni rz) ⟨z, H2, I2, rz, q2⟩
end

/-! ### != where the class has an __eq__ alone -/
section
variable {prog : Program} {w : World} {A : Around} {E : Value → Shared → Prop} {s : Shared} {K : PySem.W.Frag} {x C L f : Addr} {h0 : Heap} {m : Str → Option Value} {ox : Obj} {od : Option Obj} {b tb : Value}

/-- the class has object's own __ne__ -/
structure NoNe (K : PySem.W.Frag) (C : Addr) : Prop where
  ne : PySem.W.findIn K (.ref C) "__ne__" = some (some (.builtin "object.__ne__"))
  obj : PySem.W.subIn K (.ref C) (.type "object") = some true

theorem ne_body {Q : Fin → Shared → Prop} (hu : A.units < cLine) (X : K.In s.heap) (I : PySem.W.InstAt s.heap x ox C od) (hs : PySem.W.findIn K (.ref C) "__eq__" = some (some (.ref f))) (hf : PySem.W.isFn K (.ref f) = true)
    (h : wpAny (model prog w) A (call (.ref f) [.ref x, b]) (fun v s2 => ∃ c, v = .bool c ∧ Q (.done (.ret (.bool (!c)))) s2) E s) : wpAny (model prog w) A (Builtin.«object.__ne__» ⟨[.ref x, b], []⟩) Q E s := by
  have e : Builtin.«object.__ne__» ⟨[.ref x, b], []⟩ = (do
      cRoomFor "comparison" [.ref x, b]
      match ← callSpecialIfBound? (.ref x) "__eq__" [b] with
      | some .notImplemented | none => ret .notImplemented
      | some r => ret (.bool (!(← truthy r)))) := rfl
  rw [e]
  refine wpAny_bind (wpAny_cRoomFor hu (wpAny_bind (PySem.W.ifBound_K X I hs hf (thn h fun v s2 q => ?_))))
  obtain ⟨c, rfl, q⟩ := q
  exact wpAny_bind (wpAny_truthy_bool (wpAny_pure q))

theorem ne_call {Q : Value → Shared → Prop} (hu : A.units + 1 < cLine) (X : K.In s.heap) (I : PySem.W.InstAt s.heap x ox C od) (N : NoNe K C) (hs : PySem.W.findIn K (.ref C) "__eq__" = some (some (.ref f))) (hf : PySem.W.isFn K (.ref f) = true)
    (h : wpAny (model prog w) A.in1 (call (.ref f) [.ref x, b]) (fun v s2 => ∃ c, v = .bool c ∧ Q (.bool (!c)) s2) E s) : wpAny (model prog w) A (call (.builtin "object.__ne__") [.ref x, b]) Q E s := by
  have top : PySem.W.Looks (model prog w) s.heap (isInstance (.ref x) (.type "object")) true := I.type.andThen (PySem.W.looks_subIn X N.obj)
  refine wpAny_call (codeAny_call_builtin F.cmp_object.ne.plain F.cmpEntry_ne (PySem.W.check_slot F.cmpKind_ne F.cmpSplit_ne top (F.cmpArgs_ne _ _) ?_))
  refine ne_body (A := A.in1) hu X I hs hf (thn h fun v s2 q => ?_)
  obtain ⟨c, rfl, q⟩ := q
  exact ⟨c, rfl, q⟩

theorem ne_try {Q : Option Value → Shared → Prop} (hu : A.units + 1 < cLine) (X : K.In s.heap) (I : PySem.W.InstAt s.heap x ox C od) (N : NoNe K C) (hs : PySem.W.findIn K (.ref C) "__eq__" = some (some (.ref f))) (hf : PySem.W.isFn K (.ref f) = true)
    (h : wpAny (model prog w) A.in1 (call (.ref f) [.ref x, b]) (fun v s2 => ∃ c, v = .bool c ∧ Q (some (.bool (!c))) s2) E s) : wpAny (model prog w) A (tryCompare (.ref x) "__ne__" b) Q E s := by
  have go : wpAny (model prog w) A (call (.builtin "object.__ne__") ([.ref x] ++ [b]) >>= fun v => pure (some v)) (fun r s2 => ∃ c, r = some (Value.bool c) ∧ Q (some (.bool c)) s2) E s :=
    wpAny_bind (thn (ne_call (Q := fun v s2 => ∃ c, v = .bool c ∧ Q (some (.bool c)) s2) hu X I N hs hf (thn h fun v s2 q => by
      obtain ⟨c, rfl, q⟩ := q
      exact ⟨c, rfl, !c, rfl, q⟩)) fun v s2 q => by
      obtain ⟨c, rfl, q⟩ := q
      exact wpAny_pure ⟨c, rfl, q⟩)
  unfold tryCompare
  refine wpAny_bind (wpAny_mono (Q := fun r s2 => ∃ c, r = some (Value.bool c) ∧ Q (some (.bool c)) s2) ?_ (fun r s2 q => ?_) fun _ _ z => z)
  · simp only [callSpecialIfBound?, bindSpecialIfBound?]
    refine wpAny_holding (wpAny_bind (wpAny_bind (wpAny_bind (I.type.here ((PySem.W.looks_findIn X N.ne).here ?_)))))
    simp only [F.cmp_object.ne.bind]
    refine wpAny_bind (wpAny_askSetting (wpAny_ite ?_))
    split
    · exact wpAny_bind (wpAny_pure (wpAny_pure (by exact go)))
    · exact wpAny_tryCatch (wpAny_bind (wpAny_pure (wpAny_pure (by exact go))))
  · obtain ⟨c, rfl, q⟩ := q
    exact wpAny_pure q

theorem ne_K {Q : Value → Shared → Prop} (hu : A.units + 1 < cLine) (F0 : Fr h0 L s.heap m) (X0 : K.In h0) (I : PySem.W.InstAt s.heap x ox C od) (tyb : PySem.W.Looks (model prog w) s.heap (typeOf b) tb) (hn : PySem.W.notFirst K C tb = true)
    (N : NoNe K C) (hs : PySem.W.findIn K (.ref C) "__eq__" = some (some (.ref f))) (hf : PySem.W.isFn K (.ref f) = true)
    (h : wpAny (model prog w) A.in1 (call (.ref f) [.ref x, b]) (fun v s2 => ∃ c, v = .bool c ∧ Q (.bool (!c)) s2) E s) : wpAny (model prog w) A (richCompare .NotEq (.ref x) b) Q E s := by
  have X := X0.keeps F0.keep
  have one : wpAny (model prog w) A (tryCompare (.ref x) "__ne__" b) (fun r s2 => ∃ v, r = some v ∧ Q v s2) E s :=
    ne_try (Q := fun r s2 => ∃ v, r = some v ∧ Q v s2) hu X I N hs hf (thn h fun v s2 q => by
      obtain ⟨c, rfl, q⟩ := q
      exact ⟨c, rfl, _, rfl, q⟩)
  unfold richCompare
  simp only [oneThing_ref]
  refine wpAny_holding (wpAny_bind (wpAny_cRoomFor (Nat.lt_of_succ_lt hu) ?_))
  rw [cmpInfo_NotEq]
  dsimp only
  refine wpAny_bind (I.type.here (wpAny_bind (tyb.here ?_)))
  split
  · rename_i q
    have e : PySem.W.subIn K tb (.ref C) = some false := by
      rcases Bool.or_eq_true_iff.mp hn with e | e
      · exact absurd q (by rw [beq_iff_eq.mp e]; simp)
      · exact beq_iff_eq.mp e
    refine wpAny_bind ((PySem.W.looks_subIn X e).here ?_)
    rw [if_neg Bool.false_ne_true]
    refine wpAny_bind (thn one fun r s2 q => ?_)
    obtain ⟨v, rfl, q⟩ := q
    exact wpAny_pure q
  · refine wpAny_bind (wpAny_pure ?_)
    rw [if_neg Bool.false_ne_true]
    refine wpAny_bind (thn one fun r s2 q => ?_)
    obtain ⟨v, rfl, q⟩ := q
    exact wpAny_pure q
end

section
variable {X : Cx} {CX : CXT} {k : Nat} {f C : Addr} {fd : FuncData} {ps : List Str} {sp : Sp} {E : XK}
def rOwnNe (C : Addr) (sp : Sp) (E : XK) : R2 := fun x y H Q => ∃ (a b dx dy : Addr) (fs gs : List (Str × V)), x = .ref a ∧ y = .ref b ∧ H a = some (.ins C dx fs) ∧ H b = some (.ins C dy gs) ∧
  sp [.ref a, .ref b] H (fun r H2 => ∃ c : Bool, r = .bl c ∧ Q (.bl (!c)) H2) E
theorem op_ownNe (F : FnOk X.prog X.w X.K X.mg X.base CX k f fd ps sp) (D : Dun X.K C "__eq__" f) (N : NoNe X.K C) (hr : Room (k + 1) X.A) (hb : Binds X.K fd ps []) (hx : Passes CX X E) : OpR X (compareOp .NotEq) (rOwnNe C sp E) := by
  intro pins s st H x y v u Q I rx ry h
  obtain ⟨a, b, dx, dy, fs, gs, rfl, rfl, ha, hb2, h⟩ := h
  cases rx
  cases ry
  obtain ⟨mA, J, _⟩ := ins_get I.hok ha
  obtain ⟨mB, J2, _⟩ := ins_get I.hok hb2
  obtain ⟨od, J, _⟩ := J.look
  obtain ⟨od2, J2, _⟩ := J2.look
  obtain ⟨m, hF⟩ := I.fr
  refine ne_K (tb := .ref C) (hu_of hr) hF I.ok.mod.kin J J2.type (by simp [PySem.W.notFirst]) N D.at_ D.fn ?_
  refine thn (run_below (A := X.A.in1) F rfl hr.in1 hb hx I (show Vals [V.ref a, V.ref b] [Value.ref a, Value.ref b] from .cons rfl (.cons rfl .nil)) h) fun u2 s2 q => ?_
  obtain ⟨z, H2, I2, rz, c, rfl, q2⟩ := q
  cases rz
  exact ⟨c, rfl, .bl (!c), H2, I2, rfl, q2⟩

/-- o.m(k = v, ..) -/
def tMethK (C : Addr) (m : Str) (n : Nat) (sp : Sp) (gV : List V → List V → List V) (E : XK) (ta : TE) (tk : TA) : TE := fun st H Q => ta st H fun x H1 => ∃ (a dx : Addr) (fs : List (Str × V)), x = .ref a ∧ H1 a = some (.ins C dx fs) ∧ fs.lookup m = none ∧
  tk st H1 fun zs H2 => zs.length = n ∧ sp (gV [x] zs) H2 Q E
theorem pe_methK {o : Expr} {m : Str} {apos pos : Pos} {kws : List Keyword} {ks : List Str} {g : List Value → List Value → List Value} {gV : List V → List V → List V} {ta : TE} {tk : TA} {pl : Sem Bool} (ho : PE X o ta) (c : Cls X.K C)
    (hm : Meth X.K C m f) (F : FnOk X.prog X.w X.K X.mg X.base CX k f fd ps sp) (hr : Room k X.A) (hb : KBn X.K fd ps 1 ks g gV) (hx : Passes CX X E) (hkw : PK X kws tk)
    (hall : (backToKw pos (keywordEach kws X.env)).all (·.1.isSome) = true := by rfl) (hks : (backToKw pos (keywordEach kws X.env)).filterMap (·.1) = ks := by rfl)
    (hpl : ((backTo pos (starEach [] X.env)).any (·.1) || (backToKw pos (keywordEach kws X.env)).any (·.1.isNone)) = false := by rfl)
    (ht : eval (.Call (.Attribute o m apos) [] kws pos) X.env = (do
      let ov ← eval o X.env
      standAt apos.atName
      let (fv, first) ← holding [ov] (getMethod ov m pl)
      callWith pos fv first (backTo pos (starEach [] X.env)) (backToKw pos (keywordEach kws X.env))) := by rfl) :
    PE X (.Call (.Attribute o m apos) [] kws pos) (tMethK C m ks.length sp gV E ta tk) := by
  constructor
  intro pins s st H Q I h
  refine PySem.W.methodCall_KW (pl := pl) (thn (ho.run pins s st H _ I h) fun u s1 k1 => ?_) ht
  obtain ⟨x, H1, I1, rx, a, dx, fs, rfl, ha, l, q⟩ := k1
  cases rx
  refine getmeth_ok I1 ha c hm l ?_
  refine PySem.W.callWith_KW0 (first := [.ref a]) (h₀ := X.base) I.ok.mod.kin hm.kp hall ?_ hpl
  refine thn (hkw.run pos pins s1 st H1 _ I1 q) fun ws s2 k2 => ?_
  obtain ⟨zs, H2, I2, rz, lz, q2⟩ := k2
  refine ⟨I2.kIn, ?_⟩
  rw [hks]
  exact run_fnN (us := [.ref a]) (vs := [.ref a]) F hr hb hx I2 (.cons rfl .nil) rz rfl lz q2
end
/-- how a def without defaults binds keywords -/
theorem fun_kbn {K : PySem.W.Frag} {x qual : Str} {st : Stmt} {f : Addr} {fd : FuncData} {ps ks : List Str} {n : Nat} (F : Fun K x qual st f fd)
    (h : ∀ (kV doc pm : Value) (an : Option Addr) (cdv ct : Value) (us ws : List Value), us.length = n → ws.length = ks.length → bindArgs (PySem.W.fnOf x qual (defArgs st) (defBody st) (defScope st) .none kV doc pm an cdv ct) ⟨us, ks.zip ws⟩ = pure (ps.zip (us ++ ws))) :
    KBn K fd ps n ks (fun us ws => us ++ ws) (fun vs zs => vs ++ zs) := by
  obtain ⟨oc, od, kV, doc, pm, an, cdv, ct, osl, rfl, lk, hcd⟩ := F.ex
  exact ⟨fun s us ws _ l1 l2 => .of_eq (h kV doc pm an cdv ct us ws l1 l2), fun r1 r2 => r1.append r2⟩
/-- a method and its promise -/
structure Dm (P : Program) (w : World) (K : PySem.W.Frag) (mg : Str → Option Value) (base : Heap) (C : Addr) (k : Nat) (m : Str) (f : Addr) (ps : List Str) (sp : Sp) : Prop where
  ex : ∃ fd, FnOk P w K mg base CX0 k f fd ps sp ∧ Binds K fd ps []
  me : Meth K C m f
section
variable {X : Cx} {C f : Addr} {k : Nat} {m : Str} {ps : List Str} {sp : Sp}
theorem op_dm {op : Operator} (D : Dm X.prog X.w X.K X.mg X.base C k (PySem.dunder op.info.2) f ps sp) (self : PySem.W.selfFirst X.K C = true) (hr : Room k X.A) : OpR X (binaryOp op) (rOwn C sp E0) := by
  obtain ⟨fd, F, b⟩ := D.ex
  exact op_own F ⟨D.me.at_, D.me.fn⟩ self hr b pass0
theorem op_dmEq (D : Dm X.prog X.w X.K X.mg X.base C k "__eq__" f ps sp) (hr : Room k X.A) : OpR X (compareOp .Eq) (rOwn C sp E0) := by
  obtain ⟨fd, F, b⟩ := D.ex
  exact op_ownEq F ⟨D.me.at_, D.me.fn⟩ hr b pass0
theorem op_dmNe (D : Dm X.prog X.w X.K X.mg X.base C k "__eq__" f ps sp) (N : NoNe X.K C) (hr : Room (k + 1) X.A) : OpR X (compareOp .NotEq) (rOwnNe C sp E0) := by
  obtain ⟨fd, F, b⟩ := D.ex
  exact op_ownNe F ⟨D.me.at_, D.me.fn⟩ N hr b pass0
theorem op_dmIn (D : Dm X.prog X.w X.K X.mg X.base C k "__contains__" f ps sp) (hr : Room k X.A) : OpR X (compareOp .In) (rOwnIn C sp E0 false) := by
  obtain ⟨fd, F, b⟩ := D.ex
  exact op_ownIn F ⟨D.me.at_, D.me.fn⟩ hr b pass0
theorem op_dmNotIn (D : Dm X.prog X.w X.K X.mg X.base C k "__contains__" f ps sp) (hr : Room k X.A) : OpR X (compareOp .NotIn) (rOwnIn C sp E0 true) := by
  obtain ⟨fd, F, b⟩ := D.ex
  exact op_ownNotIn F ⟨D.me.at_, D.me.fn⟩ hr b pass0
theorem pe_dm {o e : Expr} {es : List Expr} {apos pos : Pos} {ta : TE} {t : TA} {pl : Sem Bool} (ho : PE X o ta) (c : Cls X.K C) (D : Dm X.prog X.w X.K X.mg X.base C k m f ps sp) (hr : Room k X.A) (ha : PA X (e :: es) t)
    (hst : starEach (e :: es) X.env = (false, eval e X.env) :: starEach es X.env := by rfl) (hpl : (backTo pos (starEach es X.env)).any (·.1) = false := by rfl)
    (ht : eval (.Call (.Attribute o m apos) (e :: es) [] pos) X.env = (do
      let ov ← eval o X.env
      standAt apos.atName
      let (fv, first) ← holding [ov] (getMethod ov m pl)
      callWith pos fv first (backTo pos (starEach (e :: es) X.env)) (backToKw pos (keywordEach [] X.env))) := by rfl) :
    PE X (.Call (.Attribute o m apos) (e :: es) [] pos) (tMeth C m sp [] E0 ta t) := by
  obtain ⟨fd, F, b⟩ := D.ex
  exact pe_meth (pl := pl) ho c D.me F hr b .nil pass0 ha hst hpl ht
end
end Gk
/-! Gk4: what stays, comprehensions whose heap grows, defs as bundles. -/
namespace Gk
open PySem PySem.Spec PyProof.Rows L2

/-! ### what stays: all but the addresses of T -/
def Kp (T : Addr → Prop) (H H2 : Hp) : Prop := ∀ b o, ¬ T b → H b = some o → H2 b = some o
abbrev T0 : Addr → Prop := fun _ => False
theorem Kp.refl {T : Addr → Prop} (H : Hp) : Kp T H H := fun _ _ _ h => h
theorem Kp.trans {T : Addr → Prop} {H H1 H2 : Hp} (a : Kp T H H1) (b : Kp T H1 H2) : Kp T H H2 := fun c o n h => b c o n (a c o n h)
theorem Kp.at0 {H H2 : Hp} (a : Kp T0 H H2) {b : Addr} {o : HO} (h : H b = some o) : H2 b = some o := a b o id h
theorem Kp.wide {T : Addr → Prop} {H H2 : Hp} (a : Kp T0 H H2) : Kp T H H2 := fun b o _ h => a b o id h
theorem Kp.new {T : Addr → Prop} {H H2 : Hp} {p : Addr} {o : HO} (a : Kp T H H2) (h : H2 p = none) : Kp T H (upd H2 p o) := fun b u n e => by
  have z := a b u n e
  rw [upd_ne (ne_of_none z h)]
  exact z
theorem Kp.put {T : Addr → Prop} {H H2 : Hp} {p : Addr} {o : HO} (a : Kp T H H2) (h : T p) : Kp T H (upd H2 p o) := fun b u n e => by
  rw [upd_ne (fun z => n (by rw [z]; exact h))]
  exact a b u n e
theorem Kp.over {T : Addr → Prop} {H H2 : Hp} {p : Addr} {o : HO} (a : Kp T H H2) (h : H p = none) : Kp T H (upd H2 p o) := fun b u n e => by
  rw [upd_ne (ne_of_none e h)]
  exact a b u n e
theorem Kp.free {H H2 : Hp} (a : Kp T0 H H2) {p : Addr} (h : H2 p = none) : H p = none := by
  cases e : H p with
  | none => rfl
  | some o => rw [a.at0 e] at h; cases h

/-! ### a comprehension -/
theorem lc_kp {T : Addr → Prop} {J : It} {n : Nat} {G : Hp → Prop} {Y : Nat → Hp → V → Hp → Prop} (w : Walk J n G Y) {i0 : Nat} {tt : TT} {te : TE} {vs : List Nat} {st : L2.St} {H1 : Hp} {D : Addr} {Qd : Hp → Prop}
    (src : Nat → V → Prop) (P : Nat → List V → Hp → Prop) (hY : ∀ i H x H2, i < n → Y i H x H2 → H2 = H ∧ src i x) (hD : H1 D = none) (hT : ¬ T D) (hn : n < sizeLine)  (hws : ∀ x, wipe ((wipe st vs).set i0 (some x)) vs = wipe st vs) (hG : ∀ H, Kp T H1 H → G H) (p0 : P 0 [] (upd H1 D (.lst [])))
    (step : ∀ (i : Nat) (x : V) (ys : List V) (H : Hp) (Ky : V → Hp → Prop) (Kn : Hp → Prop), i < n → src i x → Kp T H1 H → H D = some (.lst ys) → P i ys H →
      (∀ y H4, Kp T H H4 → P (i + 1) (ys ++ [y]) (upd H4 D (.lst (ys ++ [y]))) → Ky y H4) → (∀ H3, Kp T H H3 → P (i + 1) ys H3 → Kn H3) →
      tt ((wipe st vs).set i0 (some x)) H fun b H3 => if b = true then te ((wipe st vs).set i0 (some x)) H3 Ky else Kn H3)
    (fin : ∀ ys H, Kp T H1 H → H D = some (.lst ys) → ys.length ≤ n → P n ys H → Qd H) :
    ∃ W : Nat → Nat → Hp → Prop, (∃ m, W 0 m (upd H1 D (.lst []))) ∧ ∀ i m H, W i m H →
      (J.stop i H ∧ Qd H) ∨ (J.go i H ∧ ∃ Nx : Hp → Prop, (∀ H2, Nx H2 → ∃ m2, m2 < m ∧ W (i + 1) m2 H2) ∧ ∀ x H2, J.yld i H x H2 → gName i0 x (wipe st vs) H2 fun s2 H2 => wipe s2 vs = wipe st vs ∧ tt s2 H2 fun b H3 =>
        if b = true then te s2 H3 fun y H4 => ∃ acc, H4 D = some (.lst acc) ∧ acc.length < sizeLine ∧ Nx (upd H4 D (.lst (acc ++ [y]))) else Nx H3) := by
  refine lc_it w (fun i H => ∃ ys, Kp T H1 H ∧ H D = some (.lst ys) ∧ ys.length ≤ i ∧ P i ys H) ⟨[], (Kp.refl H1).over hD, upd_same, Nat.le_refl _, p0⟩ (fun i H _ q => ?_) (fun i x H H2 hi q y => ?_) (fun H q => ?_)
  · obtain ⟨ys, k, _⟩ := q
    exact hG H k
  · obtain ⟨ys, k, d, l, p⟩ := q
    obtain ⟨rfl, sx⟩ := hY i H x H2 hi y
    refine ⟨hws x, ?_⟩
    refine step i x ys H2 _ _ hi sx k d p (fun y H4 k4 p4 => ?_) (fun H3 k3 p3 => ?_)
    · refine ⟨ys, k4 D _ hT d, by omega, ys ++ [y], (k.trans k4).over hD, upd_same, ?_, p4⟩
      rw [List.length_append, List.length_singleton]
      omega
    · exact ⟨ys, k.trans k3, k3 D _ hT d, by omega, p3⟩
  · obtain ⟨ys, k, d, l, p⟩ := q
    exact fin ys H k d l p

theorem yes_ {st : L2.St} {H : Hp} {A B : Hp → Prop} (h : A H) : tYes st H fun b H3 => if b = true then A H3 else B H3 := by
  show (if true = true then A H else B H)
  exact iteT h
/-- lists item by item -/
theorem snoc_at {α : Type} {R : Nat → α → Prop} {ys : List α} {y : α} (h : ∀ (j : Nat) v, ys[j]? = some v → R j v) (hy : R ys.length y) : ∀ (j : Nat) v, (ys ++ [y])[j]? = some v → R j v := by
  intro j v e
  by_cases hj : j < ys.length
  · rw [List.getElem?_append_left hj] at e
    exact h j v e
  · have ej : j = ys.length := by
      have l := (List.getElem?_eq_some_iff.mp e).1
      rw [List.length_append, List.length_singleton] at l
      omega
    rw [ej, List.getElem?_concat_length] at e
    cases Option.some.inj e
    rw [ej]
    exact hy
theorem bools_of {R : Nat → Bool → Prop} {ys : List V} (h : ∀ (j : Nat) v, ys[j]? = some v → ∃ b, v = .bl b ∧ R j b) : ∃ bs : List Bool, ys = bs.map V.bl ∧ bs.length = ys.length ∧ ∀ (j : Nat) b, bs[j]? = some b → R j b := by
  refine ⟨ys.map fun v => match v with | .bl b => b | _ => false, ?_, by rw [List.length_map], fun j b e => ?_⟩
  · rw [List.map_map]
    refine (List.map_id _).symm.trans (List.map_congr_left fun v hv => ?_)
    obtain ⟨j, hj⟩ := List.mem_iff_getElem?.mp hv
    obtain ⟨c, rfl, _⟩ := h j v hj
    rfl
  · rw [List.getElem?_map] at e
    cases ev : ys[j]? with
    | none => rw [ev] at e; cases e
    | some v =>
      rw [ev] at e
      obtain ⟨c, rfl, r⟩ := h j v ev
      have e2 : c = b := Option.some.inj e
      rw [← e2]
      exact r
/-- slots: a comprehension's own one -/
theorem wipe1 (st : L2.St) (i : Nat) (x : V) : wipe ((wipe st [i]).set i (some x)) [i] = wipe st [i] := by
  show ((st.set i none).set i (some x)).set i none = st.set i none
  rw [List.set_set, List.set_set]

/-- a dict's comprehension -/
theorem dc_it {J : It} {n : Nat} {G : Hp → Prop} {Y : Nat → Hp → V → Hp → Prop} (w : Walk J n G Y) {new : HO} {t : TStore} {g : TG} {tt : TT} {tk tv : TE} {vs : List Nat} {st : L2.St} {H1 : Hp} {D : Addr} {Qd : Hp → Prop}
    (Pv : Nat → Hp → Prop) (h0 : Pv 0 (upd H1 D new)) (hG : ∀ i H, i ≤ n → Pv i H → G H)
    (hs : ∀ i x H H2, i < n → Pv i H → Y i H x H2 → g x (wipe st vs) H2 fun s2 H2 => wipe s2 vs = wipe st vs ∧ tt s2 H2 fun b H3 => if b = true then tk s2 H3 fun y H4 => tv s2 H4 fun z H5 => t D y z H5 (Pv (i + 1)) else Pv (i + 1) H3)
    (hd : ∀ H, Pv n H → Qd H) :
    ∃ W : Nat → Nat → Hp → Prop, (∃ m, W 0 m (upd H1 D new)) ∧ ∀ i m Ha, W i m Ha →
      (J.stop i Ha ∧ Qd Ha) ∨
      (J.go i Ha ∧ ∃ Nx : Hp → Prop, (∀ Hb, Nx Hb → ∃ m2, m2 < m ∧ W (i + 1) m2 Hb) ∧ ∀ x Hb, J.yld i Ha x Hb →
        g x (wipe st vs) Hb fun st2 H2 => wipe st2 vs = wipe st vs ∧ tt st2 H2 fun b H3 =>
          if b = true then tk st2 H3 fun y H4 => tv st2 H4 fun z H5 => t D y z H5 Nx else Nx H3) := by
  refine ⟨fun i m H => m = n - i ∧ i ≤ n ∧ Pv i H, ⟨n, rfl, Nat.zero_le _, h0⟩, ?_⟩
  rintro i m H ⟨rfl, hi, p⟩
  have q := hG i H hi p
  by_cases lt : i < n
  · exact .inr ⟨w.goes i H lt q, Pv (i + 1), fun H2 p2 => ⟨n - (i + 1), by omega, rfl, lt, p2⟩, fun x H2 y => hs i x H H2 lt p (w.yields i H x H2 lt q y)⟩
  · have e : i = n := by omega
    subst e
    exact .inl ⟨w.stops H q, hd H p⟩

/-! ### scopes of a comprehension in a comprehension -/
def rel2 (sc outer : Scope) : Scope := { sc with names := sc.names.map fun (n, k) => if (k == .free && outer.kind == .function && outer.names.lookup n == some .cell) then (n, .cell) else (n, k) }
theorem blkOk_in {N : List Str} {env : Env} {sc2 scope outer : Scope} {own : List (Str × Nat)} (e : env.scope = outer) (h : blkC N (rel2 sc2 outer) scope own = true) : BlkOk N (relabel sc2 env) scope own := by
  subst e
  exact blkOk_by h

/-! ### a def and its promise, in one -/
structure Df (P : Program) (w : World) (K : PySem.W.Frag) (mg : Str → Option Value) (base : Heap) (k : Nat) (f : Addr) (x : Str) (ps : List Str) (sp : Sp) : Prop where
  ex : ∃ fd, FnOk P w K mg base CX0 k f fd ps sp ∧ Binds K fd ps []
  mgx : mg x = some (.ref f)
  kp : PySem.W.keepIn K (.ref f) = true
section
variable {X : Cx} {k : Nat} {f : Addr} {x : Str} {ps : List Str} {sp : Sp} {p pos : Pos} {e : Expr} {es : List Expr} {t : TA}
theorem pe_df (D : Df X.prog X.w X.K X.mg X.base k f x ps sp) (hr : Room k X.A) (hg : Gl X x) (ha : PA X (e :: es) t) (hdb : (x == ("__debug__" : Str)) = false := by decide)
    (he : starEach (e :: es) X.env = (false, eval e X.env) :: starEach es X.env := by rfl) (hpl : (backTo pos (starEach es X.env)).any (·.1) = false := by rfl) :
    PE X (.Call (.Name x p) (e :: es) [] pos) (tCall sp [] E0 t) := by
  obtain ⟨fd, F, b⟩ := D.ex
  exact pe_call F hr hg D.mgx D.kp b .nil pass0 ha hdb he hpl
end

/-! ### paths and masks in the heap -/
def IsP (H : Hp) (v : V) (p : Pth) : Prop := ∃ a, v = .ref a ∧ H a = some (.tup (p.map V.str))
abbrev Ps (H : Hp) : List V → List Pth → Prop := Paired (IsP H)
theorem IsP.keep {T : Addr → Prop} {H H2 : Hp} {v : V} {p : Pth} (h : IsP H v p) (k : Kp T H H2) (hT : ∀ a o, T a → H a = some o → ∀ xs, o ≠ .tup xs) : IsP H2 v p := by
  obtain ⟨a, e, h⟩ := h
  exact ⟨a, e, k a _ (fun t => hT a _ t h _ rfl) h⟩
theorem IsP.keep0 {H H2 : Hp} {v : V} {p : Pth} (h : IsP H v p) (k : Kp T0 H H2) : IsP H2 v p := h.keep k fun _ _ z => z.elim
theorem Ps.keep {T : Addr → Prop} {H H2 : Hp} {vs : List V} {ps : List Pth} (h : Ps H vs ps) (k : Kp T H H2) (hT : ∀ a o, T a → H a = some o → ∀ xs, o ≠ .tup xs) : Ps H2 vs ps := Paired.mapP h fun _ _ z => z.keep k hT
theorem Ps.keep0 {H H2 : Hp} {vs : List V} {ps : List Pth} (h : Ps H vs ps) (k : Kp T0 H H2) : Ps H2 vs ps := h.keep k fun _ _ z => z.elim
theorem Ps.get {H : Hp} : ∀ {vs : List V} {ps : List Pth} {i : Nat} {v : V}, Ps H vs ps → vs[i]? = some v → ∃ p, ps[i]? = some p ∧ IsP H v p
  | _, _, _, _, .nil, e => nomatch e
  | _, _, 0, _, .cons r _, e => by
    cases Option.some.inj e
    exact ⟨_, rfl, r⟩
  | _, _, i + 1, _, .cons _ t, e => Ps.get (i := i) t e
theorem Ps.snoc {H : Hp} : ∀ {vs : List V} {ps : List Pth} {v : V} {p : Pth}, Ps H vs ps → IsP H v p → Ps H (vs ++ [v]) (ps ++ [p])
  | _, _, _, _, .nil, h => .cons h .nil
  | _, _, _, _, .cons r t, h => .cons r (Ps.snoc t h)
theorem Ps.app {H : Hp} : ∀ {vs us : List V} {ps qs : List Pth}, Ps H vs ps → Ps H us qs → Ps H (vs ++ us) (ps ++ qs)
  | _, _, _, _, .nil, h => h
  | _, _, _, _, .cons r t, h => .cons r (Ps.app t h)
end Gk
/-! Gk12: promises of defs that are called while no repr is under way (repr of data wants to know that). -/
namespace Gk
open PySem PySem.Spec PyProof.Rows L2
/-- no repr is under way -/
def Free (A : Around) : Prop := A.guards = some []
structure FnG (P : Program) (w : World) (K : PySem.W.Frag) (mg : Str → Option Value) (base : Heap) (k : Nat) (f : Addr) (fd : FuncData) (ps : List Str) (sp : Sp) : Prop where
  len : ∀ vs H Q E, sp vs H Q E → vs.length = ps.length
  run : ∀ (A : Around) (outer : List Env) (s : Shared) (H : Hp) (args : Args) (us : List Value) (vs : List V) (Q : VK) (E : XK), Free A → Room k A → Env0 P w K mg base A outer s H → BindsTo s fd args (ps.zip us) → Vals vs us → sp vs H Q E →
    codeAny (model P w) A (.call (.ref f) args) (CR CX0 outer P w H s Q E) s
theorem fnG_ok {P : Program} {w : World} {K : PySem.W.Frag} {mg : Str → Option Value} {base : Heap} {k : Nat} {f : Addr} {fd : FuncData} {ps : List Str} {sp : Sp} (F : FnOk P w K mg base CX0 k f fd ps sp) : FnG P w K mg base k f fd ps sp :=
  ⟨F.len, fun A outer s H args us vs Q E _ hr e b r h => F.run A outer s H args us vs Q E hr e b r h⟩
theorem Free.deeper {A : Around} (h : Free A) (e : Env) : Free (A.deeper e) := h
theorem Free.in1 {A : Around} (h : Free A) : Free A.in1 := h
section
variable {P : Program} {w : World} {K : PySem.W.Frag} {mg : Str → Option Value} {base : Heap}
theorem fnG_by {nm qual : Str} {st : Stmt} {f : Addr} {fd : FuncData} {N ps : List Str} {k : Nat} {sp : Sp} (F : Fun K nm qual st f fd) (S : FnScope N ps (defScope st)) (len : ∀ vs H Q E, sp vs H Q E → vs.length = ps.length)
    (hbody : ∀ (cdv : Value) (A : Around) (outer : List Env) (s : Shared) (H : Hp) (vs : List V) (Q : VK) (E : XK), Free A → Room k (A.deeper (envOfC qual (defScope st) s.heap.objs.size f cdv)) → sp vs H Q E →
      ∃ t, PSs (cxOf CX0 P w K mg base N qual (defScope st) f cdv A outer s H E).nox (defBody st) t ∧ t { nx := fun _ H2 => Q .non H2, rt := Q } (start N vs) H) : FnG P w K mg base (k + 1) f fd ps sp := by
  obtain ⟨oc, od, kV, doc, pm, an, cdv, ct, osl, rfl, lk, hcd⟩ := F.ex
  refine ⟨len, fun A outer s H args us vs Q E hg room en bnd rel pr => ?_⟩
  have nl := len vs H Q E pr
  have inK : K.In s.heap := en.mod.kin.keeps fun b o e => (en.bs b o e).1
  have noLim : s.heap.NoLimit := en.mod.nolimit.keeps fun b o e => (en.bs b o e).1
  have kinds : ∀ y ∈ ps.zip us, (defScope st).names.lookup y.1 = some .local ∨ ((defScope st).names.lookup y.1 = some .cell ∧ ((cellsFrom (s.heap.objs.size + 1) (defScope st).names []).lookup y.1).isSome = true) := by
    intro y my
    obtain ⟨m1, _⟩ := List.of_mem_zip (show (y.1, y.2) ∈ ps.zip us from my)
    exact (S.par y.1 m1).imp id fun c => ⟨c, PySem.W.cellsFrom_some _ _ _ (.inl c)⟩
  refine codeAny_call_function room.depth (inK _ _ lk) rfl S.co S.gen rfl (PySem.W.codeRec_of inK hcd) (bnd _ _ _ _ (wpAny_newFunctionEnv_cells S.kind kinds fun ev hev s1 x => ?_))
  cases hev
  refine ⟨noLim.keeps x.toInCall.keep, codeAny_func ?_⟩
  obtain ⟨t, ht, go⟩ := hbody cdv A outer s H vs Q E hg (room.deeper _) pr
  have inv : Inv (cxOf CX0 P w K mg base N qual (defScope st) f cdv A outer s H E) [] (start N vs) H s1 := inv_start S room.hd en nl rel x
  have done : ∀ {st2 : L2.St} {H2 : Hp} {s2 : Shared} {v : V} {u : Value}, Inv (cxOf CX0 P w K mg base N qual (defScope st) f cdv A outer s H E) [] st2 H2 s2 → RelV v u → Q v H2 → CE outer P w H s Q u s2 :=
    fun {st2 H2 s2 v u} J rv q => ⟨v, H2, J.os, J.bare, J.base, J.hok, rv, q⟩
  refine wpAny_mono (ht.nox.run [] s1 (start N vs) H _ inv go) (fun fl s2 h => ?_) fun _ _ h => h
  match fl, h with
  | .ret u, ⟨v, st2, H2, J, rv, q⟩ => exact done J rv q
  | .next, ⟨st2, H2, J, q⟩ => exact done (v := V.non) (u := Value.none) J rfl q
  | .brk, ⟨_, _, _, q⟩ => exact q.elim
  | .cont, ⟨_, _, _, q⟩ => exact q.elim
end
/-- a def of the module and such a promise -/
structure DfG (P : Program) (w : World) (K : PySem.W.Frag) (mg : Str → Option Value) (base : Heap) (k : Nat) (f : Addr) (x : Str) (ps : List Str) (sp : Sp) : Prop where
  ex : ∃ fd, FnG P w K mg base k f fd ps sp ∧ Binds K fd ps []
  mgx : mg x = some (.ref f)
  kp : PySem.W.keepIn K (.ref f) = true
section
variable {X : Cx} {k : Nat} {f : Addr} {x : Str} {ps : List Str} {sp : Sp} {p pos : Pos} {e : Expr} {es : List Expr} {t : TA}
theorem pe_dfG (D : DfG X.prog X.w X.K X.mg X.base k f x ps sp) (hf : Free X.A) (hr : Room k X.A) (hg : Gl X x) (ha : PA X (e :: es) t) (hdb : (x == ("__debug__" : Str)) = false := by decide)
    (he : starEach (e :: es) X.env = (false, eval e X.env) :: starEach es X.env := by rfl) (hpl : (backTo pos (starEach es X.env)).any (·.1) = false := by rfl) :
    PE X (.Call (.Name x p) (e :: es) [] pos) (tCall sp [] E0 t) := by
  obtain ⟨fd, F, hb⟩ := D.ex
  constructor
  intro pins s st H Q I h
  refine wpAny_Call_Name_kw (ld_glob I hg D.mgx ?_ hdb)
  refine PySem.W.callWith_K (h₀ := X.base) I.ok.mod.kin D.kp (thn (ha.run pos pins s st H _ I h) fun us s1 z => ?_) he hpl
  obtain ⟨vs, H1, I1, r, q⟩ := z
  refine ⟨I1.kIn, ?_⟩
  rw [List.append_nil] at q
  have hl : us.length = ps.length := r.length.symm.trans (F.len _ _ _ _ q)
  have bd := hb s1 us I1.kIn (by rw [List.append_nil]; exact hl)
  rw [List.append_nil] at bd
  refine wpAny_call (codeAny_mono (F.run X.A X.stack s1 H1 ⟨us, []⟩ us vs Q E0 hf hr I1.env0 bd r q) ?_)
  intro res s2 q2
  match res, q2 with
  | .error e, q2 => exact pass0 pins st H1 s1 e s2 I1 q2
  | .ok (.ret u), q2 => exact I1.after q2
  | .ok .next, q2 => exact q2.elim
  | .ok .brk, q2 => exact q2.elim
  | .ok .cont, q2 => exact q2.elim
end
end Gk
/-! Gk13: a law's end where its promise is an FnG. -/
namespace Gk
open PySem PySem.Spec PyProof.Rows L2
/-- the script, seen through an abstract heap that tracks it alone, or nothing -/
theorem script_seen {P : Program} {w : World} {K : PySem.W.Frag} {s : Shared} {a : Addr} {vs : List Value} {ns : List Int} (KX : K.In s.heap) (ha : s.heap.get? a = some { cls := .type "list", data := .seq vs.toArray }) (hi : IntsAre vs ns) (hl : ns.length ≤ sizeLine) :
    ∃ H : Hp, Only H ∧ SqL K H a (ns.map V.int) ∧ HOk P w H s.heap ∧ (∀ b o, K.lookup b = some o → H b = none) ∧ ∀ b (o : Obj) es ep, s.heap.get? b = some o → o.data = .dict es ep → H b = none := by
  have rel := vals_ints hi
  cases hk : K.lookup a with
  | some o =>
    have same := KX a o hk
    rw [ha] at same
    cases same
    refine ⟨fun _ => none, fun _ => .inl rfl, .inr ⟨_, vs.toArray, _, hk, rfl, rfl, rfl, ?_, by simpa using rel⟩, (fun b u z => nomatch (show (none : Option HO) = some u from z)), fun _ _ _ => rfl, fun _ _ _ _ _ _ => rfl⟩
    rw [List.size_toArray, hi.length]
    exact hl
  | none =>
    let so : Obj := { cls := .type "list", data := .seq vs.toArray }
    refine ⟨fun b => if b = a then some (.frz so (.lst (ns.map V.int))) else none, fun b => ?_, .inl (.inr ⟨so, if_pos rfl⟩), fun b u z => ?_, fun b o e => ?_, fun b o es ep e d => ?_⟩
    · by_cases c : b = a
      · exact .inr ⟨_, _, if_pos c⟩
      · exact .inl (if_neg c)
    · by_cases c : b = a
      · cases (if_pos c).symm.trans z
        cases c
        exact ⟨ha, by rw [List.length_map]; exact hl, vs, _, rel, ha⟩
      · cases (if_neg c).symm.trans z
    · refine if_neg fun c => ?_
      cases c
      rw [hk] at e
      cases e
    · refine if_neg fun c => ?_
      cases c
      rw [ha] at e
      cases e
      exact nomatch (show Data.seq vs.toArray _ = Data.dict es ep from d)
theorem callerFree : Free callerA := rfl
theorem lawG_call {P : Program} {w : World} {K : PySem.W.Frag} {mg mb : Str → Option Value} {k : Nat} {fa a : Addr} {fd : FuncData} {x : Str} {sp : Sp} {s : Shared} {vs : List Value} {ns : List Int}
    (KX : K.In s.heap) (hm : s.heap.Ns mainGlobals mg) (hb : s.heap.Ns builtinsNs mb) (hbb : ∀ y : Str, y ≠ "__name__" → mb y = bootBuiltins y) (lim : s.heap.NoLimit) (hg : s.gens = #[])
    (ha : s.heap.get? a = some { cls := .type "list", data := .seq vs.toArray }) (hi : IntsAre vs ns) (hl : ns.length ≤ sizeLine) (room : Room k callerA)
    (F : ∀ base : Heap, K.In base → base.Ns mainGlobals mg → FnG P w K mg base k fa fd [x] sp) (bnd : ∀ (s : Shared) (u : Value), BindsTo s fd ⟨[u], []⟩ [(x, u)])
    (hsp : ∀ H : Hp, Only H → SqL K H a (ns.map V.int) → sp [.ref a] H (fun v _ => v = .bl true) fun _ _ _ => False) :
    codeAny (model P w) callerA (.call (.ref fa) ⟨[.ref a], []⟩) (fun r s2 => r = .ok (.ret (.bool true)) ∧ OldK s.heap s2.heap ∧ s2.os = s.os ∧ AllBare s2.gens) s := by
  obtain ⟨H, only, seen, ok, noK, noD⟩ := script_seen (P := P) (w := w) KX ha hi hl
  have nsOf : ∀ {b : Addr} {m : Str → Option Value}, s.heap.Ns b m → (hidT s.heap H).Ns b m := by
    rintro b m ⟨o, es, ep, e, d, r⟩
    exact ⟨o, es, ep, hidT_get e (noD b o es ep e d), d, r⟩
  have inB : K.In (hidT s.heap H) := fun b o e => hidT_get (KX b o e) (noK b o e)
  obtain ⟨mc, l1, l2⟩ := lim
  have md : Mod K mg (hidT s.heap H) := ⟨inB, nsOf hm, ⟨mb, nsOf hb, hbb⟩, mc, nsOf l1, l2⟩
  have en : Env0 P w K mg (hidT s.heap H) callerA [] s H := ⟨rfl, md, fun b o e => of_hidT e, Nat.le_of_eq (hidT_size _ _), trivial, (fun b z => nomatch (show b ∈ ([] : List Addr) from z)), ok, .of_eq hg⟩
  refine codeAny_mono ((F _ inB (nsOf hm)).run callerA [] s H ⟨[.ref a], []⟩ [.ref a] [.ref a] _ _ callerFree room en (bnd s (.ref a)) (.cons rfl .nil) (hsp H only seen)) fun r s2 q => ?_
  match r, q with
  | .error e, q => exact (show False from q).elim
  | .ok .next, q => exact q.elim
  | .ok .brk, q => exact q.elim
  | .ok .cont, q => exact q.elim
  | .ok (.ret u), ⟨v, H2, os, bare, un, ok2, rv, qv⟩ =>
    cases (show v = V.bl true from qv)
    cases rv
    refine ⟨rfl, OldK.of_keep fun b o e => ?_, os, bare⟩
    rcases only b with z | ⟨ob, xs, z⟩
    · exact un.keep b o e z (fun m => nomatch (show b ∈ ([] : List Addr) from m)) (fun m => nomatch m)
    · obtain ⟨g1, _⟩ := ok b _ z
      obtain ⟨g2, _⟩ := ok2 b _ (un.frzs b ob _ z)
      rw [e] at g1
      cases g1
      exact g2
theorem walkG {l : PySem.W.OpenLaw} {n k : Nat} {q : Program} {loose : List Str} {XP : (Str → Option Value) → Heap → Prop} {YP : World → Heap → Prop} {d : DefRec} {K : Params → PySem.W.Frag} {sp : World → Sp} {x : Str}
    (hn : l.most = some n) (hn2 : n ≤ sizeLine) (hdf : d.params.defaults = []) (hr : Room k callerA) (hY : ∀ (w : World) (h : Heap), YP w h → (K w.params).In h)
    (F : ∀ (w : World) (mg : Str → Option Value) (fa : Addr) (h : Heap), (K w.params).In h → h.Ns mainGlobals mg → mg d.name = some (.ref fa) →
      ∃ fd : FuncData, (∀ (s : Shared) (u : Value), BindsTo s fd ⟨[u], []⟩ [(x, u)]) ∧ ∀ base : Heap, (K w.params).In base → base.Ns mainGlobals mg → FnG l.prog w (K w.params) mg base k fa fd [x] (sp w))
    (hsp : ∀ (w : World) (H : Hp) (a : Addr) (ns : List Int), ns.length ≤ n → (∀ z ∈ ns, Builtin.Int.intBits z ≤ 1048576) → Only H → SqL (K w.params) H a (ns.map V.int) → sp w [.ref a] H (fun v _ => v = .bl true) fun _ _ _ => False) :
    PySem.W.WalkO q loose XP YP l.row.toRowW d [] (fun f vs => PySem.call f vs) := by
  refine Att.attach_callB hn hdf fun w s₀ s mg mb fa o pm cd doc a vs ns G Y ho hd hcd hmg hobj hints hlen hbits hg => ?_
  obtain ⟨fd, bnd, hF⟩ := F w mg fa _ (hY w _ Y) G.T.g hmg
  exact lawG_call (hY w _ Y) G.T.g G.T.b G.T.builtins G.T.nolimit hg hobj hints (Nat.le_trans hlen hn2) hr hF bnd fun H hO hS => hsp w H a ns hlen hbits hO hS
end Gk
/-! Gk5: names and paths, as plain data. -/
namespace Gk
open PySem PySem.Spec PyProof.Rows L2

/-! ### names -/
def LET : Str := "abcdefghijklmnopqrstuvwxyz"
def isLet (x : Str) (lo hi : Int) : Bool := decide (lo ≤ (x.length : Int)) && decide ((x.length : Int) ≤ hi) && x.cps.toList.all fun c => decide (c ∈ LET.cps.toList)
def isNm (x : Str) : Bool := isLet x 1 8
theorem all_seq (p : Nat → Bool) (x : Str) (bs : List Bool) (hl : bs.length = x.cps.size) (h : ∀ (i : Nat) b, bs[i]? = some b → ∃ c, x.cps[i]? = some c ∧ b = p c) : bs.all id = x.cps.toList.all p := by
  have e : bs = x.cps.toList.map p := by
    refine List.ext_getElem (by rw [List.length_map, Array.length_toList]; exact hl) fun i h1 h2 => ?_
    obtain ⟨c, e1, e2⟩ := h i bs[i] (List.getElem?_eq_getElem h1)
    rw [e2, List.getElem_map]
    congr 1
    rw [Array.getElem?_eq_some_iff] at e1
    obtain ⟨g1, g2⟩ := e1
    rw [← g2, Array.getElem_toList]
  rw [e, List.all_map]
  rfl
theorem let_small : ∀ c ∈ LET.cps.toList, c < 128 := by decide +kernel
theorem isLet_ok {x : Str} {lo hi : Int} (h : isLet x lo hi = true) : PyData.strOk x = true ∧ lo ≤ (x.length : Int) ∧ (x.length : Int) ≤ hi := by
  unfold isLet at h
  rw [Bool.and_eq_true, Bool.and_eq_true] at h
  obtain ⟨⟨h1, h2⟩, h3⟩ := h
  refine ⟨?_, of_decide_eq_true h1, of_decide_eq_true h2⟩
  unfold PyData.strOk
  rw [Array.all_eq_true']
  intro c hc
  have q := List.all_eq_true.mp h3 c (Array.mem_toList_iff.mpr hc)
  have l := let_small c (of_decide_eq_true q)
  exact decide_eq_true (by omega)
theorem isNm_ok {x : Str} (h : isNm x = true) : PyData.strOk x = true ∧ x.length < sizeLine := by
  obtain ⟨h1, _, h3⟩ := isLet_ok h
  exact ⟨h1, by rw [sizeLine_eq]; omega⟩

/-- a value that is no text; none that is a tuple -/
def NoStr (K : PySem.W.Frag) (H : Hp) (v : V) : Prop := ∃ t, TyX K H v t ∧ PySem.W.kitOne K t (.type "str") = some false
def NoTup (K : PySem.W.Frag) (H : Hp) (v : V) : Prop := ∃ t, TyX K H v t ∧ PySem.W.kitOne K t (.type "tuple") = some false
theorem tyx_keep {K : PySem.W.Frag} {H H2 : Hp} {v : V} {t : Value} (h : TyX K H v t) (k : Kp T0 H H2) : TyX K H2 v t := by
  cases h with
  | base b =>
    refine .base ?_
    cases b with
    | non => exact .non
    | bl x => exact .bl x
    | int i => exact .int i
    | str x => exact .str x
    | flt x => exact .flt x
    | lst e => exact .lst (k.at0 e)
    | frz e => exact .frz (k.at0 e)
    | tup e => exact .tup (k.at0 e)
    | dK e => exact .dK (k.at0 e)
    | dT e => exact .dT (k.at0 e)
    | ins e c h1 h2 h3 h4 => exact .ins (k.at0 e) c h1 h2 h3 h4
  | byt b => exact .byt b
  | set e => exact .set (k.at0 e)
  | kList e c => exact .kList e c
  | kTuple e c => exact .kTuple e c
  | kDict e c => exact .kDict e c
  | fTuple e => exact .fTuple (k.at0 e)
  | fDict e => exact .fDict (k.at0 e)
theorem NoStr.keep0 {K : PySem.W.Frag} {H H2 : Hp} {v : V} (h : NoStr K H v) (k : Kp T0 H H2) : NoStr K H2 v := by
  obtain ⟨t, a, b⟩ := h
  exact ⟨t, tyx_keep a k, b⟩
theorem NoTup.keep0 {K : PySem.W.Frag} {H H2 : Hp} {v : V} (h : NoTup K H v) (k : Kp T0 H H2) : NoTup K H2 v := by
  obtain ⟨t, a, b⟩ := h
  exact ⟨t, tyx_keep a k, b⟩
/-- an item of a row and whether it is a name -/
def ItN (K : PySem.W.Frag) (H : Hp) (v : V) (r : Bool) : Prop := (∃ x : Str, v = .str x ∧ x.length < sizeLine ∧ r = isNm x) ∨ (NoStr K H v ∧ r = false)
theorem ItN.keep0 {K : PySem.W.Frag} {H H2 : Hp} {v : V} {r : Bool} (h : ItN K H v r) (k : Kp T0 H H2) : ItN K H2 v r :=
  h.imp id fun z => ⟨z.1.keep0 k, z.2⟩

/-! ### paths as data -/
abbrev dP (p : Pth) : PyData := .tuple (p.map PyData.str)
abbrev dM (ps : List Pth) : PyData := .tuple (ps.map dP)
theorem dp_strs {K : PySem.W.Frag} {H : Hp} : ∀ p : Pth, DpAll K H (p.map V.str) (p.map PyData.str)
  | [] => .nil
  | x :: p => .cons (.str x) (dp_strs p)
theorem IsP.dp {K : PySem.W.Frag} {H : Hp} {v : V} {p : Pth} (h : IsP H v p) : Dp K H v (dP p) := by
  obtain ⟨a, rfl, h⟩ := h
  exact .tup (SqT.of h) (dp_strs p)
theorem Ps.dp {K : PySem.W.Frag} {H : Hp} : ∀ {vs : List V} {ps : List Pth}, Ps H vs ps → DpAll K H vs (ps.map dP)
  | _, _, .nil => .nil
  | _, _, .cons r t => .cons (IsP.dp r) (Ps.dp t)
theorem eqv_strs : ∀ p q : Pth, PyData.eqvAll (p.map PyData.str) (q.map PyData.str) = decide (p = q)
  | [], [] => by rw [decide_eq_true rfl] <;> rfl
  | [], _ :: _ => by rw [decide_eq_false (by intro e; cases e)] <;> rfl
  | _ :: _, [] => by rw [decide_eq_false (by intro e; cases e)] <;> rfl
  | x :: p, y :: q => by
    show (PyData.eqv (.str x) (.str y) && PyData.eqvAll (p.map PyData.str) (q.map PyData.str)) = _
    rw [eqv_strs p q]
    show (x == y && decide (p = q)) = _
    by_cases h1 : x = y
    · subst h1
      rw [beq_self_eq_true, Bool.true_and]
      exact decide_eq_decide.mpr ⟨fun e => by rw [e], fun e => by injection e⟩
    · rw [beq_eq_false_iff_ne.mpr h1, Bool.false_and, decide_eq_false]
      intro e
      injection e with e1 e2
      exact h1 e1
theorem eqv_dP (p q : Pth) : PyData.eqv (dP p) (dP q) = decide (p = q) := eqv_strs p q
theorem eqv_paths : ∀ ps qs : List Pth, PyData.eqvAll (ps.map dP) (qs.map dP) = decide (ps = qs)
  | [], [] => by rw [decide_eq_true rfl] <;> rfl
  | [], _ :: _ => by rw [decide_eq_false (by intro e; cases e)] <;> rfl
  | _ :: _, [] => by rw [decide_eq_false (by intro e; cases e)] <;> rfl
  | p :: ps, q :: qs => by
    show (PyData.eqv (dP p) (dP q) && PyData.eqvAll (ps.map dP) (qs.map dP)) = _
    rw [eqv_paths ps qs, eqv_dP]
    by_cases h1 : p = q
    · subst h1
      rw [decide_eq_true rfl, Bool.true_and]
      exact decide_eq_decide.mpr ⟨fun e => by rw [e], fun e => by injection e⟩
    · rw [decide_eq_false h1, Bool.false_and, decide_eq_false]
      intro e
      injection e with e1 e2
      exact h1 e1
theorem eqv_dM (ps qs : List Pth) : PyData.eqv (dM ps) (dM qs) = decide (ps = qs) := eqv_paths ps qs
/-- a path whose parts are names -/
def OkN (p : Pth) : Prop := ∀ x ∈ p, isNm x = true
def OkP (p : Pth) : Prop := OkN p ∧ p.length ≤ 1000
theorem lay_dN {p : Pth} (h : OkN p) : (dP p).canLay0 = true := by
  show PyData.canLayAll0 (p.map PyData.str) = true
  induction p with
  | nil => rfl
  | cons x p ih =>
    show (PyData.canLay0 (.str x) && PyData.canLayAll0 (p.map PyData.str)) = true
    rw [ih fun y hy => h y (List.mem_cons_of_mem _ hy), Bool.and_true]
    exact (isNm_ok (h x List.mem_cons_self)).1
theorem lay_dP {p : Pth} (h : OkP p) : (dP p).canLay0 = true := lay_dN h.1
theorem depth_dP (p : Pth) : (dP p).depth ≤ 1 := by
  have e : PyData.depthAll (p.map PyData.str) = 0 := by
    induction p with
    | nil => rfl
    | cons x p ih =>
      show max (PyData.depth (.str x)) (PyData.depthAll (p.map PyData.str)) = 0
      rw [ih] <;> rfl
  show PyData.depthAll (p.map PyData.str) + 1 ≤ 1
  omega
theorem shaped_dP {p : Pth} (h : OkP p) : SeqAt.shaped (dP p) = true := by
  unfold SeqAt.shaped
  rw [lay_dP h, Bool.true_and]
  have := depth_dP p
  exact decide_eq_true (by omega)
theorem shaped_dM {ps : List Pth} (h : ∀ p ∈ ps, OkP p) : SeqAt.shaped (dM ps) = true := by
  have h1 : PyData.canLayAll0 (ps.map dP) = true := by
    induction ps with
    | nil => rfl
    | cons p ps ih =>
      show (PyData.canLay0 (dP p) && PyData.canLayAll0 (ps.map dP)) = true
      rw [ih fun y hy => h y (List.mem_cons_of_mem _ hy), lay_dP (h p List.mem_cons_self)] <;> rfl
  have h2 : PyData.depthAll (ps.map dP) ≤ 1 := by
    clear h1
    induction ps with
    | nil => exact Nat.zero_le _
    | cons p ps ih =>
      show max (PyData.depth (dP p)) (PyData.depthAll (ps.map dP)) ≤ 1
      exact Nat.max_le.mpr ⟨depth_dP p, ih fun y hy => h y (List.mem_cons_of_mem _ hy)⟩
  unfold SeqAt.shaped
  rw [show (dM ps).canLay0 = true from h1, Bool.true_and]
  exact decide_eq_true (by show PyData.depthAll (ps.map dP) + 1 ≤ 64; omega)

/-! ### promises of names.py -/
def spIsLetters (K : PySem.W.Frag) : Sp := fun vs H Q _ => ∃ (v : V) (lo hi : Int), vs = [v, .int lo, .int hi] ∧
  ((∃ x : Str, v = .str x ∧ x.length < sizeLine ∧ ∀ H2, Kp T0 H H2 → Q (.bl (isLet x lo hi)) H2) ∨ (NoStr K H v ∧ Q (.bl false) H))
def spIsName (K : PySem.W.Frag) : Sp := fun vs H Q _ => ∃ (v : V) (r : Bool), vs = [v] ∧ ItN K H v r ∧ ∀ H2, Kp T0 H H2 → Q (.bl r) H2

/-! ### rows, what covers -/
section
variable {X : Cx}
/-- a != b over data of any depth that one side bounds -/
def rNeL (K : PySem.W.Frag) (u : Nat) : R2 := fun x y H Q => ∃ d e, Dp K H x d ∧ Dp K H y e ∧ d.canLay0 = true ∧ e.canLay0 = true ∧ u + min d.depth e.depth < cLine ∧ Q (.bl (!PyData.eqv d e)) H
theorem op_neL : OpR X (compareOp .NotEq) (rNeL X.K X.A.units) := by
  intro ps s st H x y v u Q I rx ry h
  obtain ⟨d, e, hd, he, ld, le, hu, q⟩ := h
  obtain ⟨ads, r1⟩ := Dp.reads I d x v hd rx
  obtain ⟨bds, r2⟩ := Dp.reads I e y u he ry
  exact SeqAt.compareNe_reads r1 r2 ld le hu ⟨.bl _, H, I, rfl, q⟩
end
theorem eqv_nil (ds : List PyData) : PyData.eqv (.tuple ds) (.tuple []) = ds.isEmpty := by
  cases ds <;> rfl
def spIsRow (K : PySem.W.Frag) : Sp := fun vs H Q _ => ∃ (v : V) (r : Bool), vs = [v] ∧
  ((∃ (a : Addr) (xs : List V) (rs : List Bool) (ds : List PyData), v = .ref a ∧ H a = some (.tup xs) ∧ Paired (ItN K H) xs rs ∧ DpAll K H xs ds ∧ (PyData.tuple ds).canLay0 = true ∧ xs.length < sizeLine ∧ r = (!xs.isEmpty && rs.all id)) ∨ (NoTup K H v ∧ r = false)) ∧
  ∀ H2, Kp T0 H H2 → Q (.bl r) H2
def beginsP (p f : Pth) : Bool := decide (p.take f.length = f)
def coversP (ps : List Pth) (p : Pth) : Bool := ps.any (beginsP p)
def spBegins : Sp := fun vs H Q _ => ∃ (v u : V) (p f : Pth), vs = [v, u] ∧ IsP H v p ∧ IsP H u f ∧ OkP p ∧ OkP f ∧ ∀ H2, Kp T0 H H2 → Q (.bl (beginsP p f)) H2
def spCovers : Sp := fun vs H Q _ => ∃ (a : Addr) (xs : List V) (ps : List Pth) (v : V) (p : Pth), vs = [.ref a, v] ∧ H a = some (.tup xs) ∧ Ps H xs ps ∧ xs.length < sizeLine ∧ (∀ f ∈ ps, OkP f) ∧ IsP H v p ∧ OkP p ∧
  ∀ H2, Kp T0 H H2 → Q (.bl (coversP ps p)) H2
theorem OkP.take {p : Pth} (h : OkP p) (n : Nat) : OkP (p.take n) := ⟨fun x hx => h.1 x (List.mem_of_mem_take hx), Nat.le_trans (by rw [List.length_take]; exact Nat.min_le_right _ _) h.2⟩
theorem cut_take (xs : List V) (n : Nat) : cutV xs none (some (n : Int)) = xs.take n := by
  unfold cutV
  rw [HT.sIx_none, HT.sIx_nat, List.drop_zero, Nat.sub_zero]
  rcases Nat.le_total n xs.length with h | h
  · rw [Nat.min_eq_left h]
  · rw [Nat.min_eq_right h, List.take_of_length_le h, List.take_length]
theorem cut_whole {xs : List V} {n : Nat} (h : HT.sIx xs.length xs.length (some (n : Int)) = xs.length) : xs.take n = xs := by
  rw [HT.sIx_nat] at h
  exact List.take_of_length_le (by omega)
theorem OkN.items {K : PySem.W.Frag} {H : Hp} {p : Pth} (h : OkN p) : Paired (ItN K H) (p.map V.str) (p.map fun _ => true) := by
  induction p with
  | nil => exact .nil
  | cons x p ih =>
    have hx := h x List.mem_cons_self
    exact .cons (.inl ⟨x, rfl, (isNm_ok hx).2, hx.symm⟩) (ih fun y hy => h y (List.mem_cons_of_mem _ hy))
mutual
theorem dp_keep {K : PySem.W.Frag} {H H2 : Hp} (k : Kp T0 H H2) : ∀ {v : V} {d : PyData}, Dp K H v d → Dp K H2 v d
  | _, _, .non => .non
  | _, _, .bl b => .bl b
  | _, _, .int i => .int i
  | _, _, .str x => .str x
  | _, _, .lst a t => .lst (SqL.ext a fun b o e => k.at0 e) (dpAll_keep t k)
  | _, _, .tup a t => .tup (SqT.ext a fun b o e => k.at0 e) (dpAll_keep t k)
theorem dpAll_keep {K : PySem.W.Frag} {H H2 : Hp} : ∀ {vs : List V} {ds : List PyData}, DpAll K H vs ds → Kp T0 H H2 → DpAll K H2 vs ds
  | _, _, .nil, _ => .nil
  | _, _, .cons a t, k => .cons (dp_keep k a) (dpAll_keep t k)
end
end Gk
/-! Gk6: masks, in plain Lean. -/
namespace Gk
open PySem PySem.Spec PyProof.Rows L2

/-! ### the order of paths -/
theorem pkey_inj : ∀ {p q : Pth}, pkey p = pkey q → p = q
  | [], [], _ => rfl
  | [], _ :: _, e => nomatch e
  | _ :: _, [], e => nomatch e
  | x :: p, y :: q, e => by
    injection e with e1 e2
    have e3 := Sum.inr.inj e1
    have e4 : x = y := by
      have h := Array.toList_inj.mp e3
      cases x
      cases y
      simp only [Str.mk.injEq]
      exact h
    rw [e4, pkey_inj e2]
theorem ltP_irrefl (p : Pth) : ltP p p = false := lex_irrefl _
theorem ltP_trans {p q r : Pth} (h1 : ltP p q = true) (h2 : ltP q r = true) : ltP p r = true := lex_trans _ _ _ h1 h2
theorem ltP_total {p q : Pth} (h1 : ltP p q = false) (h2 : ltP q p = false) : p = q := pkey_inj (lex_total _ _ h1 h2)
abbrev Asc (qs : List Pth) : Prop := qs.Pairwise fun a b => ltP a b = true
/-- two ascending lists of the same paths are one -/
theorem asc_ext : ∀ {ps qs : List Pth}, Asc ps → Asc qs → (∀ p, p ∈ ps ↔ p ∈ qs) → ps = qs
  | [], [], _, _, _ => rfl
  | [], q :: qs, _, _, h => absurd ((h q).mpr List.mem_cons_self) List.not_mem_nil
  | p :: ps, [], _, _, h => absurd ((h p).mp List.mem_cons_self) List.not_mem_nil
  | p :: ps, q :: qs, a, b, h => by
    have a1 : ∀ {r : Pth}, r ∈ ps → ltP p r = true := fun m => List.rel_of_pairwise_cons a m
    have b1 : ∀ {r : Pth}, r ∈ qs → ltP q r = true := fun m => List.rel_of_pairwise_cons b m
    have e : p = q := by
      rcases List.mem_cons.mp ((h p).mp List.mem_cons_self) with e | m
      · exact e
      · rcases List.mem_cons.mp ((h q).mpr List.mem_cons_self) with e | m2
        · exact e.symm
        · have l1 := a1 m2
          have l2 := b1 m
          have l3 := ltP_trans l1 l2
          rw [ltP_irrefl] at l3
          cases l3
    subst e
    have n1 : p ∉ ps := fun m => by
      have l := a1 m
      rw [ltP_irrefl] at l
      cases l
    have n2 : p ∉ qs := fun m => by
      have l := b1 m
      rw [ltP_irrefl] at l
      cases l
    rw [asc_ext (List.Pairwise.of_cons a) (List.Pairwise.of_cons b) fun r => ?_]
    constructor
    · intro m
      rcases List.mem_cons.mp ((h r).mp (List.mem_cons_of_mem _ m)) with e | m2
      · exact absurd (e ▸ m) n1
      · exact m2
    · intro m
      rcases List.mem_cons.mp ((h r).mpr (List.mem_cons_of_mem _ m)) with e | m2
      · exact absurd (e ▸ m) n2
      · exact m2
theorem asc_of {ks : List Pth} (nd : ks.Nodup) (h : ks.Pairwise fun a b => ltP b a = false) : Asc ks := by
  refine List.Pairwise.imp ?_ (List.Pairwise.and h nd)
  intro a b ⟨h1, h2⟩
  cases e : ltP a b with
  | true => rfl
  | false => exact absurd (ltP_total e h1) h2

/-! ### what begins with what -/
theorem begins_iff {p f : Pth} : beginsP p f = true ↔ f <+: p := by
  unfold beginsP
  rw [decide_eq_true_iff]
  exact ⟨fun h => h ▸ List.take_prefix _ _, fun h => (List.prefix_iff_eq_take.mp h).symm⟩
theorem begins_self (p : Pth) : beginsP p p = true := begins_iff.mpr (List.prefix_refl p)
theorem begins_trans {p f g : Pth} (h1 : beginsP p f = true) (h2 : beginsP f g = true) : beginsP p g = true := begins_iff.mpr ((begins_iff.mp h2).trans (begins_iff.mp h1))
theorem begins_anti {p f : Pth} (h1 : beginsP p f = true) (h2 : beginsP f p = true) : p = f := (begins_iff.mp h2).eq_of_length_le (begins_iff.mp h1).length_le
theorem begins_len {p f : Pth} (h : beginsP p f = true) (n : f ≠ p) : f.length < p.length := by
  have q := begins_iff.mp h
  rcases Nat.lt_or_ge f.length p.length with l | l
  · exact l
  · exact absurd (q.eq_of_length_le l) n
theorem covers_iff {ps : List Pth} {p : Pth} : coversP ps p = true ↔ ∃ f ∈ ps, beginsP p f = true := by
  unfold coversP
  rw [List.any_eq_true]
theorem covers_false {ps : List Pth} {p : Pth} : coversP ps p = false ↔ ∀ f ∈ ps, beginsP p f = false := by
  constructor
  · intro h f hf
    cases e : beginsP p f with
    | false => rfl
    | true => rw [covers_iff.mpr ⟨f, hf, e⟩] at h; cases h
  · intro h
    cases e : coversP ps p with
    | false => rfl
    | true =>
      obtain ⟨f, hf, e⟩ := covers_iff.mp e
      rw [h f hf] at e
      cases e
/-- rows qs are the mask made of the paths ps -/
structure Canon (ps qs : List Pth) : Prop where
  asc : Asc qs
  mem : ∀ q, q ∈ qs ↔ q ∈ ps ∧ ∀ f ∈ ps, f ≠ q → beginsP q f = false
theorem Canon.sub {ps qs : List Pth} (c : Canon ps qs) {q : Pth} (h : q ∈ qs) : q ∈ ps := ((c.mem q).mp h).1
/-- each path has a least beginning among some -/
theorem least_front (ps : List Pth) : ∀ (n : Nat) (p : Pth), p.length ≤ n → p ∈ ps → ∃ f ∈ ps, beginsP p f = true ∧ ∀ g ∈ ps, g ≠ f → beginsP f g = false
  | 0, p, l, m => by
    refine ⟨p, m, begins_self p, fun g _ ne => ?_⟩
    cases e : beginsP p g with
    | false => rfl
    | true =>
      have := begins_len e ne
      omega
  | n + 1, p, l, m => by
    by_cases h : ∃ g ∈ ps, g ≠ p ∧ beginsP p g = true
    · obtain ⟨g, mg, ne, b⟩ := h
      have lt := begins_len b ne
      obtain ⟨f, mf, bf, k⟩ := least_front ps n g (by omega) mg
      exact ⟨f, mf, begins_trans b bf, k⟩
    · refine ⟨p, m, begins_self p, fun g mg ne => ?_⟩
      cases e : beginsP p g with
      | false => rfl
      | true => exact absurd ⟨g, mg, ne, e⟩ h
theorem Canon.covers {ps qs : List Pth} (c : Canon ps qs) (x : Pth) : coversP qs x = coversP ps x := by
  cases e : coversP ps x with
  | true =>
    obtain ⟨p, mp, b⟩ := covers_iff.mp e
    obtain ⟨f, mf, bf, k⟩ := least_front ps p.length p (Nat.le_refl _) mp
    exact covers_iff.mpr ⟨f, (c.mem f).mpr ⟨mf, k⟩, begins_trans b bf⟩
  | false => exact covers_false.mpr fun f hf => covers_false.mp e f (c.sub hf)
/-- rows of which none begins with another one -/
theorem Canon.anti {ps qs : List Pth} (c : Canon ps qs) {p q : Pth} (hp : p ∈ qs) (hq : q ∈ qs) (b : beginsP p q = true) : q = p := by
  rcases Classical.em (q = p) with e | ne
  · exact e
  · rw [((c.mem p).mp hp).2 q (c.sub hq) ne] at b
    cases b
/-- rows are known by what they cover -/
theorem canon_ext {ps qs rs ts : List Pth} (c : Canon ps qs) (d : Canon rs ts) (h : ∀ x, coversP qs x = coversP ts x) : qs = ts := by
  have half : ∀ {ps qs rs ts : List Pth}, Canon ps qs → Canon rs ts → (∀ x, coversP qs x = coversP ts x) → ∀ p, p ∈ qs → p ∈ ts := by
    intro ps qs rs ts c d h p hp
    have e1 : coversP ts p = true := (h p) ▸ covers_iff.mpr ⟨p, hp, begins_self p⟩
    obtain ⟨f, mf, bf⟩ := covers_iff.mp e1
    have e2 : coversP qs f = true := (h f).symm ▸ covers_iff.mpr ⟨f, mf, begins_self f⟩
    obtain ⟨g, mg, bg⟩ := covers_iff.mp e2
    have e3 := c.anti hp mg (begins_trans bf bg)
    have e4 : f = p := by
      rw [e3] at bg
      exact begins_anti bg bf
    exact e4 ▸ mf
  exact asc_ext c.asc d.asc fun p => ⟨half c d h p, half d c (fun x => (h x).symm) p⟩
theorem canon_one {ps qs ts : List Pth} (c : Canon ps qs) (d : Canon ps ts) : qs = ts := canon_ext c d fun x => (c.covers x).trans (d.covers x).symm
theorem canon_nil {qs : List Pth} (c : Canon [] qs) : qs = [] := by
  cases qs with
  | nil => rfl
  | cons q qs => exact absurd (c.sub List.mem_cons_self) List.not_mem_nil
theorem covers_app (ps qs : List Pth) (x : Pth) : coversP (ps ++ qs) x = (coversP ps x || coversP qs x) := List.any_append
/-- what both cover -/
def bothP (qs rs : List Pth) : List Pth := qs.filter (coversP rs) ++ rs.filter (coversP qs)
theorem covers_both (qs rs : List Pth) (x : Pth) : coversP (bothP qs rs) x = (coversP qs x && coversP rs x) := by
  cases e1 : coversP (bothP qs rs) x with
  | true =>
    obtain ⟨f, mf, b⟩ := covers_iff.mp e1
    have key : ∀ {as bs : List Pth}, f ∈ as.filter (coversP bs) → coversP as x = true ∧ coversP bs x = true := by
      intro as bs m
      obtain ⟨m1, m2⟩ := List.mem_filter.mp m
      obtain ⟨g, mg, bg⟩ := covers_iff.mp m2
      exact ⟨covers_iff.mpr ⟨f, m1, b⟩, covers_iff.mpr ⟨g, mg, begins_trans b bg⟩⟩
    rcases List.mem_append.mp mf with m | m
    · obtain ⟨h1, h2⟩ := key m
      rw [h1, h2] <;> rfl
    · obtain ⟨h1, h2⟩ := key m
      rw [h1, h2] <;> rfl
  | false =>
    cases e2 : coversP qs x with
    | false => rfl
    | true =>
      cases e3 : coversP rs x with
      | false => rfl
      | true =>
        obtain ⟨f, mf, bf⟩ := covers_iff.mp e2
        obtain ⟨g, mg, bg⟩ := covers_iff.mp e3
        have no := covers_false.mp e1
        rcases Nat.le_total g.length f.length with l | l
        · have bfg : beginsP f g = true := begins_iff.mpr (List.prefix_of_prefix_length_le (begins_iff.mp bg) (begins_iff.mp bf) l)
          have := no f (List.mem_append_left _ (List.mem_filter.mpr ⟨mf, covers_iff.mpr ⟨g, mg, bfg⟩⟩))
          rw [bf] at this
          cases this
        · have bgf : beginsP g f = true := begins_iff.mpr (List.prefix_of_prefix_length_le (begins_iff.mp bf) (begins_iff.mp bg) l)
          have := no g (List.mem_append_right _ (List.mem_filter.mpr ⟨mg, covers_iff.mpr ⟨f, mf, bgf⟩⟩))
          rw [bg] at this
          cases this
def withinP (qs rs : List Pth) : Bool := qs.all (coversP rs)
theorem within_iff {qs rs : List Pth} : withinP qs rs = true ↔ ∀ x, coversP qs x = true → coversP rs x = true := by
  unfold withinP
  rw [List.all_eq_true]
  constructor
  · intro h x hx
    obtain ⟨f, mf, b⟩ := covers_iff.mp hx
    obtain ⟨g, mg, bg⟩ := covers_iff.mp (h f mf)
    exact covers_iff.mpr ⟨g, mg, begins_trans b bg⟩
  · intro h q hq
    exact h q (covers_iff.mpr ⟨q, hq, begins_self q⟩)

/-! ### the list that fewest makes -/
def keepP (ks : List Pth) (p : Pth) : Bool := !(ks.any fun f => decide (p ≠ f) && beginsP p f)
theorem canon_fewest {ps ks : List Pth} (asc : Asc ks) (same : ∀ p, p ∈ ks ↔ p ∈ ps) : Canon ps (ks.filter (keepP ks)) := by
  refine ⟨asc.filter _, fun q => ?_⟩
  rw [List.mem_filter]
  constructor
  · rintro ⟨m, k⟩
    refine ⟨(same q).mp m, fun f mf ne => ?_⟩
    cases e : beginsP q f with
    | false => rfl
    | true =>
      unfold keepP at k
      rw [List.any_eq_true.mpr ⟨f, (same f).mpr mf, Bool.and_eq_true_iff.mpr ⟨decide_eq_true (show q ≠ f from fun z => ne z.symm), e⟩⟩] at k
      cases k
  · rintro ⟨m, k⟩
    refine ⟨(same q).mpr m, ?_⟩
    unfold keepP
    cases e : ks.any fun f => decide (q ≠ f) && beginsP q f with
    | false => rfl
    | true =>
      obtain ⟨f, mf, h⟩ := List.any_eq_true.mp e
      rw [Bool.and_eq_true] at h
      rw [k f ((same f).mp mf) (fun z => of_decide_eq_true h.1 z.symm)] at h
      cases h.2

/-! ### the keys of a dict that is filled -/
theorem keys_putK {κ : Type} [DecidableEq κ] (kvs : List (κ × V)) (k : κ) (v : V) : (putK kvs k v).map (·.1) = if k ∈ kvs.map (·.1) then kvs.map (·.1) else kvs.map (·.1) ++ [k] := by
  unfold putK
  have e : (kvs.any fun kv => decide (kv.1 = k)) = true ↔ k ∈ kvs.map (·.1) := by
    rw [List.any_eq_true, List.mem_map]
    exact ⟨fun ⟨x, m, h⟩ => ⟨x, m, of_decide_eq_true h⟩, fun ⟨x, m, h⟩ => ⟨x, m, decide_eq_true h⟩⟩
  by_cases h : k ∈ kvs.map (·.1)
  · rw [if_pos (e.mpr h), if_pos h, List.map_map]
    refine List.map_congr_left fun x _ => ?_
    show (if x.1 = k then (x.1, v) else x).1 = x.1
    split <;> rfl
  · rw [if_neg (fun z => h (e.mp z)), if_neg h, List.map_append] <;> rfl
theorem inr_inj {p q : Pth} (h : p.map (Sum.inr : Str → L2.Key) = q.map Sum.inr) : p = q := by
  induction p generalizing q with
  | nil => cases q with
    | nil => rfl
    | cons y q => exact nomatch h
  | cons x p ih => cases q with
    | nil => exact nomatch h
    | cons y q =>
      injection h with h1 h2
      rw [Sum.inr.inj h1, ih h2]
theorem keys_step {kvs : List (List L2.Key × V)} {ks : List Pth} (p : Pth) (v : V) (e : kvs.map (·.1) = ks.map (List.map Sum.inr)) (nd : ks.Nodup) :
    ∃ ks2 : List Pth, (putK kvs (p.map Sum.inr) v).map (·.1) = ks2.map (List.map Sum.inr) ∧ ks2.Nodup ∧ ∀ q, q ∈ ks2 ↔ q ∈ ks ∨ q = p := by
  have mem : p.map Sum.inr ∈ kvs.map (·.1) ↔ p ∈ ks := by
    rw [e, List.mem_map]
    exact ⟨fun ⟨q, m, h⟩ => inr_inj h ▸ m, fun m => ⟨p, m, rfl⟩⟩
  rw [keys_putK]
  by_cases h : p ∈ ks
  · rw [if_pos (mem.mpr h)]
    exact ⟨ks, e, nd, fun q => ⟨.inl, fun z => z.elim id fun z => z ▸ h⟩⟩
  · rw [if_neg (fun z => h (mem.mp z))]
    refine ⟨ks ++ [p], by rw [e, List.map_append]; rfl, ?_, fun q => by rw [List.mem_append, List.mem_singleton]⟩
    rw [List.nodup_append]
    refine ⟨nd, List.nodup_cons.mpr ⟨List.not_mem_nil, List.nodup_nil⟩, fun a ha b hb z => ?_⟩
    rw [List.mem_singleton] at hb
    exact h (hb ▸ z ▸ ha)
theorem mem_take_succ {α : Type} {l : List α} {i : Nat} {x : α} (h : l[i]? = some x) (y : α) : y ∈ l.take (i + 1) ↔ y ∈ l.take i ∨ y = x := by
  rw [List.take_add_one, h, Option.toList_some, List.mem_append, List.mem_singleton]
theorem take_succ_filter {α : Type} {l : List α} {i : Nat} {x : α} (h : l[i]? = some x) (f : α → Bool) : (l.take (i + 1)).filter f = if f x = true then (l.take i).filter f ++ [x] else (l.take i).filter f := by
  rw [List.take_add_one, h, Option.toList_some, List.filter_append]
  cases e : f x with
  | true => rw [if_pos rfl, List.filter_cons_of_pos e] <;> rfl
  | false => rw [if_neg Bool.false_ne_true, List.filter_cons_of_neg (by rw [e]; exact Bool.false_ne_true), List.filter_nil, List.append_nil]
end Gk
/-! Gk7: masks in the heap; what their methods promise. -/
namespace Gk
open PySem PySem.Spec PyProof.Rows L2

abbrev MOST : Nat := 100000
theorem most_line : MOST < sizeLine := by rw [sizeLine_eq]; decide
/-- v is a mask whose rows are qs -/
def IsM (C : Addr) (H : Hp) (v : V) (qs : List Pth) : Prop := ∃ (x dx r : Addr) (ys : List V), v = .ref x ∧ H x = some (.ins C dx [("rows", .ref r)]) ∧ H r = some (.tup ys) ∧ Ps H ys qs ∧ ys.length ≤ MOST ∧
  (∀ q ∈ qs, OkP q ∧ q ≠ []) ∧ ∃ ps, Canon ps qs
/-- addresses of T hold no tuple and no instance -/
def Loose (T : Addr → Prop) (H : Hp) : Prop := ∀ a o, T a → H a = some o → (∀ xs, o ≠ .tup xs) ∧ ∀ C dx fs, o ≠ .ins C dx fs
theorem loose0 (H : Hp) : Loose T0 H := fun _ _ z => z.elim
theorem IsM.keep {T : Addr → Prop} {C : Addr} {H H2 : Hp} {v : V} {qs : List Pth} (h : IsM C H v qs) (k : Kp T H H2) (hT : Loose T H) : IsM C H2 v qs := by
  obtain ⟨x, dx, r, ys, e, hx, hr, hp, l, o, c⟩ := h
  exact ⟨x, dx, r, ys, e, k x _ (fun t => (hT x _ t hx).2 _ _ _ rfl) hx, k r _ (fun t => (hT r _ t hr).1 _ rfl) hr, hp.keep k fun a o t e => (hT a o t e).1, l, o, c⟩
theorem IsM.keep0 {C : Addr} {H H2 : Hp} {v : V} {qs : List Pth} (h : IsM C H v qs) (k : Kp T0 H H2) : IsM C H2 v qs := h.keep k (loose0 H)
theorem IsM.canon {C : Addr} {H : Hp} {v : V} {qs : List Pth} (h : IsM C H v qs) : ∃ ps, Canon ps qs := by
  obtain ⟨_, _, _, _, _, _, _, _, _, _, c⟩ := h
  exact c
theorem IsM.len {C : Addr} {H : Hp} {v : V} {qs : List Pth} (h : IsM C H v qs) : qs.length ≤ MOST := by
  obtain ⟨_, _, _, ys, _, _, _, hp, l, _⟩ := h
  rw [← Paired.length hp]
  exact l
theorem IsM.ok {C : Addr} {H : Hp} {v : V} {qs : List Pth} (h : IsM C H v qs) : ∀ q ∈ qs, OkP q ∧ q ≠ [] := by
  obtain ⟨_, _, _, _, _, _, _, _, _, o, _⟩ := h
  exact o

/-! ### promises -/
/-- a list or a tuple of paths -/
def SqP (K : PySem.W.Frag) (H : Hp) (a : Addr) (xs : List V) (ps : List Pth) : Prop := (SqL K H a xs ∨ SqT K H a xs) ∧ Ps H xs ps ∧ ∀ p ∈ ps, OkP p ∧ p ≠ []
theorem SqP.keep0 {K : PySem.W.Frag} {H H2 : Hp} {a : Addr} {xs : List V} {ps : List Pth} (h : SqP K H a xs ps) (k : Kp T0 H H2) : SqP K H2 a xs ps :=
  ⟨h.1.imp (fun z => SqL.ext z fun b o e => k.at0 e) fun z => SqT.ext z fun b o e => k.at0 e, h.2.1.keep0 k, h.2.2⟩
def spFewest (K : PySem.W.Frag) : Sp := fun vs H Q _ => ∃ (a : Addr) (xs : List V) (ps : List Pth), vs = [.ref a] ∧ SqP K H a xs ps ∧ xs.length < sizeLine ∧
  ∀ (H2 : Hp) (l : Addr) (ys : List V) (qs : List Pth), Kp T0 H H2 → H l = none → H2 l = some (.lst ys) → Ps H2 ys qs → ys.length ≤ xs.length → Canon ps qs → Q (.ref l) H2
def spInit (K : PySem.W.Frag) (C : Addr) : Sp := fun vs H Q _ => ∃ (x dx a : Addr) (xs : List V) (ps : List Pth), vs = [.ref x, .ref a] ∧ H x = some (.ins C dx []) ∧ SqP K H a xs ps ∧ xs.length ≤ MOST ∧
  ∀ (H2 : Hp) (qs : List Pth), Kp (fun b => b = x) H H2 → IsM C H2 (.ref x) qs → qs.length ≤ xs.length → Canon ps qs → Q .non H2
def spEqM (C : Addr) : Sp := fun vs H Q _ => ∃ (v u : V) (qs rs : List Pth), vs = [v, u] ∧ IsM C H v qs ∧ IsM C H u rs ∧ Q (.bl (decide (qs = rs))) H
def spAndM (C : Addr) : Sp := fun vs H Q _ => ∃ (v u : V) (qs rs : List Pth), vs = [v, u] ∧ IsM C H v qs ∧ IsM C H u rs ∧ qs.length + rs.length ≤ MOST ∧
  ∀ H2 z ts, Kp T0 H H2 → IsM C H2 z ts → ts.length ≤ qs.length + rs.length → Canon (bothP qs rs) ts → Q z H2
def spOrM (C : Addr) : Sp := fun vs H Q _ => ∃ (v u : V) (qs rs : List Pth), vs = [v, u] ∧ IsM C H v qs ∧ IsM C H u rs ∧ qs.length + rs.length ≤ MOST ∧
  ∀ H2 z ts, Kp T0 H H2 → IsM C H2 z ts → ts.length ≤ qs.length + rs.length → Canon (qs ++ rs) ts → Q z H2
def spWithinM (C : Addr) : Sp := fun vs H Q _ => ∃ (v u : V) (qs rs : List Pth), vs = [v, u] ∧ IsM C H v qs ∧ IsM C H u rs ∧ ∀ H2, Kp T0 H H2 → Q (.bl (withinP qs rs)) H2
def spLenM (C : Addr) : Sp := fun vs H Q _ => ∃ (v : V) (qs : List Pth), vs = [v] ∧ IsM C H v qs ∧ Q (.int (qs.length : Nat)) H
def spPathsM (C : Addr) : Sp := fun vs H Q _ => ∃ (v : V) (qs : List Pth), vs = [v] ∧ IsM C H v qs ∧ ∀ l ys, H l = none → Ps H ys qs → Q (.ref l) (upd H l (.lst ys))
/-- path in mask, or a value that is no row -/
def spInM (K : PySem.W.Frag) (C : Addr) : Sp := fun vs H Q E => ∃ (v u : V) (qs : List Pth), vs = [v, u] ∧ IsM C H v qs ∧
  ((∃ p, IsP H u p ∧ OkP p ∧ p ≠ [] ∧ ∀ H2, Kp T0 H H2 → Q (.bl (coversP qs p)) H2) ∨ spIsRow K [u] H (fun r H2 => r = .bl false ∧ Q (.bl false) H2) E)

/-! ### a new mask -/
theorem Kp.made {H H2 : Hp} {x dx C : Addr} (nx : H x = none) (nd : H dx = none) (k : Kp (fun b => b = x) (upd (upd H dx (.own x)) x (.ins C dx [])) H2) : Kp T0 H H2 := by
  intro b o _ e
  have nb : b ≠ x := ne_of_none e nx
  refine k b o nb ?_
  rw [upd_ne nb, upd_ne (ne_of_none e nd)]
  exact e
theorem Kp.mk {H : Hp} {x dx C : Addr} (nx : H x = none) (nd : H dx = none) : Kp T0 H (upd (upd H dx (.own x)) x (.ins C dx [])) := ((Kp.refl H).over nd).over nx
theorem putF_nil (f : Str) (v : V) : putF f v [] = [(f, v)] := rfl
theorem sqL_at {K : PySem.W.Frag} {T : Addr → Prop} {H H2 : Hp} {a : Addr} {xs : List V} (h : SqL K H a xs) (k : Kp T H H2) (n : ¬ T a) : SqL K H2 a xs :=
  h.imp (fun h => h.imp (fun h => k a _ n h) fun ⟨o, h⟩ => ⟨o, k a _ n h⟩) id
theorem sqT_at {K : PySem.W.Frag} {T : Addr → Prop} {H H2 : Hp} {a : Addr} {xs : List V} (h : SqT K H a xs) (k : Kp T H H2) (n : ¬ T a) : SqT K H2 a xs :=
  h.imp (fun h => h.imp (fun h => k a _ n h) fun ⟨o, h⟩ => ⟨o, k a _ n h⟩) id
/-- a for over a list or a tuple -/
theorem for_seq {K : PySem.W.Frag} {T : Addr → Prop} {i1 : Nat} {a : Addr} {xs : List V} {g : TG} {tb : TS} {D : Ends} {st : L2.St} {H : Hp} (hv : st[i1]? = some (some (.ref a))) (hq : SqL K H a xs ∨ SqT K H a xs) (hT : ¬ T a)
    (Pv : Nat → L2.St → Hp → Prop) (h0 : Pv 0 st H) (hk : ∀ i s2 H2, Pv i s2 H2 → Kp T H H2)
    (hs : ∀ i x s2 H2, xs[i]? = some x → Pv i s2 H2 → g x s2 H2 fun s3 H3 => tb { D with nx := Pv (i + 1), ct := Pv (i + 1), bk := D.nx } s3 H3) (hd : ∀ s2 H2, Pv xs.length s2 H2 → D.nx s2 H2) :
    tFor (fun st H R => iList K (tVar i1) st H R ∨ iTup K (tVar i1) st H R) g tb D st H := by
  rcases hq with h | h
  · refine .inl ⟨_, hv, a, rfl, ⟨xs, h⟩, for_it walk_list Pv h0 (fun i s2 H2 _ p => sqL_at h (hk i s2 H2 p) hT) (fun i x s2 H2 H3 hi p y => ?_) hd⟩
    obtain ⟨rfl, y⟩ := y
    exact hs i x s2 H3 y p
  · refine .inr ⟨_, hv, a, rfl, ⟨xs, h⟩, for_it walk_tup Pv h0 (fun i s2 H2 _ p => sqT_at h (hk i s2 H2 p) hT) (fun i x s2 H2 H3 hi p y => ?_) hd⟩
    obtain ⟨rfl, y⟩ := y
    exact hs i x s2 H3 y p
/-- a path is a row -/
theorem row_of {K : PySem.W.Frag} {H : Hp} {v : V} {p : Pth} {Q : VK} {E : XK} (h : IsP H v p) (o : OkP p) (n : p ≠ []) (q : ∀ H2, Kp T0 H H2 → Q (.bl true) H2) : spIsRow K [v] H Q E := by
  obtain ⟨a, rfl, h⟩ := h
  refine ⟨_, true, rfl, .inl ⟨a, _, _, _, rfl, h, o.1.items, dp_strs p, lay_dP o, ?_, ?_⟩, q⟩
  · rw [List.length_map, sizeLine_eq]
    have := o.2
    omega
  · cases p with
    | nil => exact absurd rfl n
    | cons x p =>
      symm
      show (true && List.all _ id) = true
      rw [Bool.true_and, List.all_map, List.all_eq_true]
      exact fun _ _ => rfl
end Gk
/-! Gk8: the laws' tape of draws. -/
namespace Gk
open PySem PySem.Spec PyProof.Rows L2

def kD : L2.Key := .inr "digits"
def kX : L2.Key := .inr "mixed"
def tapeL (d m : Int) : List (L2.Key × V) := [(kD, .int d), (kX, .int m)]
structure TapeOk (d m : Int) : Prop where
  d0 : 0 ≤ d
  db : nbits d ≤ 2097152
  m0 : 0 ≤ m
  m1 : m < 4294967296
def TapeAt (H : Hp) (t : Addr) : Prop := ∃ d m, H t = some (.dK (tapeL d m)) ∧ TapeOk d m
abbrev At (t : Addr) : Addr → Prop := fun b => b = t
theorem key_ne : ¬ (kX = kD) := by decide +kernel
theorem tape_d (d m : Int) : valV (tapeL d m) kD = some (.int d) := by
  unfold valV tapeL
  have e : (fun kv : L2.Key × V => decide (kv.1 = kD)) (kD, V.int d) = true := decide_eq_true rfl
  rw [List.find?_cons_of_pos (p := fun kv : L2.Key × V => decide (kv.1 = kD)) e]
  rfl
theorem tape_x (d m : Int) : valV (tapeL d m) kX = some (.int m) := by
  unfold valV tapeL
  have e1 : ¬ (fun kv : L2.Key × V => decide (kv.1 = kX)) (kD, V.int d) = true := fun z => key_ne (of_decide_eq_true z).symm
  have e2 : (fun kv : L2.Key × V => decide (kv.1 = kX)) (kX, V.int m) = true := decide_eq_true rfl
  rw [List.find?_cons_of_neg (p := fun kv : L2.Key × V => decide (kv.1 = kX)) e1, List.find?_cons_of_pos (p := fun kv : L2.Key × V => decide (kv.1 = kX)) e2]
  rfl
theorem put_d (d m x : Int) : putK (tapeL d m) kD (.int x) = tapeL x m := by
  unfold putK tapeL
  rw [if_pos (by rw [List.any_cons, decide_eq_true rfl] <;> rfl)]
  show [if kD = kD then (kD, V.int x) else _, if kX = kD then (kX, V.int x) else (kX, V.int m)] = _
  rw [if_pos rfl, if_neg key_ne]
theorem put_x (d m x : Int) : putK (tapeL d m) kX (.int x) = tapeL d x := by
  unfold putK tapeL
  rw [if_pos (by rw [List.any_cons, List.any_cons, decide_eq_true (show kX = kX from rfl), Bool.true_or, Bool.or_true])]
  show [if kD = kX then (kD, V.int x) else (kD, V.int d), if kX = kX then (kX, V.int x) else _] = _
  rw [if_neg (fun z : kD = kX => key_ne z.symm), if_pos rfl]
theorem merge_tape (d m : Int) : mergeK [] [(kD, .int d), (kX, .int m)] = tapeL d m := by
  unfold mergeK
  show putK (putK [] kD (.int d)) kX (.int m) = _
  have e1 : putK [] kD (V.int d) = [(kD, .int d)] := rfl
  rw [e1]
  unfold putK
  rw [if_neg (by rw [List.any_cons, decide_eq_false (fun z : kD = kX => key_ne z.symm)]; exact Bool.false_ne_true)]
  rfl

/-! ### numbers -/
theorem bits_small {x : Int} {k : Nat} (h : x.natAbs < 2 ^ k) : nbits x ≤ k := intBits_le_iff.mpr h
theorem bits_lt {x : Int} {k : Nat} (h : nbits x ≤ k) : x.natAbs < 2 ^ k := intBits_le_iff.mp h
theorem tape_step {m c : Int} (h0 : 0 ≤ m) (h1 : m < 4294967296) (hc : nbits c ≤ 1048576) : nbits (m * 30011 + c * c + 7) ≤ 2097160 := by
  have a1 : nbits (m * 30011) ≤ 47 := intBits_mul_le (bits_small (k := 32) (by omega)) (bits_small (k := 15) (by decide))
  have a2 : nbits (c * c) ≤ 2097152 := intBits_mul_le hc hc
  have a3 := intBits_add_le a1 a2
  have a4 : nbits (7 : Int) ≤ 3 := bits_small (by decide)
  exact Nat.le_trans (intBits_add_le a3 a4) (by decide)

theorem well_step {m c : Int} (h0 : 0 ≤ m) (h1 : m < 4294967296) (hc : nbits c ≤ 1048576) : nbits (m * 70121 + c * c + 41) ≤ 2097160 := by
  have a1 : nbits (m * 70121) ≤ 49 := intBits_mul_le (bits_small (k := 32) (by omega)) (bits_small (k := 17) (by decide))
  have a2 : nbits (c * c) ≤ 2097152 := intBits_mul_le hc hc
  have a4 : nbits (41 : Int) ≤ 6 := bits_small (by decide)
  exact Nat.le_trans (intBits_add_le (intBits_add_le a1 a2) a4) (by decide)

/-! ### what is promised of the tape's functions -/
def spTape (K : PySem.W.Frag) : Sp := fun vs H Q _ => ∃ (a : Addr) (ns : List Int) (start : Int), vs = [.ref a, .int start] ∧ SqL K H a (ns.map V.int) ∧ ns.length ≤ 63 ∧ (∀ z ∈ ns, nbits z ≤ 1048576) ∧ 0 ≤ start ∧ start ≤ 63 ∧
  ∀ t d m, H t = none → TapeOk d m → Q (.ref t) (upd H t (.dK (tapeL d m)))
def spPick : Sp := fun vs H Q _ => ∃ (t : Addr) (n : Int), vs = [.ref t, .int n] ∧ TapeAt H t ∧ 1 ≤ n ∧ n ≤ 1048576 ∧ ∀ H2 r, Kp (At t) H H2 → TapeAt H2 t → 0 ≤ r → r < n → Q (.int r) H2
def spOneOf (K : PySem.W.Frag) : Sp := fun vs H Q _ => ∃ (t l : Addr) (xs : List V), vs = [.ref t, .ref l] ∧ TapeAt H t ∧ SqL K H l xs ∧ 1 ≤ xs.length ∧ xs.length ≤ 1048576 ∧ ∀ H2 x, Kp (At t) H H2 → TapeAt H2 t → x ∈ xs → Q x H2
/-- a drawn path -/
def Drawn (NM : List Str) (p : Pth) : Prop := 1 ≤ p.length ∧ p.length ≤ 3 ∧ ∀ x ∈ p, x ∈ NM
def spPath (NM : List Str) : Sp := fun vs H Q _ => ∃ (t : Addr), vs = [.ref t] ∧ TapeAt H t ∧ ∀ H2 v p, Kp (At t) H H2 → TapeAt H2 t → IsP H2 v p → Drawn NM p → Q v H2
def spDrawn (NM : List Str) : Sp := fun vs H Q _ => ∃ (t : Addr), vs = [.ref t] ∧ TapeAt H t ∧ ∀ H2 l ys ps, Kp (At t) H H2 → TapeAt H2 t → H l = none → H2 l = some (.lst ys) → Ps H2 ys ps → ys.length ≤ 6 → (∀ p ∈ ps, Drawn NM p) → Q (.ref l) H2
theorem tape_ne {H : Hp} {t l : Addr} (h : TapeAt H t) {xs : List V} (s : H l = some (.lst xs)) : ¬ At t l := by
  intro e
  obtain ⟨d, m, z, _⟩ := h
  rw [show l = t from e, z] at s
  cases s
theorem tape_fresh {H : Hp} {t l : Addr} (h : TapeAt H t) (s : H l = none) : ¬ At t l := by
  intro e
  obtain ⟨d, m, z, _⟩ := h
  rw [show l = t from e, z] at s
  cases s
theorem TapeAt.new {H : Hp} {t p : Addr} {o : HO} (h : TapeAt H t) (n : H p = none) : TapeAt (upd H p o) t := by
  obtain ⟨d, m, z, k⟩ := h
  exact ⟨d, m, (upd_ne (ne_of_none z n)).trans z, k⟩
theorem TapeAt.over {H : Hp} {t p : Addr} {o : HO} (h : TapeAt H t) (n : ¬ At t p) : TapeAt (upd H p o) t := by
  obtain ⟨d, m, z, k⟩ := h
  exact ⟨d, m, (upd_ne (fun e => n e.symm)).trans z, k⟩
theorem TapeAt.keep {H H2 : Hp} {t : Addr} (h : TapeAt H t) (k : Kp T0 H H2) : TapeAt H2 t := by
  obtain ⟨d, m, z, q⟩ := h
  exact ⟨d, m, k.at0 z, q⟩
theorem TapeAt.loose {H : Hp} {t : Addr} (h : TapeAt H t) : Loose (At t) H := by
  intro a o e q
  obtain ⟨d, m, z, _⟩ := h
  rw [show a = t from e, z] at q
  cases q
  exact ⟨(fun _ e => nomatch e), fun _ _ _ e => nomatch e⟩
theorem sqL_tape {K : PySem.W.Frag} {H H2 : Hp} {t l : Addr} {xs : List V} (h : TapeAt H t) (s : SqL K H l xs) (k : Kp (At t) H H2) : SqL K H2 l xs := by
  rcases s with (s | ⟨o, s⟩) | s
  · refine .inl (.inl (k l _ (fun e => ?_) s))
    obtain ⟨d, m, z, _⟩ := h
    rw [show l = t from e, z] at s
    cases s
  · refine .inl (.inr ⟨o, k l _ (fun e => ?_) s⟩)
    obtain ⟨d, m, z, _⟩ := h
    rw [show l = t from e, z] at s
    cases s
  · exact .inr s
theorem Ps.tape {H H2 : Hp} {t : Addr} {vs : List V} {ps : List Pth} (h : Ps H vs ps) (k : Kp (At t) H H2) (ta : TapeAt H t) : Ps H2 vs ps := h.keep k fun a o e q => (ta.loose a o e q).1
theorem IsM.tape {H H2 : Hp} {t C : Addr} {v : V} {qs : List Pth} (h : IsM C H v qs) (k : Kp (At t) H H2) (ta : TapeAt H t) : IsM C H2 v qs := h.keep k ta.loose
/-- drawn paths are right ones -/
theorem drawn_ok {NM : List Str} (hn : NM.all isNm = true) {p : Pth} (h : Drawn NM p) : OkP p ∧ p ≠ [] := by
  obtain ⟨h1, h3, hm⟩ := h
  refine ⟨⟨fun x hx => List.all_eq_true.mp hn x (hm x hx), by omega⟩, fun e => ?_⟩
  rw [e] at h1
  exact absurd h1 (by decide)
theorem dget_d {H : Hp} {t : Addr} {d m : Int} (h : H t = some (.dK (tapeL d m))) : DGet H t (.str "digits") (some (.int d)) := by
  rw [← tape_d d m]
  exact DGet.k (k := kD) h
theorem dget_x {H : Hp} {t : Addr} {d m : Int} (h : H t = some (.dK (tapeL d m))) : DGet H t (.str "mixed") (some (.int m)) := by
  rw [← tape_x d m]
  exact DGet.k (k := kX) h
theorem dput_d {H : Hp} {t : Addr} {d m : Int} (h : H t = some (.dK (tapeL d m))) (x : Int) : DPut H t (.str "digits") (.int x) (upd H t (.dK (tapeL x m))) := by
  rw [← put_d d m x]
  exact DPut.k (k := kD) h (by show 2 < sizeLine; rw [sizeLine_eq]; decide)
theorem dput_x {H : Hp} {t : Addr} {d m : Int} (h : H t = some (.dK (tapeL d m))) (x : Int) : DPut H t (.str "mixed") (.int x) (upd H t (.dK (tapeL d x))) := by
  rw [← put_x d m x]
  exact DPut.k (k := kX) h (by show 2 < sizeLine; rw [sizeLine_eq]; decide)
theorem TapeAt.put {H : Hp} {t : Addr} {d m : Int} (o : TapeOk d m) : TapeAt (upd H t (.dK (tapeL d m))) t := ⟨d, m, upd_same, o⟩
/-- what a law promises -/
def spLaw (K : PySem.W.Frag) : Sp := fun vs H Q _ => ∃ (a : Addr) (ns : List Int), vs = [.ref a] ∧ SqL K H a (ns.map V.int) ∧ ns.length ≤ 63 ∧ (∀ z ∈ ns, nbits z ≤ 1048576) ∧ ∀ H2, Q (.bl true) H2
end Gk
/-! Gk9: len of an own instance, properties. -/
namespace Gk
open PySem PySem.Spec PyProof.Rows L2
/-- len(o), o of a class that defines it -/
def rLenOwn (C : Addr) (sp : Sp) : List V → Hp → VK → Prop := fun xs H Q => ∃ (a dx : Addr) (fs : List (Str × V)), xs = [.ref a] ∧ H a = some (.ins C dx fs) ∧ sp [.ref a] H (fun r H2 => ∃ n : Int, r = .int n ∧ 0 ≤ n ∧ n < 2 ^ 63 ∧ Q (.int n) H2) E0
theorem call_lenOwn {X : Cx} {C f : Addr} {k : Nat} {ps : List Str} {sp : Sp} (D : Dm X.prog X.w X.K X.mg X.base C k "__len__" f ps sp) (hr : Room (k + 1) X.A) : CallR X (.builtin "len") (rLenOwn C sp) := by
  intro pins s σ H xs us Q I r h
  obtain ⟨a, dx, fs, rfl, ha, h⟩ := h
  obtain ⟨u, rfl, ru⟩ := vals1 r
  cases ru
  obtain ⟨fd, F, hb⟩ := D.ex
  obtain ⟨mA, J, _⟩ := ins_get I.hok ha
  obtain ⟨od, J, _⟩ := J.look
  obtain ⟨m, hF⟩ := I.fr
  refine PySem.W.len_K hF I.ok.mod.kin J D.me.at_ D.me.fn ?_
  refine thn (run_below (A := X.A.in1) F rfl hr.in1 hb pass0 I (show Vals [V.ref a] [Value.ref a] from .cons rfl .nil) h) fun u2 s2 q => ?_
  obtain ⟨z, H2, I2, rz, n, rfl, n0, n1, q2⟩ := q
  obtain ⟨t, rfl⟩ := (show ∃ t, u2 = Value.int n t from rz)
  exact ⟨⟨n0, n1⟩, .int n, H2, I2.tok _, ⟨_, rfl⟩, q2⟩
/-- a property and its promise -/
structure Pr (P : Program) (w : World) (K : PySem.W.Frag) (mg : Str → Option Value) (base : Heap) (C : Addr) (k : Nat) (m : Str) (sp : Sp) : Prop where
  ex : ∃ p g fd, PropOf K C m p g ∧ FnOk P w K mg base CX0 k g fd ["self"] sp ∧ Binds K fd ["self"] []
theorem pe_pr {X : Cx} {C : Addr} {k : Nat} {m : Str} {sp : Sp} {e : Expr} {pos : Pos} {ta : TE} (he : PE X e ta) (c : Cls X.K C) (D : Pr X.prog X.w X.K X.mg X.base C k m sp) (hr : Room (k + 1) X.A)
    (hab : attributeBase e m X.env (eval e X.env) = eval e X.env := by rfl) : PE X (.Attribute e m pos) (tProp C sp [] E0 ta) := by
  obtain ⟨p, g, fd, hp, F, b⟩ := D.ex
  exact pe_prop he c hp F hr b .nil pass0 hab
end Gk
/-! Gk10: readings of the masks' operators; what the laws want of covering. -/
namespace Gk
open PySem PySem.Spec PyProof.Rows L2
section
variable {K : PySem.W.Frag} {C : Addr} {H : Hp} {v u : V} {qs rs : List Pth} {Q : VK} {E : XK}
theorem IsM.ins (h : IsM C H v qs) : ∃ x dx r, v = .ref x ∧ H x = some (.ins C dx [("rows", .ref r)]) := by
  obtain ⟨x, dx, r, _, e, hx, _⟩ := h
  exact ⟨x, dx, r, e, hx⟩
theorem rd_and (i : IsM C H v qs) (j : IsM C H u rs) (lm : qs.length + rs.length ≤ MOST) (k : ∀ H2 z ts, Kp T0 H H2 → IsM C H2 z ts → ts.length ≤ qs.length + rs.length → Canon (bothP qs rs) ts → Q z H2) : rOwn C (spAndM C) E v u H Q := by
  obtain ⟨x, dx, r, rfl, hx⟩ := i.ins
  obtain ⟨y, dy, t, rfl, hy⟩ := j.ins
  exact ⟨x, y, dx, dy, _, _, rfl, rfl, hx, hy, _, _, qs, rs, rfl, i, j, lm, k⟩
theorem rd_or (i : IsM C H v qs) (j : IsM C H u rs) (lm : qs.length + rs.length ≤ MOST) (k : ∀ H2 z ts, Kp T0 H H2 → IsM C H2 z ts → ts.length ≤ qs.length + rs.length → Canon (qs ++ rs) ts → Q z H2) : rOwn C (spOrM C) E v u H Q := by
  obtain ⟨x, dx, r, rfl, hx⟩ := i.ins
  obtain ⟨y, dy, t, rfl, hy⟩ := j.ins
  exact ⟨x, y, dx, dy, _, _, rfl, rfl, hx, hy, _, _, qs, rs, rfl, i, j, lm, k⟩
theorem rd_eq (i : IsM C H v qs) (j : IsM C H u rs) (k : Q (.bl (decide (qs = rs))) H) : rOwn C (spEqM C) E v u H Q := by
  obtain ⟨x, dx, r, rfl, hx⟩ := i.ins
  obtain ⟨y, dy, t, rfl, hy⟩ := j.ins
  exact ⟨x, y, dx, dy, _, _, rfl, rfl, hx, hy, _, _, qs, rs, rfl, i, j, k⟩
theorem rd_ne (i : IsM C H v qs) (j : IsM C H u rs) (k : Q (.bl (!decide (qs = rs))) H) : rOwnNe C (spEqM C) E v u H Q := by
  obtain ⟨x, dx, r, rfl, hx⟩ := i.ins
  obtain ⟨y, dy, t, rfl, hy⟩ := j.ins
  exact ⟨x, y, dx, dy, _, _, rfl, rfl, hx, hy, _, _, qs, rs, rfl, i, j, _, rfl, k⟩
theorem rd_m {m : Str} {R : Prop} (i : IsM C H v qs) (n : (m == ("rows" : Str)) = false) (k : R) : ∃ a dx fs, v = .ref a ∧ H a = some (.ins C dx fs) ∧ fs.lookup m = none ∧ R := by
  obtain ⟨x, dx, r, rfl, hx⟩ := i.ins
  refine ⟨x, dx, _, rfl, hx, ?_, k⟩
  rw [List.lookup_cons, n]
  rfl
theorem rd_within (i : IsM C H v qs) (j : IsM C H u rs) (k : ∀ H2, Kp T0 H H2 → Q (.bl (withinP qs rs)) H2) : spWithinM C [v, u] H Q E := ⟨v, u, qs, rs, rfl, i, j, k⟩
theorem rd_in {p : Pth} {b : Bool} (i : IsM C H v qs) (ip : IsP H u p) (o : OkP p ∧ p ≠ []) (k : ∀ H2, Kp T0 H H2 → Q (.bl (if b then !coversP qs p else coversP qs p)) H2) : rOwnIn C (spInM K C) E b u v H Q := by
  obtain ⟨x, dx, r, rfl, hx⟩ := i.ins
  exact ⟨x, dx, _, rfl, hx, _, _, qs, rfl, i, .inl ⟨p, ip, o.1, o.2, fun H2 k2 => ⟨_, rfl, k H2 k2⟩⟩⟩
theorem rd_len (i : IsM C H v qs) (k : Q (.int (qs.length : Nat)) H) : rLenOwn C (spLenM C) [v] H Q := by
  have l := i.len
  obtain ⟨x, dx, r, rfl, hx⟩ := i.ins
  refine ⟨x, dx, _, rfl, hx, _, qs, rfl, i, _, rfl, Int.natCast_nonneg _, ?_, k⟩
  have : MOST = 100000 := rfl
  omega
theorem rd_paths (i : IsM C H v qs) (k : ∀ l ys, H l = none → Ps H ys qs → Q (.ref l) (upd H l (.lst ys))) : ∃ a dx fs, v = .ref a ∧ H a = some (.ins C dx fs) ∧ spPathsM C (.ref a :: []) H Q E := by
  obtain ⟨x, dx, r, rfl, hx⟩ := i.ins
  exact ⟨x, dx, _, rfl, hx, _, qs, rfl, i, k⟩
end
/-! ### the tape's changes seen from outside -/
theorem Kp.tape {H H2 : Hp} {t : Addr} {o : HO} (n : H t = none) (k : Kp (At t) (upd H t o) H2) : Kp T0 H H2 := by
  intro b x _ e
  have nb : b ≠ t := ne_of_none e n
  exact k b x nb (by rw [upd_ne nb]; exact e)
theorem sqp_drawn {K : PySem.W.Frag} {H : Hp} {l : Addr} {ys : List V} {ps : List Pth} {NM : List Str} (hn : NM.all isNm = true) (d : H l = some (.lst ys)) (hp : Ps H ys ps) (o : ∀ p ∈ ps, Drawn NM p) : SqP K H l ys ps :=
  ⟨.inl (SqL.of d), hp, fun p h => drawn_ok hn (o p h)⟩

/-! ### covering -/
def CM (qs : List Pth) : Prop := ∃ ps, Canon ps qs
theorem Canon.cm {ps qs : List Pth} (c : Canon ps qs) : CM qs := ⟨ps, c⟩
theorem cm_ext {qs rs : List Pth} (a : CM qs) (b : CM rs) (h : ∀ x, coversP qs x = coversP rs x) : qs = rs := by
  obtain ⟨_, c⟩ := a
  obtain ⟨_, d⟩ := b
  exact canon_ext c d h
theorem cov_and {qs rs ts : List Pth} (c : Canon (bothP qs rs) ts) (x : Pth) : coversP ts x = (coversP qs x && coversP rs x) := (c.covers x).trans (covers_both qs rs x)
theorem cov_or {qs rs ts : List Pth} (c : Canon (qs ++ rs) ts) (x : Pth) : coversP ts x = (coversP qs x || coversP rs x) := (c.covers x).trans (covers_app qs rs x)
theorem bool_ext {a b : Bool} (h : a = true ↔ b = true) : a = b := by
  cases a <;> cases b <;> simp_all
theorem within_or {qs rs ts : List Pth} (c : Canon (qs ++ rs) ts) (b : CM rs) : withinP qs rs = decide (ts = rs) := by
  refine bool_ext ?_
  rw [within_iff, decide_eq_true_eq]
  constructor
  · intro h
    refine cm_ext c.cm b fun x => ?_
    rw [cov_or c]
    cases e : coversP qs x with
    | false => rfl
    | true => rw [h x e]; rfl
  · intro h x hx
    rw [← h, cov_or c, hx]
    rfl
theorem within_and {qs rs ts : List Pth} (c : Canon (bothP qs rs) ts) (a : CM qs) : withinP qs rs = decide (ts = qs) := by
  refine bool_ext ?_
  rw [within_iff, decide_eq_true_eq]
  constructor
  · intro h
    refine cm_ext c.cm a fun x => ?_
    rw [cov_and c]
    cases e : coversP qs x with
    | false => rfl
    | true => rw [h x e]; rfl
  · intro h x hx
    rw [← h, cov_and c] at hx
    exact (Bool.and_eq_true_iff.mp hx).2
theorem eq_within {qs rs : List Pth} (a : CM qs) (b : CM rs) : decide (qs = rs) = (withinP qs rs && withinP rs qs) := by
  refine bool_ext ?_
  rw [Bool.and_eq_true, within_iff, within_iff, decide_eq_true_eq]
  constructor
  · rintro rfl
    exact ⟨fun _ h => h, fun _ h => h⟩
  · rintro ⟨h, g⟩
    exact cm_ext a b fun x => bool_ext ⟨h x, g x⟩
theorem within_cov {qs rs : List Pth} (h : ∀ x, coversP qs x = true → coversP rs x = true) : withinP qs rs = true := within_iff.mpr h
/-- some of a mask's paths are a mask -/
theorem canon_filter {ps qs : List Pth} (c : Canon ps qs) (f : Pth → Bool) : Canon (qs.filter f) (qs.filter f) := by
  refine ⟨c.asc.filter _, fun q => ⟨fun h => ⟨h, fun g hg ne => ?_⟩, fun h => h.1⟩⟩
  cases e : beginsP q g with
  | false => rfl
  | true => exact absurd (c.anti (List.mem_filter.mp h).1 (List.mem_filter.mp hg).1 e) ne
/-- a mask without one of its paths -/
theorem less_cov {ps qs : List Pth} (c : Canon ps qs) {p : Pth} (hp : p ∈ qs) : coversP (qs.filter fun q => !decide (q = p)) p = false := by
  refine covers_false.mpr fun f hf => ?_
  obtain ⟨mf, e⟩ := List.mem_filter.mp hf
  cases b : beginsP p f with
  | false => rfl
  | true =>
    rw [c.anti hp mf b] at e
    simp at e
theorem less_len : ∀ {qs : List Pth} {p : Pth}, Asc qs → p ∈ qs → (qs.filter fun q => !decide (q = p)).length + 1 = qs.length
  | q :: qs, p, a, h => by
    have a2 := List.Pairwise.of_cons a
    have a1 : ∀ {r : Pth}, r ∈ qs → ltP q r = true := fun m => List.rel_of_pairwise_cons a m
    by_cases e : q = p
    · subst e
      have n : q ∉ qs := fun m => by
        have l := a1 m
        rw [ltP_irrefl] at l
        cases l
      have f : (qs.filter fun r => !decide (r = q)) = qs := List.filter_eq_self.mpr fun r hr => by
        rw [decide_eq_false (fun z => n (by rw [← z]; exact hr))]
        rfl
      rw [List.filter_cons_of_neg (by rw [decide_eq_true rfl]; exact Bool.false_ne_true), f]
      rfl
    · have m : p ∈ qs := (List.mem_cons.mp h).resolve_left fun z => e z.symm
      rw [List.filter_cons_of_pos (by rw [decide_eq_false e]; rfl), List.length_cons, List.length_cons, less_len a2 m]
/-! ### rows of masks -/
/-- small masks -/
abbrev Ms (C : Addr) (H : Hp) : List V → List (List Pth) → Prop := Paired fun v qs => IsM C H v qs ∧ qs.length ≤ 6
theorem Ms.keep {T : Addr → Prop} {C : Addr} {H H2 : Hp} {vs : List V} {qss : List (List Pth)} (h : Ms C H vs qss) (k : Kp T H H2) (hT : Loose T H) : Ms C H2 vs qss := Paired.mapP h fun _ _ z => ⟨z.1.keep k hT, z.2⟩
theorem Ms.keep0 {C : Addr} {H H2 : Hp} {vs : List V} {qss : List (List Pth)} (h : Ms C H vs qss) (k : Kp T0 H H2) : Ms C H2 vs qss := h.keep k (loose0 H)
theorem Ms.snoc {C : Addr} {H : Hp} : ∀ {vs : List V} {qss : List (List Pth)} {v : V} {qs : List Pth}, Ms C H vs qss → IsM C H v qs → qs.length ≤ 6 → Ms C H (vs ++ [v]) (qss ++ [qs])
  | _, _, _, _, .nil, h, l => .cons ⟨h, l⟩ .nil
  | _, _, _, _, .cons r t, h, l => .cons r (Ms.snoc t h l)
theorem Ms.get {C : Addr} {H : Hp} : ∀ {vs : List V} {qss : List (List Pth)} {i : Nat} {v : V}, Ms C H vs qss → vs[i]? = some v → ∃ qs, IsM C H v qs ∧ qs.length ≤ 6
  | _, _, _, _, .nil, e => nomatch e
  | _, _, 0, _, .cons r _, e => by
    cases Option.some.inj e
    exact ⟨_, r⟩
  | _, _, _ + 1, _, .cons _ t, e => Ms.get t e
theorem Ms.three {C : Addr} {H : Hp} {vs : List V} {qss : List (List Pth)} (h : Ms C H vs qss) (l : vs.length = 3) :
    ∃ x y z q r s, vs = [x, y, z] ∧ (IsM C H x q ∧ q.length ≤ 6) ∧ (IsM C H y r ∧ r.length ≤ 6) ∧ (IsM C H z s ∧ s.length ≤ 6) := by
  match vs, qss, h, l with
  | [x, y, z], _, .cons a (.cons b (.cons c .nil)), _ => exact ⟨x, y, z, _, _, _, rfl, a, b, c⟩
theorem loose_lst {H : Hp} {D : Addr} {xs : List V} (d : H D = some (.lst xs)) : Loose (At D) H := by
  intro a o e q
  rw [show a = D from e, d] at q
  cases q
  exact ⟨(fun _ e => nomatch e), fun _ _ _ e => nomatch e⟩
theorem clamp {lo hi : Int} (h : lo ≤ hi) (n : Nat) : lo ≤ (if (if (n : Int) < hi then (n : Int) else hi) > lo then (if (n : Int) < hi then (n : Int) else hi) else lo) ∧ (if (if (n : Int) < hi then (n : Int) else hi) > lo then (if (n : Int) < hi then (n : Int) else hi) else lo) ≤ hi := by
  constructor
  · split
    · omega
    · omega
  · split
    · split <;> omega
    · omega
theorem less_within (qs : List Pth) (f : Pth → Bool) : withinP (qs.filter f) qs = true := within_cov fun x h => by
  obtain ⟨g, mg, b⟩ := covers_iff.mp h
  exact covers_iff.mpr ⟨g, (List.mem_filter.mp mg).1, b⟩
theorem cov_mem {qs : List Pth} {p : Pth} (h : p ∈ qs) : coversP qs p = true := covers_iff.mpr ⟨p, h, begins_self p⟩
theorem not_within {qs rs : List Pth} {p : Pth} (h : p ∈ qs) (n : coversP rs p = false) : withinP qs rs = false := by
  cases e : withinP qs rs with
  | false => rfl
  | true => rw [within_iff.mp e p (cov_mem h)] at n; cases n
end Gk
/-! Gk11: repr of True and False; values that are no rows. -/
namespace Gk
open PySem PySem.Spec PyProof.Rows L2
def boolS (b : Bool) : Str := if b then "True" else "False"
theorem call_repr_bool {X : Cx} : CallR X (.builtin "repr") (fun xs H Q => ∃ b, xs = [.bl b] ∧ Q (.str (boolS b)) H) := by
  intro pins s σ H xs us Q I r h
  obtain ⟨b, rfl, q⟩ := h
  obtain ⟨u, rfl, ru⟩ := vals1 r
  cases ru
  refine PySem.P.repr_of_bool ⟨.str (boolS b), H, I.tok _, ⟨s.toks, ?_⟩, q⟩
  cases b <;> rfl
/-- a value that is no row -/
def OddV (K : PySem.W.Frag) (H : Hp) (v : V) : Prop := (∃ (a : Addr) (xs : List V) (rs : List Bool) (ds : List PyData), v = .ref a ∧ H a = some (.tup xs) ∧ Paired (ItN K H) xs rs ∧ DpAll K H xs ds ∧ (PyData.tuple ds).canLay0 = true ∧ xs.length < sizeLine ∧ false = (!xs.isEmpty && rs.all id)) ∨ NoTup K H v
theorem OddV.keep0 {K : PySem.W.Frag} {H H2 : Hp} {v : V} (h : OddV K H v) (k : Kp T0 H H2) : OddV K H2 v := by
  rcases h with ⟨a, xs, rs, ds, e, ha, hp, hd, c, l, b⟩ | h
  · exact .inl ⟨a, xs, rs, ds, e, k.at0 ha, Paired.mapP hp fun _ _ z => z.keep0 k, dpAll_keep hd k, c, l, b⟩
  · exact .inr (h.keep0 k)
theorem rd_odd {K : PySem.W.Frag} {C : Addr} {H : Hp} {v u : V} {qs : List Pth} {Q : VK} {E : XK} (i : IsM C H v qs) (o : OddV K H u) (k : ∀ H2, Kp T0 H H2 → Q (.bl false) H2) : rOwnIn C (spInM K C) E false u v H Q := by
  obtain ⟨x, dx, r, rfl, hx⟩ := i.ins
  refine ⟨x, dx, _, rfl, hx, _, _, qs, rfl, i, .inr ⟨u, false, rfl, ?_, fun H2 k2 => ⟨rfl, _, rfl, k H2 k2⟩⟩⟩
  rcases o with ⟨a, xs, rs, ds, e, ha, hp, hd, c, l, b⟩ | o
  · exact .inl ⟨a, xs, rs, ds, e, ha, hp, hd, c, l, b⟩
  · exact .inr ⟨o, rfl⟩
/-- rows of values that are no rows -/
inductive Odds (K : PySem.W.Frag) (H : Hp) : List V → Prop
  | nil : Odds K H []
  | cons {v : V} {vs : List V} : OddV K H v → Odds K H vs → Odds K H (v :: vs)
theorem Odds.get {K : PySem.W.Frag} {H : Hp} : ∀ {vs : List V} {i : Nat} {v : V}, Odds K H vs → vs[i]? = some v → OddV K H v
  | _, _, _, .nil, e => nomatch e
  | _, 0, _, .cons h _, e => by
    cases Option.some.inj e
    exact h
  | _, _ + 1, _, .cons _ t, e => Odds.get t e
/-- a nested tuple around the text a -/
def Nest (H : Hp) : Nat → V → Prop
  | 0, v => v = .str "a"
  | n + 1, v => ∃ (a : Addr) (x : V), v = .ref a ∧ H a = some (.tup [x]) ∧ Nest H n x
def dNest : Nat → PyData
  | 0 => .str "a"
  | n + 1 => .tuple [dNest n]
theorem Nest.keep0 {H H2 : Hp} (k : Kp T0 H H2) : ∀ {n : Nat} {v : V}, Nest H n v → Nest H2 n v
  | 0, _, h => h
  | _ + 1, _, ⟨a, x, e, ha, h⟩ => ⟨a, x, e, k.at0 ha, Nest.keep0 k h⟩
theorem Nest.dp {K : PySem.W.Frag} {H : Hp} : ∀ {n : Nat} {v : V}, Nest H n v → Dp K H v (dNest n)
  | 0, _, h => by
    cases h
    exact .str _
  | _ + 1, _, ⟨a, x, e, ha, h⟩ => by
    cases e
    exact .tup (SqT.of ha) (.cons h.dp .nil)
theorem lay_nest : ∀ n : Nat, (dNest n).canLay0 = true
  | 0 => by decide +kernel
  | n + 1 => by
    show (PyData.canLay0 (dNest n) && PyData.canLayAll0 []) = true
    rw [lay_nest n]
    rfl
theorem Nest.odd {K : PySem.W.Frag} {H : Hp} {n : Nat} {v : V} (h : Nest H (n + 2) v) : OddV K H v := by
  obtain ⟨a, x, e, ha, h⟩ := h
  obtain ⟨b, y, e2, hb, h2⟩ := id h
  refine .inl ⟨a, [x], [false], [dNest (n + 1)], e, ha, .cons (.inr ⟨⟨.type "tuple", ?_, kit_ty (by decide +kernel)⟩, rfl⟩) .nil, .cons h.dp .nil, lay_nest (n + 2), (by show 1 < sizeLine; rw [sizeLine_eq]; decide), rfl⟩
  rw [e2]
  exact .base (.tup hb)
/-- what a law's own list of covering paths tells -/
theorem cov_any (ps : List Pth) (p : Pth) : (!(ps.filter (beginsP p)).isEmpty) = coversP ps p := by
  unfold coversP
  induction ps with
  | nil => rfl
  | cons q ps ih =>
    cases e : beginsP p q with
    | true => rw [List.filter_cons_of_pos e, List.any_cons, e]; rfl
    | false => rw [List.filter_cons_of_neg (by rw [e]; exact Bool.false_ne_true), List.any_cons, e, ih, Bool.false_or]
abbrev dL (ps : List Pth) : PyData := .list (ps.map dP)
theorem shaped_dL {ps : List Pth} (h : ∀ p ∈ ps, OkP p) : SeqAt.shaped (dL ps) = true := shaped_dM h
theorem eqv_dL (ps qs : List Pth) : PyData.eqv (dL ps) (dL qs) = decide (ps = qs) := eqv_paths ps qs
/-- a law's own reading of covering: paths a list -/
def spLCov (K : PySem.W.Frag) : Sp := fun vs H Q _ => ∃ (a : Addr) (xs : List V) (ps : List Pth) (v : V) (p : Pth), vs = [.ref a, v] ∧ SqL K H a xs ∧ Ps H xs ps ∧ xs.length ≤ MOST ∧ (∀ f ∈ ps, OkP f) ∧ IsP H v p ∧ OkP p ∧
  ∀ H2, Kp T0 H H2 → Q (.bl (coversP ps p)) H2
/-! ### paths made longer and shorter -/
theorem rd_catA {K : PySem.W.Frag} {H : Hp} {v : V} {p q : Pth} {b : Addr} {Q : VK} (hv : IsP H v p) (hb : H b = some (.tup (q.map V.str))) (nq : q ≠ []) (l : p.length + q.length ≤ 1000) (k : ∀ c H2, Kp T0 H H2 → IsP H2 (.ref c) (p ++ q) → Q (.ref c) H2) :
    rCatA K v (.ref b) H Q := by
  obtain ⟨a, rfl, ha⟩ := hv
  refine ⟨a, b, _, _, rfl, rfl, SqT.of ha, SqT.of hb, ?_, fun e => ?_, fun _ e => ?_, fun _ _ c hc => ?_⟩
  · rw [List.length_map, List.length_map, sizeLine_eq]
    omega
  · refine k b H (Kp.refl H) ⟨b, rfl, ?_⟩
    rw [hb, List.map_eq_nil_iff.mp e, List.nil_append]
  · exact absurd (List.map_eq_nil_iff.mp e) nq
  · refine k c _ ((Kp.refl H).new hc) ⟨c, rfl, ?_⟩
    rw [upd_same, List.map_append]
theorem cut_init (xs : List V) : cutV xs none (some (-1)) = xs.dropLast := by
  unfold cutV
  rw [HT.sIx_none, List.drop_zero, Nat.sub_zero, List.dropLast_eq_take]
  have e : HT.sIx xs.length xs.length (some (-1)) = ((-1 : Int) + (xs.length : Int)).toNat := rfl
  have e2 : ((-1 : Int) + (xs.length : Int)).toNat = xs.length - 1 := by omega
  rw [e, e2]
theorem rd_init {K : PySem.W.Frag} {H : Hp} {v : V} {p : Pth} {Q : VK} (hv : IsP H v p) (np : p ≠ []) (k : ∀ c H2, Kp T0 H H2 → IsP H2 (.ref c) p.dropLast → Q (.ref c) H2) : rSlA K v none (some (-1)) H Q := by
  obtain ⟨a, rfl, ha⟩ := hv
  refine ⟨a, _, rfl, SqT.of ha, fun z => ?_, fun _ c hc => ?_⟩
  · exfalso
    have z2 := z.2
    have e : HT.sIx (p.map V.str).length (p.map V.str).length (some (-1)) = ((-1 : Int) + ((p.map V.str).length : Int)).toNat := rfl
    rw [e, List.length_map] at z2
    have : p.length ≠ 0 := fun z => np (List.eq_nil_of_length_eq_zero z)
    omega
  · refine k c _ ((Kp.refl H).new hc) ⟨c, rfl, ?_⟩
    rw [upd_same, cut_init, List.map_dropLast]
/-- right paths -/
def Good (p : Pth) : Prop := OkP p ∧ p ≠ []
theorem Good.app {p q : Pth} (h : OkP p) (hq : q.all isNm = true) (nq : q ≠ []) (l : p.length + q.length ≤ 1000) : Good (p ++ q) := by
  refine ⟨⟨fun x hx => ?_, by rw [List.length_append]; exact l⟩, fun e => nq (List.append_eq_nil_iff.mp e).2⟩
  rcases List.mem_append.mp hx with m | m
  · exact h.1 x m
  · exact List.all_eq_true.mp hq x m
theorem OkP.init {p : Pth} (h : OkP p) : OkP p.dropLast := ⟨fun x hx => h.1 x (List.dropLast_subset p hx), Nat.le_trans (by rw [List.length_dropLast]; exact Nat.sub_le _ _) h.2⟩
/-- a list grows by right paths -/
structure Pile (H : Hp) (s : Addr) (n : Nat) : Prop where
  ex : ∃ us rs, H s = some (.lst us) ∧ Ps H us rs ∧ (∀ r ∈ rs, Good r) ∧ us.length ≤ n
theorem Pile.keep0 {H H2 : Hp} {s : Addr} {n : Nat} (h : Pile H s n) (k : Kp T0 H H2) : Pile H2 s n := by
  obtain ⟨us, rs, a, b, c, d⟩ := h.ex
  exact ⟨us, rs, k.at0 a, b.keep0 k, c, d⟩
theorem Pile.more {H : Hp} {s : Addr} {n : Nat} {us : List V} {rs : List Pth} {v : V} {p : Pth} (a : H s = some (.lst us)) (b : Ps H us rs) (c : ∀ r ∈ rs, Good r) (d : us.length ≤ n) (ip : IsP H v p) (g : Good p) : Pile (upd H s (.lst (us ++ [v]))) s (n + 1) := by
  refine ⟨us ++ [v], rs ++ [p], upd_same, (b.snoc ip).keep (T := At s) ((Kp.refl _).put rfl) fun b o e q => (loose_lst a b o e q).1, fun r hr => ?_, by rw [List.length_append]; exact Nat.succ_le_succ d⟩
  rcases List.mem_append.mp hr with m | m
  · exact c r m
  · rw [List.mem_singleton.mp m]
    exact g
theorem Pile.mono {H : Hp} {s : Addr} {n m : Nat} (h : Pile H s n) (l : n ≤ m) : Pile H s m := by
  obtain ⟨us, rs, a, b, c, d⟩ := h.ex
  exact ⟨us, rs, a, b, c, Nat.le_trans d l⟩
end Gk
/-! Gk14: repr of data, < of data. -/
namespace Gk
open PySem PySem.Spec PyProof.Rows L2
/-- a scalar -/
inductive Sc : V → PyData → Prop
  | non : Sc .non .none
  | bl (b : Bool) : Sc (.bl b) (.bool b)
  | int (i : Int) : Sc (.int i) (.int i)
  | str (x : Str) : Sc (.str x) (.str x)
def dKey : L2.Key → PyData
  | .inl i => .int i
  | .inr x => .str x
abbrev ScP (p : L2.Key × V) (q : PyData × PyData) : Prop := q.1 = dKey p.1 ∧ Sc p.2 q.2
/-- data of which repr is known: no dict, or a dict of scalars -/
inductive Sh (K : PySem.W.Frag) (H : Hp) : V → PyData → Prop
  | dp {v : V} {d : PyData} : Dp K H v d → Sh K H v d
  | dict {a : Addr} {kvs : List (L2.Key × V)} {ds : List (PyData × PyData)} : H a = some (.dK kvs) → Paired ScP kvs ds → Sh K H (.ref a) (.dict ds)
theorem Sh.keep0 {K : PySem.W.Frag} {H H2 : Hp} {v : V} {d : PyData} (h : Sh K H v d) (k : Kp T0 H H2) : Sh K H2 v d := by
  cases h with
  | dp h => exact .dp (dp_keep k h)
  | dict e p => exact .dict (k.at0 e) p
mutual
theorem dp_nodict {K : PySem.W.Frag} {H : Hp} : ∀ {v : V} {d : PyData}, Dp K H v d → d.hasDict = false
  | _, _, .non => rfl
  | _, _, .bl _ => rfl
  | _, _, .int _ => rfl
  | _, _, .str _ => rfl
  | _, _, .lst _ t => dpa_nodict t
  | _, _, .tup _ t => dpa_nodict t
theorem dpa_nodict {K : PySem.W.Frag} {H : Hp} : ∀ {vs : List V} {ds : List PyData}, DpAll K H vs ds → PyData.hasDictAll ds = false
  | _, _, .nil => rfl
  | _, _, .cons a t => by
    show (PyData.hasDict _ || PyData.hasDictAll _) = false
    rw [dp_nodict a, dpa_nodict t]
    rfl
end
section
variable {X : Cx}
def rRepr (K : PySem.W.Frag) : List V → Hp → VK → Prop := fun xs H Q => ∃ (v : V) (d : PyData), xs = [v] ∧ Sh K H v d ∧ d.showable = true ∧ d.depth ≤ 64 ∧ d.shown.length ≤ sizeLine ∧ Q (.str d.shown) H
theorem sc_reads {v : V} {u : Value} {d : PyData} {h : Heap} (s : Sc v d) (r : RelV v u) : Reads h u d [] := by
  cases s with
  | non => cases r; exact .none
  | bl b => cases r; exact .bool b
  | int i => obtain ⟨t, rfl⟩ := (show ∃ t, u = Value.int i t from r); exact .int i t
  | str x => obtain ⟨t, rfl⟩ := (show ∃ t, u = Value.str x t from r); exact .str x t
theorem all_cons0 {h : Heap} {v : Value} {vs : List Value} {d : PyData} {ds : List PyData} (a : Reads h v d []) (b : ReadsAll h vs ds []) : ReadsAll h (v :: vs) (d :: ds) [] := ReadsAll.cons a b
theorem dict_reads {P : Program} {w : World} {h : Heap} : ∀ {kvs : List (L2.Key × V)} {vs : List (L2.Key × Value)} {es : List DictEntry} {ds : List (PyData × PyData)}, Paired ScP kvs ds → KV kvs vs → Pairs (mixKind P w) es vs →
    ReadsAll h (es.map (·.key)) (ds.map (·.1)) [] ∧ ReadsAll h (es.map (·.val)) (ds.map (·.2)) []
  | _, _, _, _, .nil, .nil, .nil => ⟨.nil, .nil⟩
  | _, _, _, _, .cons p ps, .cons r rs, .cons k e t => by
    obtain ⟨i1, i2⟩ := dict_reads (h := h) ps rs t
    obtain ⟨r1, r2⟩ := r
    obtain ⟨p1, p2⟩ := p
    refine ⟨all_cons0 ?_ i1, all_cons0 ?_ i2⟩
    · dsimp only
      rw [p1, r1]
      rcases keyIs_shape k with ⟨i, t, e1, e2⟩ | ⟨x, t, e1, e2⟩
      · rw [e1, e2]
        exact .int i t
      · rw [e1, e2]
        exact .str x t
    · dsimp only
      rw [e]
      exact sc_reads p2 r2
theorem call_reprD (hf : Free X.A) (hu : X.A.units + 70 < cLine) : CallR X (.builtin "repr") (rRepr X.K) := by
  intro pins s σ H xs us Q I r h
  obtain ⟨v, d, rfl, sh, sw, dd, sz, q⟩ := h
  obtain ⟨u, rfl, ru⟩ := vals1 r
  have fin : ∀ (h2 : Heap) (t : Tok) (tk : Nat), (∀ b o, s.heap.get? b = some o → h2.get? b = some o) → EP X pins σ Q (.str d.shown t) { s with heap := h2, toks := tk } := fun h2 t tk hk => ⟨.str d.shown, H, I.kept hk, ⟨t, rfl⟩, q⟩
  cases sh with
  | dp h =>
    cases h with
    | non =>
      cases ru
      exact PySem.P.repr_of_none (fin s.heap _ _ fun _ _ e => e)
    | bl b =>
      cases ru
      exact PySem.P.repr_of_bool (fin s.heap _ _ fun _ _ e => e)
    | int i =>
      obtain ⟨t, rfl⟩ := (show ∃ t, u = Value.int i t from ru)
      exact PySem.P.repr_of_int (of_decide_eq_true sw) (fin s.heap _ _ fun _ _ e => e)
    | str x =>
      obtain ⟨t, rfl⟩ := (show ∃ t, u = Value.str x t from ru)
      exact PySem.P.repr_of_str (fin s.heap _ _ fun _ _ e => e) sz
    | lst a t =>
      obtain ⟨as, rd⟩ := Dp.reads I _ _ u (.lst a t) ru
      cases ru
      refine repr_of_reads' rd sw (fun e => ?_) hf (by omega) (fun _ _ e => e) (fun h2 t tk hk => fin h2 t tk hk) sz
      rw [dp_nodict (.lst a t)] at e
      cases e
    | tup a t =>
      obtain ⟨as, rd⟩ := Dp.reads I _ _ u (.tup a t) ru
      cases ru
      refine repr_of_reads' rd sw (fun e => ?_) hf (by omega) (fun _ _ e => e) (fun h2 t tk hk => fin h2 t tk hk) sz
      rw [dp_nodict (.tup a t)] at e
      cases e
  | dict e p =>
    cases ru
    obtain ⟨_, ns, vs, kv, o, es, ep, ho, ex, hd, _, pr, _⟩ := dk_of I.hok e
    obtain ⟨q1, q2⟩ := dict_reads (h := s.heap) p kv pr
    refine repr_of_reads' (Reads.dict ho ex.1 hd q1 q2) sw (fun _ m => ?_) hf (by omega) (fun _ _ e => e) (fun h2 t tk hk => fin h2 t tk hk) sz
    rcases List.mem_cons.mp m with m | m
    · rw [← m] at ns
      simp at ns
    · exact absurd m (by simp)
/-- a < b, data that are alike -/
def rLtD (K : PySem.W.Frag) : R2 := fun x y H Q => ∃ d e, Dp K H x d ∧ Dp K H y e ∧ PySem.W.alike d e = true ∧ d ≠ .none ∧ d.depth ≤ 64 ∧ Q (.bl (PySem.W.dataLt d e)) H
theorem op_ltD (hu : X.A.units + 64 < cLine) : OpR X (compareOp .Lt) (rLtD X.K) := by
  intro pins s σ H x y v u Q I rx ry h
  obtain ⟨d, e, hd, he, al, nn, dp, q⟩ := h
  obtain ⟨as, r1⟩ := Dp.reads I d x v hd rx
  obtain ⟨bs, r2⟩ := Dp.reads I e y u he ry
  exact PySem.W.rcLt_alike d e X.A s v u as bs r1 r2 al nn (by omega) X.prog X.w X.xe _ ⟨.bl _, H, I, rfl, q⟩
end
end Gk
/-! Gk31: repr of a list whose data may hold dicts at any depth (no dict of it is sys.modules, which is known of each tracked dict). -/
namespace Gk
open PySem PySem.Spec PyProof.Rows L2
mutual
/-- a value's data as the heap has it, no dict being sys.modules -/
inductive RS (h : Heap) : Value → PyData → Prop
  | none : RS h .none .none
  | bool (b : Bool) : RS h (.bool b) (.bool b)
  | int (i : Int) (t : Tok) : RS h (.int i t) (.int i)
  | str (x : Str) (t : Tok) : RS h (.str x t) (.str x)
  | list {a : Addr} {o : Obj} {vs : Array Value} {n : Nat} {xs : List PyData} : h.get? a = some o → o.cls = .type "list" → o.data = .seq vs n → RSs h vs.toList xs → RS h (.ref a) (.list xs)
  | tuple {a : Addr} {o : Obj} {vs : Array Value} {n : Nat} {xs : List PyData} : h.get? a = some o → o.cls = .type "tuple" → o.data = .seq vs n → RSs h vs.toList xs → RS h (.ref a) (.tuple xs)
  | dict {a : Addr} {o : Obj} {es : Array DictEntry} {n : Nat} {kvs : List (PyData × PyData)} : h.get? a = some o → o.cls = .type "dict" → o.data = .dict es n → (a == sysModules) = false → RSs h (es.toList.map (·.key)) (kvs.map (·.1)) → RSs h (es.toList.map (·.val)) (kvs.map (·.2)) → RS h (.ref a) (.dict kvs)
inductive RSs (h : Heap) : List Value → List PyData → Prop
  | nil : RSs h [] []
  | cons {v : Value} {vs : List Value} {d : PyData} {ds : List PyData} : RS h v d → RSs h vs ds → RSs h (v :: vs) (d :: ds)
end
mutual
theorem RS.reads {h : Heap} : ∀ {v : Value} {d : PyData}, RS h v d → ∃ as, Reads h v d as
  | _, _, .none => ⟨_, .none⟩
  | _, _, .bool b => ⟨_, .bool b⟩
  | _, _, .int i t => ⟨_, .int i t⟩
  | _, _, .str x t => ⟨_, .str x t⟩
  | _, _, .list e1 e2 e3 r => let ⟨_, q⟩ := RSs.reads r; ⟨_, .list e1 e2 e3 q⟩
  | _, _, .tuple e1 e2 e3 r => let ⟨_, q⟩ := RSs.reads r; ⟨_, .tuple e1 e2 e3 q⟩
  | _, _, .dict e1 e2 e3 _ r1 r2 => let ⟨_, q1⟩ := RSs.reads r1; let ⟨_, q2⟩ := RSs.reads r2; ⟨_, .dict e1 e2 e3 q1 q2⟩
theorem RSs.reads {h : Heap} : ∀ {vs : List Value} {ds : List PyData}, RSs h vs ds → ∃ as, ReadsAll h vs ds as
  | _, _, .nil => ⟨_, .nil⟩
  | _, _, .cons r rs => let ⟨_, q1⟩ := RS.reads r; let ⟨_, q2⟩ := RSs.reads rs; ⟨_, .cons q1 q2⟩
end
section
variable {P : Program} {w : World} {h : Heap}
mutual
theorem RS.repr : ∀ {v : Value} {d : PyData}, RS h v d → d.showable = true → d.shown.length ≤ sizeLine → ∃ bs, ReadAtMost h d.depth bs ∧ ReprK P w bs h d.depth v d.shown
  | _, _, .none, _, _ => ⟨[], (fun _ m => nomatch m), by simp only [PyData.shown]; exact .of_is ReprIs.none _ _ _⟩
  | _, _, .bool b, _, _ => ⟨[], (fun _ m => nomatch m), by simp only [PyData.shown]; exact .of_is (ReprIs.bool b) _ _ _⟩
  | _, _, .int i t, hs, _ => ⟨[], (fun _ m => nomatch m), by simp only [PyData.shown]; exact .of_is (ReprIs.int t (by simpa [PyData.showable] using hs)) _ _ _⟩
  | _, _, .str x t, _, hz => ⟨[], (fun _ m => nomatch m), by simp only [PyData.shown]; exact .of_is (ReprIs.str x t (by simpa only [PyData.shown] using hz)) _ _ _⟩
  | _, _, .list (a := a) (vs := vs) (xs := xs) e1 e2 e3 r, hs, hz => by
    have hz2 : (listText (PyData.shownAll xs)).length ≤ sizeLine := by simpa only [PyData.shown] using hz
    obtain ⟨bs, hb, hk⟩ := RSs.repr r (by simpa [PyData.showable] using hs) fun t ht => Nat.le_trans (listText_mem_le ht) hz2
    obtain ⟨as, rd⟩ := RS.reads (.list e1 e2 e3 r)
    have na : a ∉ bs := not_mem_of_deeper rd (by simp only [PyData.depth]; omega) hb
    refine ⟨a :: bs, ReadAtMost.cons rd (by simp only [PyData.depth]; omega) hb, ?_⟩
    simp only [PyData.depth, PyData.shown]
    obtain ⟨l⟩ := vs
    cases l with
    | nil =>
      cases (show RSs h [] xs from r)
      simp only [PyData.shownAll, listText_nil]
      exact ReprK.listEmpty e1 e2 e3
    | cons x l => exact ReprK.list e1 e2 e3 na (by simpa using hk.length_eq) fun i y e => hk.item i y (by simpa using e)
  | _, _, .tuple (a := a) (xs := xs) e1 e2 e3 r, hs, hz => by
    have hz2 : (tupleText (PyData.shownAll xs)).length ≤ sizeLine := by simpa only [PyData.shown] using hz
    obtain ⟨bs, hb, hk⟩ := RSs.repr r (by simpa [PyData.showable] using hs) fun t ht => Nat.le_trans (tupleText_mem_le ht) hz2
    obtain ⟨as, rd⟩ := RS.reads (.tuple e1 e2 e3 r)
    have na : a ∉ bs := not_mem_of_deeper rd (by simp only [PyData.depth]; omega) hb
    refine ⟨a :: bs, ReadAtMost.cons rd (by simp only [PyData.depth]; omega) hb, ?_⟩
    simp only [PyData.depth, PyData.shown]
    exact ReprK.tuple e1 e2 e3 na hk
  | _, _, .dict (a := a) (es := es) (kvs := kvs) e1 e2 e3 sy r1 r2, hs, hz => by
    have hz2 : (dictText (PyData.shownKv kvs)).length ≤ sizeLine := by simpa only [PyData.shown] using hz
    obtain ⟨hs1, hs2⟩ := PyData.showableKv_split kvs (by simpa [PyData.showable] using hs)
    obtain ⟨b1, hb1, k1⟩ := RSs.repr r1 hs1 fun t ht => let ⟨p, hp, hl⟩ := PyData.shownKv_key_le kvs t ht; Nat.le_trans hl (Nat.le_trans (dictText_mem_le hp) hz2)
    obtain ⟨b2, hb2, k2⟩ := RSs.repr r2 hs2 fun t ht => let ⟨p, hp, hl⟩ := PyData.shownKv_val_le kvs t ht; Nat.le_trans hl (Nat.le_trans (dictText_mem_le hp) hz2)
    obtain ⟨as, rd⟩ := RS.reads (.dict e1 e2 e3 sy r1 r2)
    have hb : ReadAtMost h (PyData.depthKv kvs) (b1 ++ b2) := (hb1.mono (PyData.depthAll_keys_le kvs)).append (hb2.mono (PyData.depthAll_vals_le kvs))
    have na : a ∉ b1 ++ b2 := not_mem_of_deeper rd (by simp only [PyData.depth]; omega) hb
    refine ⟨a :: (b1 ++ b2), ReadAtMost.cons rd (by simp only [PyData.depth]; omega) hb, ?_⟩
    simp only [PyData.depth, PyData.shown, PyData.shownKv_eq]
    exact ReprK.dict e1 e2 e3 sy na (ReprEntriesK.of_two es.toList _ _ (k1.more_le (fun b m => List.mem_append_left _ m) (PyData.depthAll_keys_le kvs)) (k2.more_le (fun b m => List.mem_append_right _ m) (PyData.depthAll_vals_le kvs)))
theorem RSs.repr : ∀ {vs : List Value} {ds : List PyData}, RSs h vs ds → PyData.showableAll ds = true → (∀ t ∈ PyData.shownAll ds, t.length ≤ sizeLine) → ∃ bs, ReadAtMost h (PyData.depthAll ds) bs ∧ ReprAllK P w bs h (PyData.depthAll ds) vs (PyData.shownAll ds)
  | _, _, .nil, _, _ => ⟨[], (fun _ m => nomatch m), by simp only [PyData.shownAll]; exact .nil⟩
  | _, _, .cons (d := d) (ds := ds) r rs, hs, hz => by
    have hs2 : d.showable = true ∧ PyData.showableAll ds = true := by simpa [PyData.showableAll] using hs
    obtain ⟨b1, hb1, k1⟩ := RS.repr r hs2.1 (hz _ (by simp only [PyData.shownAll]; exact List.mem_cons_self ..))
    obtain ⟨b2, hb2, k2⟩ := RSs.repr rs hs2.2 fun t ht => hz t (by simp only [PyData.shownAll]; exact List.mem_cons_of_mem _ ht)
    simp only [PyData.depthAll, PyData.shownAll]
    refine ⟨b1 ++ b2, (hb1.mono (Nat.le_max_left _ _)).append (hb2.mono (Nat.le_max_right _ _)), ?_⟩
    exact .cons ((k1.more fun b m => List.mem_append_left _ m).level_le (Nat.le_max_left _ _)) (k2.more_le (fun b m => List.mem_append_right _ m) (Nat.le_max_right _ _))
end
end
mutual
/-- a tracked value's data, with dicts, outside T -/
inductive Dd (T : Addr → Prop) (H : Hp) : V → PyData → Prop
  | sc {v : V} {d : PyData} : Sc v d → Dd T H v d
  | lst {a : Addr} {vs : List V} {ds : List PyData} : ¬ T a → H a = some (.lst vs) → Dds T H vs ds → Dd T H (.ref a) (.list ds)
  | tup {a : Addr} {vs : List V} {ds : List PyData} : ¬ T a → H a = some (.tup vs) → Dds T H vs ds → Dd T H (.ref a) (.tuple ds)
  | dict {a : Addr} {kvs : List (L2.Key × V)} {ds : List (PyData × PyData)} : ¬ T a → H a = some (.dK kvs) → DdK T H kvs ds → Dd T H (.ref a) (.dict ds)
inductive Dds (T : Addr → Prop) (H : Hp) : List V → List PyData → Prop
  | nil : Dds T H [] []
  | cons {v : V} {vs : List V} {d : PyData} {ds : List PyData} : Dd T H v d → Dds T H vs ds → Dds T H (v :: vs) (d :: ds)
inductive DdK (T : Addr → Prop) (H : Hp) : List (L2.Key × V) → List (PyData × PyData) → Prop
  | nil : DdK T H [] []
  | cons {k : L2.Key} {v : V} {kvs : List (L2.Key × V)} {d : PyData} {ds : List (PyData × PyData)} : Dd T H v d → DdK T H kvs ds → DdK T H ((k, v) :: kvs) ((dKey k, d) :: ds)
end
mutual
theorem Dd.keep {T : Addr → Prop} {H H2 : Hp} (k : Kp T H H2) : ∀ {v : V} {d : PyData}, Dd T H v d → Dd T H2 v d
  | _, _, .sc s => .sc s
  | _, _, .lst n e r => .lst n (k _ _ n e) (Dds.keep k r)
  | _, _, .tup n e r => .tup n (k _ _ n e) (Dds.keep k r)
  | _, _, .dict n e r => .dict n (k _ _ n e) (DdK.keep k r)
theorem Dds.keep {T : Addr → Prop} {H H2 : Hp} (k : Kp T H H2) : ∀ {vs : List V} {ds : List PyData}, Dds T H vs ds → Dds T H2 vs ds
  | _, _, .nil => .nil
  | _, _, .cons a r => .cons (Dd.keep k a) (Dds.keep k r)
theorem DdK.keep {T : Addr → Prop} {H H2 : Hp} (k : Kp T H H2) : ∀ {kvs : List (L2.Key × V)} {ds : List (PyData × PyData)}, DdK T H kvs ds → DdK T H2 kvs ds
  | _, _, .nil => .nil
  | _, _, .cons a r => .cons (Dd.keep k a) (DdK.keep k r)
end
mutual
/-- other places to be apart from: new ones -/
theorem Dd.out {T U : Addr → Prop} {H : Hp} (h : ∀ a, U a → T a ∨ H a = none) : ∀ {v : V} {d : PyData}, Dd T H v d → Dd U H v d
  | _, _, .sc s => .sc s
  | _, _, .lst n e r => .lst (fun z => (h _ z).elim n fun q => by rw [e] at q; cases q) e (Dds.out h r)
  | _, _, .tup n e r => .tup (fun z => (h _ z).elim n fun q => by rw [e] at q; cases q) e (Dds.out h r)
  | _, _, .dict n e r => .dict (fun z => (h _ z).elim n fun q => by rw [e] at q; cases q) e (DdK.out h r)
theorem Dds.out {T U : Addr → Prop} {H : Hp} (h : ∀ a, U a → T a ∨ H a = none) : ∀ {vs : List V} {ds : List PyData}, Dds T H vs ds → Dds U H vs ds
  | _, _, .nil => .nil
  | _, _, .cons a r => .cons (Dd.out h a) (Dds.out h r)
theorem DdK.out {T U : Addr → Prop} {H : Hp} (h : ∀ a, U a → T a ∨ H a = none) : ∀ {kvs : List (L2.Key × V)} {ds : List (PyData × PyData)}, DdK T H kvs ds → DdK U H kvs ds
  | _, _, .nil => .nil
  | _, _, .cons a r => .cons (Dd.out h a) (DdK.out h r)
end
section
variable {X : Cx} {pins : List (Addr × Obj)} {σ : L2.St} {H : Hp} {s : Shared}
theorem sc_rs {h : Heap} {v : V} {u : Value} {d : PyData} (s : Sc v d) (r : RelV v u) : RS h u d := by
  cases s with
  | non => cases r; exact .none
  | bl b => cases r; exact .bool b
  | int i => obtain ⟨t, rfl⟩ := (show ∃ t, u = Value.int i t from r); exact .int i t
  | str x => obtain ⟨t, rfl⟩ := (show ∃ t, u = Value.str x t from r); exact .str x t
theorem key_rs {h : Heap} {u : Value} {k : L2.Key} (e : keyIs k u = true) : RS h u (dKey k) := by
  rcases keyIs_shape e with ⟨i, t, e1, e2⟩ | ⟨x, t, e1, e2⟩
  · rw [e1, e2]
    exact .int i t
  · rw [e1, e2]
    exact .str x t
mutual
theorem Dd.rs {T : Addr → Prop} (I : Inv X pins σ H s) : ∀ {v : V} {d : PyData} (u : Value), Dd T H v d → RelV v u → RS s.heap u d
  | _, _, _, .sc c, r => sc_rs c r
  | _, _, u, .lst _ e q, r => by
    obtain rfl : u = Value.ref _ := r
    obtain ⟨z, its, n, rv, hl, ho⟩ := I.lstM e
    exact .list ho rfl rfl (by rw [List.toList_toArray]; exact Dds.rs I its q rv)
  | _, _, u, .tup _ e q, r => by
    obtain rfl : u = Value.ref _ := r
    obtain ⟨_, its, rv, o, h1, h2, n, h3⟩ := (show ObjOk X.prog X.w H s.heap _ (.tup _) from I.hok _ _ e)
    exact .tuple h1 h2 h3 (by rw [List.toList_toArray]; exact Dds.rs I its q rv)
  | _, _, u, .dict _ e q, r => by
    obtain rfl : u = Value.ref _ := r
    obtain ⟨_, ns, vs, kv, o, es, ep, ho, ex, hd, _, pr, _⟩ := dk_of I.hok e
    obtain ⟨r1, r2⟩ := DdK.rs I vs es.toList q kv pr
    exact .dict ho ex.1 hd ns r1 r2
theorem Dds.rs {T : Addr → Prop} (I : Inv X pins σ H s) : ∀ {vs : List V} {ds : List PyData} (us : List Value), Dds T H vs ds → Vals vs us → RSs s.heap us ds
  | _, _, _, .nil, .nil => .nil
  | _, _, _ :: _, .cons a q, .cons r t => .cons (Dd.rs I _ a r) (Dds.rs I _ q t)
theorem DdK.rs {T : Addr → Prop} (I : Inv X pins σ H s) : ∀ {kvs : List (L2.Key × V)} {ds : List (PyData × PyData)} (vs : List (L2.Key × Value)) (es : List DictEntry), DdK T H kvs ds → KV kvs vs → Pairs (mixKind X.prog X.w) es vs →
    RSs s.heap (es.map (·.key)) (ds.map (·.1)) ∧ RSs s.heap (es.map (·.val)) (ds.map (·.2))
  | _, _, _, _, .nil, .nil, .nil => ⟨.nil, .nil⟩
  | _, _, _, _, .cons a q, .cons r t, .cons k e p => by
    obtain ⟨i1, i2⟩ := DdK.rs I _ _ q t p
    refine ⟨.cons ?_ i1, .cons ?_ i2⟩
    · have k2 := k
      rw [← r.1] at k2
      exact key_rs k2
    · dsimp only
      rw [e]
      exact Dd.rs I _ a r.2
end
/-- repr of a list -/
def rReprL : List V → Hp → VK → Prop := fun xs H Q => ∃ (a : Addr) (vs : List V) (ds : List PyData) (T : Addr → Prop), xs = [.ref a] ∧ H a = some (.lst vs) ∧ Dds T H vs ds ∧ PyData.showableAll ds = true ∧ PyData.depthAll ds ≤ 60 ∧ (PyData.list ds).shown.length ≤ sizeLine ∧ Q (.str (PyData.list ds).shown) H
theorem call_reprL (hf : Free X.A) (hu : X.A.units + 70 < cLine) : CallR X (.builtin "repr") rReprL := by
  intro pins s σ H xs us Q I r h
  obtain ⟨a, vs, ds, T, rfl, e, dd, sw, dp, sz, q⟩ := h
  obtain ⟨u, rfl, ru⟩ := vals1 r
  obtain rfl : u = Value.ref a := ru
  obtain ⟨z, its, n, rv, hl, ho⟩ := I.lstM e
  have sz2 : (listText (PyData.shownAll ds)).length ≤ sizeLine := by simpa only [PyData.shown] using sz
  have rs := Dds.rs I its dd rv
  obtain ⟨bs, hb, hk⟩ := RSs.repr (P := X.prog) (w := X.w) rs sw fun t ht => Nat.le_trans (listText_mem_le ht) sz2
  have fin : ∀ (h2 : Heap) (t : Tok) (tk : Nat), (∀ b o, s.heap.get? b = some o → h2.get? b = some o) → EP X pins σ Q (.str (PyData.list ds).shown t) { s with heap := h2, toks := tk } := fun h2 t tk hk => ⟨.str (PyData.list ds).shown, H, I.kept hk, ⟨t, rfl⟩, q⟩
  obtain ⟨as, rd⟩ := RS.reads (RS.list ho rfl rfl (by rw [List.toList_toArray]; exact rs))
  have na : a ∉ bs := not_mem_of_deeper rd (by simp only [PyData.depth]; omega) hb
  refine call_repr_slot (by omega) (⟨_, ho, rfl⟩ : s.TypeIs (.ref a) "list") F.slot_list_repr.toG ?_
  simp only [PyData.shown] at fin
  cases its with
  | nil =>
    cases rs
    simp only [PyData.shownAll, listText_nil] at fin
    exact call_list_repr_empty ⟨_, ho, rfl⟩ ho rfl ⟨_, _, rfl, fin s.heap _ _ fun _ _ e => e⟩
  | cons x l =>
    refine call_list_reprK ho rfl rfl na (by simpa using hk.length_eq) (fun i y e => hk.item i y (by simpa using e)) (g := []) hf (fun b _ => Clear.nil b) (by show X.A.units + 1 + _ < cLine; omega) (fun _ _ e => e) (fun h2 u tk hk2 => ⟨_, _, rfl, fin h2 u tk hk2⟩) sz2
end
end Gk
/-! Gk32: a def of one parameter called by its name; the text of a list of fourteen equal things. -/
namespace Gk
open PySem PySem.Spec PyProof.Rows L2
structure D1 (P : Program) (w : World) (K : PySem.W.Frag) (mg : Str → Option Value) (base : Heap) (k : Nat) (f : Addr) (x prm : Str) (sp : Sp) : Prop where
  ex : ∃ fd, FnOk P w K mg base CX0 k f fd [prm] sp ∧ Binds K fd [prm] [] ∧ ∀ s u, BindsTo s fd ⟨[], [(prm, u)]⟩ [(prm, u)]
  mgx : mg x = some (.ref f)
  kp : PySem.W.keepIn K (.ref f) = true
theorem D1.df {P : Program} {w : World} {K : PySem.W.Frag} {mg : Str → Option Value} {base : Heap} {k : Nat} {f : Addr} {x prm : Str} {sp : Sp} (D : D1 P w K mg base k f x prm sp) : Df P w K mg base k f x [prm] sp := by
  obtain ⟨fd, F, b, _⟩ := D.ex
  exact ⟨⟨fd, F, b⟩, D.mgx, D.kp⟩
section
variable {X : Cx} {k : Nat} {f : Addr} {x prm : Str} {sp : Sp} {p pos kpos : Pos} {e : Expr} {te : TE}
theorem pe_d1K (D : D1 X.prog X.w X.K X.mg X.base k f x prm sp) (hr : Room k X.A) (hg : Gl X x) (he : PE X e te) (hdb : (x == ("__debug__" : Str)) = false := by decide)
    (hall : (backToKw pos (keywordEach [⟨some prm, e, kpos⟩] X.env)).all (·.1.isSome) = true := by rfl) (hks : (backToKw pos (keywordEach [⟨some prm, e, kpos⟩] X.env)).filterMap (·.1) = [prm] := by rfl)
    (hpl : ((backTo pos (starEach [] X.env)).any (·.1) || (backToKw pos (keywordEach [⟨some prm, e, kpos⟩] X.env)).any (·.1.isNone)) = false := by rfl) : PE X (.Call (.Name x p) [] [⟨some prm, e, kpos⟩] pos) (tCall sp [] E0 (tCons te tNil)) := by
  obtain ⟨fd, F, b, bk⟩ := D.ex
  refine ⟨fun pins s σ H Q I h => ?_⟩
  refine wpAny_Call_Name_kw (ld_glob I hg D.mgx ?_ hdb)
  refine PySem.W.callWith_KW0 (first := []) (h₀ := X.base) I.ok.mod.kin D.kp hall ?_ hpl
  refine thn ((pk_cons he pk_nil).run pos pins s σ H (fun vs H1 => sp (vs ++ []) H1 Q E0) I h) fun us s1 ⟨vs, H1, I1, r1, q1⟩ => ⟨I1.kIn, ?_⟩
  rw [hks]
  have kb : KBinds X.K fd [prm] [prm] (fun us ws => us ++ ws) (fun vs zs => vs ++ zs) := ⟨fun s us ws kin hl => by
    match us, ws, hl with
    | [u], [], _ => exact b s [u] kin rfl
    | [], [u], _ => exact bk s u
    | [], [], hl => cases hl
    | [], _ :: _ :: _, hl => simp at hl
    | [_], _ :: _, hl => simp at hl
    | _ :: _ :: _, _, hl => simp at hl, fun r z => r.append z⟩
  refine run_fnk (us := []) (vs := []) F hr kb pass0 I1 .nil r1 ?_
  have q2 : sp (vs ++ []) H1 Q E0 := q1
  rw [List.append_nil] at q2
  exact q2
end
theorem textFrom_le : ∀ (ts : List Str) (k : Nat) (acc : Str) (m : Nat), (∀ t ∈ ts, t.length ≤ m) → (textFrom k acc ts).length ≤ acc.length + ts.length * (m + 2)
  | [], k, acc, m, _ => by
    show acc.length ≤ _
    exact Nat.le_add_right _ _
  | t :: ts, k, acc, m, h => by
    have i := textFrom_le ts (k + 1) (acc ++ (if k > 0 then ", " else "" : String) ++ t) m fun x hx => h x (List.mem_cons_of_mem _ hx)
    have ht := h t List.mem_cons_self
    have hs : (PySem.Str.ofString (if k > 0 then ", " else "" : String)).length ≤ 2 := by
      by_cases c : k > 0
      · rw [if_pos c]; decide
      · rw [if_neg c]; decide
    show (textFrom (k + 1) (acc ++ (if k > 0 then ", " else "" : String) ++ t) ts).length ≤ _
    rw [strLen_append, strLen_append] at i
    rw [List.length_cons, Nat.succ_mul]
    omega
theorem listText_le {ts : List Str} {m : Nat} (h : ∀ t ∈ ts, t.length ≤ m) : (listText ts).length ≤ 2 + ts.length * (m + 2) := by
  have i := textFrom_le ts 0 "[" m h
  show (textFrom 0 "[" ts ++ "]").length ≤ _
  rw [strLen_append]
  have a : (PySem.Str.ofString "[").length = 1 := rfl
  have b : (PySem.Str.ofString "]").length = 1 := rfl
  omega
theorem rep_shown (d : PyData) : ∀ n, PyData.shownAll (List.replicate n d) = List.replicate n d.shown
  | 0 => by simp [PyData.shownAll]
  | n + 1 => by rw [List.replicate_succ, List.replicate_succ, PyData.shownAll, rep_shown d n]
theorem rep_sw {d : PyData} (h : d.showable = true) : ∀ n, PyData.showableAll (List.replicate n d) = true
  | 0 => by simp [PyData.showableAll]
  | n + 1 => by rw [List.replicate_succ, PyData.showableAll, rep_sw h n, h]; rfl
theorem rep_depth (d : PyData) : ∀ n, PyData.depthAll (List.replicate n d) ≤ d.depth
  | 0 => by simp [PyData.depthAll]
  | n + 1 => by
    rw [List.replicate_succ, PyData.depthAll]
    exact Nat.max_le.mpr ⟨Nat.le_refl _, rep_depth d n⟩
theorem rep_dds {T : Addr → Prop} {H : Hp} {v : V} {d : PyData} (h : Dd T H v d) : ∀ n, Dds T H (List.replicate n v) (List.replicate n d)
  | 0 => .nil
  | n + 1 => .cons h (rep_dds h n)
/-- the reading of repr of fourteen times the same -/
theorem rd_rep {T : Addr → Prop} {H : Hp} {a : Addr} {v : V} {d : PyData} {Q : VK} (e : H a = some (.lst (List.replicate 14 v))) (h : Dd T H v d) (sw : d.showable = true) (dd : d.depth ≤ 60) (sz : d.shown.length ≤ 1000) (k : Q (.str (PyData.list (List.replicate 14 d)).shown) H) : rReprL [.ref a] H Q := by
  refine ⟨a, _, List.replicate 14 d, T, rfl, e, rep_dds h 14, rep_sw sw 14, Nat.le_trans (rep_depth d 14) dd, ?_, k⟩
  simp only [PyData.shown]
  rw [rep_shown]
  have l := listText_le (ts := List.replicate 14 d.shown) (m := 1000) fun t m => by rw [List.eq_of_mem_replicate m]; exact sz
  rw [List.length_replicate] at l
  rw [sizeLine_eq]
  omega
end Gk
/-! Gk33: C(e, ..) whose __init__ may raise, within a try. -/
namespace Gk
open PySem PySem.Spec PyProof.Rows L2
def tMakeS (C : Addr) (sp : Sp) (E : L2.St → XK) (t : TA) : TE := fun σ H Q => t σ H fun vs H1 => ∀ x dx, H1 x = none → H1 dx = none → dx ≠ x →
  sp (.ref x :: vs) (upd (upd H1 dx (.own x)) x (.ins C dx [])) (fun v H2 => v = .non ∧ Q (.ref x) H2) (E σ)
section
variable {X : Cx} {CX : CXT} {k : Nat} {f C : Addr} {fd : FuncData} {ps : List Str} {sp : Sp} {E : L2.St → XK} {x : Str} {p pos : Pos} {e : Expr} {es : List Expr} {t : TA}
theorem run_makeS {pins : List (Addr × Obj)} {σ : L2.St} {H : Hp} {s : Shared} {Q : VK} {us : List Value} {vs : List V} (M : Mk X.K C f) (F : FnOk X.prog X.w X.K X.mg X.base CX k f fd ps sp) (hr : Room (k + 1) X.A) (hb : Binds X.K fd ps [])
    (hx : PassesAt CX X σ (E σ)) (I : Inv X pins σ H s) (r : Vals vs us)
    (h : ∀ x dx, H x = none → H dx = none → dx ≠ x → sp (.ref x :: vs) (upd (upd H dx (.own x)) x (.ins C dx [])) (fun v H2 => v = .non ∧ Q (.ref x) H2) (E σ)) :
    wpAny (model X.prog X.w) X.A (call (.ref C) us) (EP X pins σ Q) X.xe s := by
  have hq := h (s.heap.objs.size + 1) s.heap.objs.size (I.hok.fresh (Nat.le_succ _)) (I.hok.fresh (Nat.le_refl _)) (Nat.ne_of_lt (Nat.lt_succ_self _))
  have I2 := Inv.made (C := C) I
  have r2 : Vals (V.ref (s.heap.objs.size + 1) :: vs) (Value.ref (s.heap.objs.size + 1) :: us) := .cons rfl r
  have hl : ((Value.ref (s.heap.objs.size + 1) :: us) ++ ([] : List Value)).length = ps.length := by
    rw [List.append_nil]
    have e := r2.length
    rw [F.len _ _ _ _ hq] at e
    exact e.symm
  have bd := hb ⟨((s.heap.push _).push _), s.gens, s.drawn, s.toks, s.os⟩ (Value.ref (s.heap.objs.size + 1) :: us) I2.kIn hl
  rw [List.append_nil] at bd
  refine wpAny_call (make_map (f := f) I.kIn M.makes M.init (beq_iff_eq.mp M.fn) (codeAny_mono (F.run _ X.stack _ _ ⟨Value.ref (s.heap.objs.size + 1) :: us, []⟩ (Value.ref (s.heap.objs.size + 1) :: us) _ _ (E σ) (hr.make C us [])
    (I2.env0.make C us []) bd r2 hq) fun r s' hq' => ?_))
  cases r with
  | error e => exact hx pins _ _ e s' I2 hq'
  | ok fl =>
    cases fl with
    | ret u =>
      obtain ⟨v, H', I3, rv, ev, q3⟩ := I2.after hq'
      subst ev
      exact ⟨rv, ⟨V.ref (s.heap.objs.size + 1), H', I3, rfl, q3⟩⟩
    | next => exact False.elim hq'
    | brk => exact False.elim hq'
    | cont => exact False.elim hq'
theorem pe_makeS (M : Mk X.K C f) (F : FnOk X.prog X.w X.K X.mg X.base CX k f fd ps sp) (hr : Room (k + 1) X.A) (hg : Gl X x) (hm : X.mg x = some (.ref C)) (hb : Binds X.K fd ps []) (hx : ∀ σ, PassesAt CX X σ (E σ))
    (ha : PA X (e :: es) t) (hdb : (x == ("__debug__" : Str)) = false := by decide) (he : starEach (e :: es) X.env = (false, eval e X.env) :: starEach es X.env := by rfl) (hpl : (backTo pos (starEach es X.env)).any (·.1) = false := by rfl) :
    PE X (.Call (.Name x p) (e :: es) [] pos) (tMakeS C sp E t) := by
  refine ⟨fun pins s σ H Q I h => ?_⟩
  refine wpAny_Call_Name_kw (ld_glob I hg hm ?_ hdb)
  refine PySem.W.callWith_K (h₀ := X.base) I.ok.mod.kin M.kp (thn (ha.run pos pins s σ H _ I h) fun us s1 ⟨vs, H1, I1, r, q⟩ => ⟨I1.kIn, ?_⟩) he hpl
  exact run_makeS M F hr hb (hx σ) I1 r q
end
end Gk
/-! Gk36: defs, instances and properties while an exception is handled; nothing is raised there. -/
namespace Gk
open PySem PySem.Spec PyProof.Rows L2 L2H HotX
theorem roomH_in1 {k : Nat} {A : Around} (r : RoomH (k + 1) A) : RoomH k A.in1 := ⟨by have := r.dp; show A.depth + 3 * k + 5 < _; omega, by have := r.un; show A.units + 1 + 16 * k + 200 < _; omega⟩
section
variable {P : Program} {w : World} {K : PySem.W.Frag} {mg : Str → Option Value} {base : Heap}
theorem fun_okH {x qual : Str} {st : Stmt} {f : Addr} {fd : FuncData} {N ps : List Str} {k : Nat} {sp : Sp} (F : Fun K x qual st f fd) (S : FnScope N ps (defScope st)) (len : ∀ vs H Q E, sp vs H Q E → vs.length = ps.length)
    (body : ∀ (cdv : Value) (A : Around) (outer : List Env) (s : Shared) (H : Hp) (vs : List V) (Q : VK) (E : XK) (p : Addr × Obj), HotC (cxH CX0 P w K mg base N qual (defScope st) f cdv A outer s H E p).nox → RoomH k (A.deeper (envOfC qual (defScope st) s.heap.objs.size f cdv)) → sp vs H Q E →
      ∃ t, PSs (cxH CX0 P w K mg base N qual (defScope st) f cdv A outer s H E p).nox (defBody st) t ∧ t { nx := fun _ H' => Q .non H', rt := Q } (start N vs) H) : FnH P w K mg base CX0 (k + 1) f fd ps sp := by
  obtain ⟨oc, od, kV, doc, pm, an, cdv, ct, osl, rfl, lk, hcd⟩ := F.ex
  refine fn_ofH lk hcd S len fun A outer s H vs Q E p hot hr hsp => ?_
  obtain ⟨t, h, q⟩ := body cdv A outer s H vs Q E p ⟨p, ⟨hot.1, hot.2⟩, List.mem_singleton.mpr rfl⟩ hr hsp
  exact ⟨t, h.nox, q⟩
theorem fund_okH {x qual : Str} {params : Arguments} {bd : List Stmt} {sc : Scope} {dvs : List V} {kws : List (Str × V)} {f : Addr} {fd : FuncData} {N ps : List Str} {k : Nat} {sp : Sp} (F : FunD K x qual params bd sc dvs kws f fd) (S : FnScope N ps sc) (len : ∀ vs H Q E, sp vs H Q E → vs.length = ps.length)
    (body : ∀ (cdv : Value) (A : Around) (outer : List Env) (s : Shared) (H : Hp) (vs : List V) (Q : VK) (E : XK) (p : Addr × Obj), HotC (cxH CX0 P w K mg base N qual sc f cdv A outer s H E p).nox → RoomH k (A.deeper (envOfC qual sc s.heap.objs.size f cdv)) → sp vs H Q E →
      ∃ t, PSs (cxH CX0 P w K mg base N qual sc f cdv A outer s H E p).nox bd t ∧ t { nx := fun _ H' => Q .non H', rt := Q } (start N vs) H) : FnH P w K mg base CX0 (k + 1) f fd ps sp := by
  obtain ⟨oc, od, dV, kV, doc, pm, an, cdv, ct, osl, rfl, lk, hcd, _, _⟩ := F.ex
  refine fn_ofH lk hcd S len fun A outer s H vs Q E p hot hr hsp => ?_
  obtain ⟨t, h, q⟩ := body cdv A outer s H vs Q E p ⟨p, ⟨hot.1, hot.2⟩, List.mem_singleton.mpr rfl⟩ hr hsp
  exact ⟨t, h.nox, q⟩
/-- a def of the module that may be called there -/
structure DfH (P : Program) (w : World) (K : PySem.W.Frag) (mg : Str → Option Value) (base : Heap) (k : Nat) (x : Str) (ps : List Str) (sp : Sp) : Prop where
  ex : ∃ f fd, FnH P w K mg base CX0 k f fd ps sp ∧ mg x = some (.ref f) ∧ PySem.W.keepIn K (.ref f) = true ∧ Binds K fd ps []
end
section
variable {X : Cx} {C : Addr} {k : Nat} {x : Str} {ps : List Str} {sp : Sp} {e : Expr} {es : List Expr} {t : TA} {p pos : Pos}
theorem passAt0 {σ : L2.St} {E : XK} : PassesAt CX0 X σ E := fun _ _ _ _ _ _ h => h.elim
theorem pe_dfH (D : DfH X.prog X.w X.K X.mg X.base k x ps sp) (hr : RoomH k X.A) (hc : HotC X) (hg : Gl X x) (ha : PA X (e :: es) t) (hdb : (x == ("__debug__" : Str)) = false := by decide)
    (he : starEach (e :: es) X.env = (false, eval e X.env) :: starEach es X.env := by rfl) (hpl : (backTo pos (starEach es X.env)).any (·.1) = false := by rfl) : PE X (.Call (.Name x p) (e :: es) [] pos) (tCallS sp (fun _ => E0) t) := by
  obtain ⟨f, fd, F, hm, hk, hb⟩ := D.ex
  exact pe_callH F hr hc hg hm hk hb (fun _ => passAt0) ha hdb he hpl
/-- C(..) there -/
theorem run_makeH {ps2 : List (Addr × Obj)} {σ : L2.St} {H : Hp} {s : Shared} {Q : VK} {us : List Value} {vs : List V} {f : Addr} {fd : FuncData} {dvs : List V} {ds : List Value} {E : XK} (M : Mk X.K C f) (F : FnH X.prog X.w X.K X.mg X.base CX0 k f fd ps sp) (hr : RoomH (k + 1) X.A) (hc : HotC X)
    (hb : Binds X.K fd ps ds) (hd : Vals dvs ds) (I : Inv X ps2 σ H s) (r : Vals vs us)
    (h : ∀ x dx, H x = none → H dx = none → dx ≠ x → sp (.ref x :: (vs ++ dvs)) (upd (upd H dx (.own x)) x (.ins C dx [])) (fun v H2 => v = .non ∧ Q (.ref x) H2) E) : wpAny (model X.prog X.w) X.A (call (.ref C) us) (EP X ps2 σ Q) X.xe s := by
  have n1 := I.hok.fresh (Nat.le_refl s.heap.objs.size)
  have n2 := I.hok.fresh (Nat.le_succ s.heap.objs.size)
  have want := h _ _ n2 n1 (Nat.ne_of_lt (Nat.lt_succ_self _))
  have J := Inv.made (C := C) I
  have vv : Vals (V.ref (s.heap.objs.size + 1) :: (vs ++ dvs)) (Value.ref (s.heap.objs.size + 1) :: (us ++ ds)) := .cons rfl (r.append hd)
  have ll : (Value.ref (s.heap.objs.size + 1) :: us ++ ds).length = ps.length := (show (Value.ref (s.heap.objs.size + 1) :: (us ++ ds)).length = ps.length from vv.length ▸ F.len _ _ _ _ want)
  obtain ⟨p0, hot, hp⟩ := hc
  have P1 := J.pin p0 (List.mem_append_left _ hp)
  have pin : PinOk X.stack _ _ p0 := ⟨P1.1, P1.2.1, fun hm => (List.mem_cons.mp (J.stkSub p0.1 hm)).elim P1.2.2.1 P1.2.2.2.1, P1.2.2.2.2⟩
  have go := F.run (X.A.under (.builtin "type.__call__" ⟨.ref C :: us, []⟩)) X.stack _ _ ⟨Value.ref (s.heap.objs.size + 1) :: us, []⟩ (Value.ref (s.heap.objs.size + 1) :: (us ++ ds)) _ _ E p0 (hr.make C us []) ⟨hot.1, hot.2⟩ pin (J.env0.make C us []) (hb _ (Value.ref (s.heap.objs.size + 1) :: us) J.kIn ll) vv want
  refine wpAny_call (make_map (f := f) I.kIn M.makes M.init (beq_iff_eq.mp M.fn) (codeAny_mono go fun r s' hq => ?_))
  match r, hq with
  | .ok (.ret u), hq =>
    obtain ⟨v, H', I3, rv, rfl, q3⟩ := J.after hq
    exact ⟨rv, V.ref (s.heap.objs.size + 1), H', I3, rfl, q3⟩
  | .ok .next, hq => exact False.elim hq
  | .ok .brk, hq => exact False.elim hq
  | .ok .cont, hq => exact False.elim hq
  | .error e, hq => exact False.elim hq
theorem pe_makeH {f : Addr} {fd : FuncData} {dvs : List V} {ds : List Value} (M : Mk X.K C f) (F : FnH X.prog X.w X.K X.mg X.base CX0 k f fd ps sp) (hr : RoomH (k + 1) X.A) (hc : HotC X) (hg : Gl X x) (hm : X.mg x = some (.ref C)) (hb : Binds X.K fd ps ds) (hd : Vals dvs ds)
    (ha : PA X (e :: es) t) (hdb : (x == ("__debug__" : Str)) = false := by decide) (he : starEach (e :: es) X.env = (false, eval e X.env) :: starEach es X.env := by rfl) (hpl : (backTo pos (starEach es X.env)).any (·.1) = false := by rfl) :
    PE X (.Call (.Name x p) (e :: es) [] pos) (tMake C sp dvs E0 t) := by
  refine ⟨fun ps2 s σ H Q I h => wpAny_Call_Name_kw (ld_glob I hg hm ?_ hdb)⟩
  exact PySem.W.callWith_K (h₀ := X.base) I.ok.mod.kin M.kp (thn (ha.run pos ps2 s σ H _ I h) fun us s1 ⟨vs, H1, I1, r, q⟩ => ⟨I1.kIn, run_makeH M F hr hc hb hd I1 r q⟩) he hpl
theorem pe_makeH0 {f : Addr} {fd : FuncData} {dvs : List V} {ds : List Value} (M : Mk X.K C f) (F : FnH X.prog X.w X.K X.mg X.base CX0 k f fd ps sp) (hr : RoomH (k + 1) X.A) (hc : HotC X) (hg : Gl X x) (hm : X.mg x = some (.ref C)) (hb : Binds X.K fd ps ds) (hd : Vals dvs ds)
    (hdb : (x == ("__debug__" : Str)) = false := by decide) : PE X (.Call (.Name x p) [] [] pos) (tMake C sp dvs E0 tNil) :=
  ⟨fun ps2 s σ H Q I h => wpAny_Call_Name_kw (ld_glob I hg hm (PySem.W.callWith_K0 I.kIn M.kp (run_makeH (us := []) M F hr hc hb hd I .nil h)) hdb)⟩
/-- e.m there, m a property -/
theorem pe_propH {g pa : Addr} {fd : FuncData} {m : Str} {ta : TE} (he : PE X e ta) (c : Cls X.K C) (hp : PropOf X.K C m pa g) (F : FnH X.prog X.w X.K X.mg X.base CX0 k g fd ["self"] sp) (hr : RoomH (k + 1) X.A) (hc : HotC X) (hb : Binds X.K fd ["self"] [])
    (hab : attributeBase e m X.env (eval e X.env) = eval e X.env := by rfl) : PE X (.Attribute e m pos) (tProp C sp [] E0 ta) := by
  refine ⟨fun ps2 s σ H Q I h => attr_of hab (thn (he.run ps2 s σ H _ I h) fun u s1 q1 => ?_)⟩
  obtain ⟨x, H1, I1, rx, a, dx, fs, rfl, ea, q⟩ := q1
  obtain rfl : u = Value.ref a := rx
  obtain ⟨mA, O, _, _, _, _⟩ := ins_get I1.hok ea
  obtain ⟨od, J, _⟩ := O.look
  obtain ⟨rest, hrec⟩ := hp.rec_
  have I2 := I1.tok (s1.toks + 1)
  have some_ : (PySem.W.clsIn X.K C).isSome = true := by
    obtain ⟨cd, z, _⟩ := PySem.W.any_some c.hd
    rw [z]
    rfl
  obtain ⟨p0, hot, hp0⟩ := hc
  have P1 := I2.pin p0 (List.mem_append_left _ hp0)
  have pin : PinOk X.stack _ _ p0 := ⟨P1.1, P1.2.1, fun hm => (List.mem_cons.mp (I2.stkSub p0.1 hm)).elim P1.2.2.1 P1.2.2.2.1, P1.2.2.2.2⟩
  have bd := hb { s1 with toks := s1.toks + 1 } [.ref a] I2.kIn rfl
  have go := F.run X.A.in1 X.stack { s1 with toks := s1.toks + 1 } H1 ⟨[.ref a], []⟩ [.ref a] [.ref a] Q E0 p0 (roomH_in1 hr) ⟨hot.1, hot.2⟩ pin I2.env0.in1 bd (.cons rfl .nil) q
  refine PySem.W.get_bind I1.kIn J (PySem.W.plainGet_of (c.get m)).1 (PySem.W.findObj_data some_ hp.at_ hp.get hp.tak) (PySem.W.plainGet_of (c.get m)).2 (wpAny_call (PySem.W.prop_get (s := { s1 with toks := s1.toks + 1 }) I1.kIn hrec (codeAny_mono go fun r s' hq => ?_)))
  match r, hq with
  | .ok (.ret u), hq =>
    obtain ⟨v, H', I3, rv, q3⟩ := I2.after hq
    show wpAny _ _ (handedOut u) _ _ _
    rw [PySem.W.handedOut_of (handed_of rv)]
    exact wpAny_pure ⟨v, H', I3, rv, q3⟩
  | .ok .next, hq => exact False.elim hq
  | .ok .brk, hq => exact False.elim hq
  | .ok .cont, hq => exact False.elim hq
  | .error e, hq => exact False.elim hq
end
end Gk
namespace Lw
open PySem L2 Gk
def topS (i : Nat) : Stmt := PySem.Challenge.pw_maskwrites_k09_masks_made.main.body.getD i (.Pass ⟨0, 0, 0, 0⟩)
abbrev sIsLetters : Stmt := topS 7
abbrev sIsName : Stmt := topS 8

structure TxtN (K : PySem.W.Frag) (mg : Str → Option Value) : Prop where
  z_isinstance : mg "isinstance" = none
  z_str : mg "str" = none
  z_len : mg "len" = none
  z_all : mg "all" = none
  v_LETTERS : ∃ t, mg "LETTERS" = some (.str LET t)
  v_MOST_NAME : ∃ t, mg "MOST_NAME" = some (.int 8 t)
section
variable {P : Program} {w : World} {K : PySem.W.Frag} {mg : Str → Option Value} {base : Heap}
theorem scIsLetters : FnScope ["value", "least", "most", "sign"] ["value", "least", "most"] (defScope sIsLetters) := ⟨rfl, rfl, rfl, by decide +kernel, rfl, by decide +kernel, by decide +kernel⟩
theorem ok_is_letters {f : Addr} {fd : FuncData} (F : Fun K "is_letters" "is_letters" sIsLetters f fd) (T : TxtN K mg) : FnOk P w K mg base CX0 1 f fd ["value", "least", "most"] (spIsLetters K) := by
  refine F.ok scIsLetters (fun vs H Q E h => ?_) (fun cdv A outer s H vs Q E hr h => ?_)
  · obtain ⟨v, lo, hi, rfl, _⟩ := h
    rfl
  · obtain ⟨v, lo, hi, rfl, h⟩ := h
    obtain ⟨tL, mL⟩ := T.v_LETTERS
    refine ⟨_, pss_one (ps_ret (pe_and (pe_callB call_isi (by rfl) T.z_isinstance (by decide +kernel) (pa_cons (pv 0) (pa_cons (pe_bltn (v := .ty "str") (by rfl) T.z_str (by decide +kernel) rfl) pa_nil)))
      (pe_and (pe_chain op_le op_le (pv 1) (pe_callB call_len (by rfl) T.z_len PySem.boot_len (pa_cons (pv 0) pa_nil)) (pv 2))
      (pe_one (pe_callB (cr_all rfl) (by rfl) T.z_all (by decide +kernel) (pa_cons (pe_lc (own := [("sign", 3)]) (g := gName 3) (tt := tYes) rfl scIsLetters.nd (pi_str (pv 0))
        (blkOk_by (N := ["value", "least", "most", "sign"]) (sc := defScope sIsLetters) (by decide +kernel)) (fun _ _ _ _ _ => pg_name (i := 3) scIsLetters.nd rfl (Or.inl rfl)) (fun _ _ _ _ _ => pts_nil)
        (fun _ _ _ _ _ => pe_cmpR op_in_sign (pv 3) (pe_glob (v := .str LET) (by rfl) mL ⟨_, rfl⟩) (by rfl))) pa_nil)))))), ?_⟩
    rcases h with ⟨x, rfl, hx, k⟩ | ⟨⟨t, ty, kit⟩, k⟩
    · refine ⟨_, rfl, _, _, _, _, true, rfl, .ty "str", .base (.str x), kit_ty (by decide +kernel), true, rfl, ?_⟩
      refine iteT ?_
      refine ⟨_, rfl, _, rfl, _, _, rfl, ⟨Nat.le_of_lt hx, rfl⟩, _, _, rfl, rfl, _, rfl, ?_⟩
      have fls : ∀ H2 : Hp, Kp T0 H H2 → isLet x lo hi = false → Q (.bl false) H2 := fun H2 k2 e => by
        have q := k H2 k2
        rw [e] at q
        exact q
      refine ite2 (fun h1 => ?_) (fun h1 => ?_)
      · refine ⟨_, rfl, _, _, rfl, rfl, _, rfl, ?_⟩
        refine ite2 (fun h2 => ?_) (fun h2 => ?_)
        · refine ⟨_, rfl, x, rfl, fun D hD => ?_⟩
          refine lc_kp (T := T0) walk_str (i0 := 3) (fun i v => ∃ c, x.cps[i]? = some c ∧ v = .str ⟨#[c]⟩) (fun i ys _ => ys.length = i ∧ ∀ (j : Nat) v, ys[j]? = some v → ∃ b, v = .bl b ∧ ∃ c, x.cps[j]? = some c ∧ b = decide (c ∈ LET.cps.toList))
            (fun i H1 v H2 _ y => y) hD id hx (wipe1 _ 3) (fun _ _ => True.intro) ⟨rfl, fun j v e => by simp at e⟩ (fun i v ys H1 Ky Kn hi sx _ _ p ky _ => ?_) (fun ys H1 k1 d1 _ p => ?_)
          · obtain ⟨c, hc, rfl⟩ := sx
            refine yes_ ?_
            refine ⟨_, rfl, c, LET, rfl, rfl, ky _ _ (Kp.refl _) ⟨by rw [List.length_append, p.1]; rfl, snoc_at p.2 ⟨_, rfl, c, by rw [p.1]; exact hc, rfl⟩⟩⟩
          · obtain ⟨bs, eb, lb, hb⟩ := bools_of p.2
            refine ⟨D, bs, rfl, SqL.of (by rw [d1, eb]), ?_⟩
            have q := k H1 k1
            have ea := all_seq (fun c => decide (c ∈ LET.cps.toList)) x bs (lb.trans p.1) hb
            unfold isLet at q
            rw [h1, h2, Bool.true_and, Bool.true_and, ← ea] at q
            exact q
        · exact fls H (Kp.refl H) (by unfold isLet; rw [(Bool.not_eq_true _).mp h2, Bool.and_false, Bool.false_and])
      · exact ⟨false, rfl, iteF (fls H (Kp.refl H) (by unfold isLet; rw [(Bool.not_eq_true _).mp h1, Bool.false_and, Bool.false_and]))⟩
    · refine ⟨_, rfl, _, _, _, _, false, rfl, .ty "str", ty, kit, false, rfl, ?_⟩
      exact iteF k
theorem scIsName : FnScope ["value"] ["value"] (defScope sIsName) := ⟨rfl, rfl, rfl, by decide +kernel, rfl, by decide +kernel, by decide +kernel⟩
theorem ok_is_name {f fL : Addr} {fd : FuncData} (F : Fun K "is_name" "is_name" sIsName f fd) (T : TxtN K mg) (DL : Df P w K mg base 1 fL "is_letters" ["value", "least", "most"] (spIsLetters K)) :
    FnOk P w K mg base CX0 2 f fd ["value"] (spIsName K) := by
  refine F.ok scIsName (fun vs H Q E h => ?_) (fun cdv A outer s H vs Q E hr h => ?_)
  · obtain ⟨v, r, rfl, _⟩ := h
    rfl
  · obtain ⟨v, r, rfl, it, k⟩ := h
    obtain ⟨tM, mM⟩ := T.v_MOST_NAME
    refine ⟨_, pss_one (ps_ret (pe_df DL hr (by rfl) (pa_cons (pv 0) (pa_cons pe_int (pa_cons (pe_glob (v := .int 8) (by rfl) mM ⟨_, rfl⟩) pa_nil))))), ?_⟩
    refine ⟨_, rfl, _, 1, 8, rfl, ?_⟩
    rcases it with ⟨x, rfl, hx, rfl⟩ | ⟨ns, rfl⟩
    · exact .inl ⟨x, rfl, hx, k⟩
    · exact .inr ⟨ns, k H (Kp.refl H)⟩
end
end Lw
namespace Lw
open PySem L2 Gk
abbrev sIsRow : Stmt := topS 10
abbrev sBegins : Stmt := topS 11
abbrev sCovers : Stmt := topS 12
structure TxtR (mg : Str → Option Value) : Prop where
  z_isinstance : mg "isinstance" = none
  z_tuple : mg "tuple" = none
  z_len : mg "len" = none
  z_all : mg "all" = none
  z_any : mg "any" = none
section
variable {P : Program} {w : World} {K : PySem.W.Frag} {mg : Str → Option Value} {base : Heap}
theorem scIsRow : FnScope ["value", "name"] ["value"] (defScope sIsRow) := ⟨rfl, rfl, rfl, by decide +kernel, rfl, by decide +kernel, by decide +kernel⟩
theorem ok_is_row {f fN : Addr} {fd : FuncData} (F : Fun K "is_row" "is_row" sIsRow f fd) (T : TxtR mg) (DN : Df P w K mg base 2 fN "is_name" ["value"] (spIsName K)) :
    FnOk P w K mg base CX0 3 f fd ["value"] (spIsRow K) := by
  refine F.ok scIsRow (fun vs H Q E h => ?_) (fun cdv A outer s H vs Q E hr h => ?_)
  · obtain ⟨v, r, rfl, _⟩ := h
    rfl
  · obtain ⟨v, r, rfl, h, k⟩ := h
    refine ⟨_, pss_one (ps_ret (pe_and (pe_callB call_isi (by rfl) T.z_isinstance (by decide +kernel) (pa_cons (pv 0) (pa_cons (pe_bltn (v := .ty "tuple") (by rfl) T.z_tuple (by decide +kernel) rfl) pa_nil)))
      (pe_and (pe_cmpR op_neL (pv 0) (pe_tup pa_nil) (nomark _))
      (pe_one (pe_callB (cr_all rfl) (by rfl) T.z_all (by decide +kernel) (pa_cons (pe_lc (own := [("name", 1)]) (g := gName 1) (tt := tYes) rfl scIsRow.nd (pi_tup (pv 0))
        (blkOk_by (N := ["value", "name"]) (sc := defScope sIsRow) (by decide +kernel)) (fun _ _ _ _ _ => pg_name (i := 1) scIsRow.nd rfl (Or.inl rfl)) (fun _ _ _ _ _ => pts_nil)
        (fun _ _ _ _ _ => pe_df DN hr (by rfl) (pa_cons (pv 1) pa_nil))) pa_nil)))))), ?_⟩
    rcases h with ⟨a, xs, rs, ds, rfl, ha, it, dp, lay, lx, rfl⟩ | ⟨⟨t, ty, kit⟩, rfl⟩
    · refine ⟨_, rfl, _, _, _, _, true, rfl, .ty "tuple", .base (.tup ha), kit_ty (by decide +kernel), true, rfl, ?_⟩
      refine iteT ?_
      refine ⟨_, rfl, Nat.zero_le _, fun e0 he0 => ?_⟩
      have k0 : Kp T0 H (upd H e0 (.tup [])) := (Kp.refl H).new he0
      have hU := hr.units
      refine ⟨.tuple ds, .tuple [], .tup (SqT.of (k0.at0 ha)) ?_, .tup (SqT.of upd_same) .nil, lay, rfl, ?_, _, rfl, ?_⟩
      · exact dpAll_keep dp k0
      · have e1 : PyData.depth (.tuple []) = 1 := rfl
        rw [e1]
        exact Nat.lt_of_le_of_lt (Nat.add_le_add_left (Nat.le_trans (Nat.min_le_right _ _) (by decide : 1 ≤ 64)) _) hU
      · rw [eqv_nil]
        have eE : ds.isEmpty = xs.isEmpty := by
          cases dp <;> rfl
        rw [eE]
        cases ex : xs.isEmpty with
        | true =>
          refine iteF ?_
          have q := k _ k0
          rw [ex] at q
          exact q
        | false =>
          refine iteT ?_
          refine ⟨_, rfl, a, rfl, ⟨xs, SqT.of (k0.at0 ha)⟩, fun D hD => ?_⟩
          refine lc_kp (T := T0) (walk_tup (xs := xs)) (i0 := 1) (fun i v => xs[i]? = some v) (fun i ys _ => ys.length = i ∧ ∀ (j : Nat) v, ys[j]? = some v → ∃ b, v = .bl b ∧ rs[j]? = some b)
            (fun i H1 v H2 _ y => y) hD id lx (wipe1 _ 1) (fun H1 k1 => SqT.of (k1.at0 (k0.at0 ha))) ⟨rfl, fun j v e => by simp at e⟩ (fun i v ys H1 Ky Kn hi sx k1 _ p ky _ => ?_) (fun ys H1 k1 d1 _ p => ?_)
          · refine yes_ ?_
            obtain ⟨b, hb, iv⟩ := paired_get it sx
            refine ⟨_, rfl, v, b, rfl, iv.keep0 (k0.trans k1), fun H3 k3 => ky _ _ k3 ⟨by rw [List.length_append, p.1]; rfl, snoc_at p.2 ⟨b, rfl, by rw [p.1]; exact hb⟩⟩⟩
          · obtain ⟨bs, eb, lb, hb⟩ := bools_of p.2
            refine ⟨D, bs, rfl, SqL.of (by rw [d1, eb]), ?_⟩
            have eq : bs = rs := by
              have l1 : rs.length = xs.length := (Paired.length it).symm
              refine List.ext_getElem (by rw [lb, p.1, l1]) fun j h1 h2 => ?_
              have q := hb j bs[j] (List.getElem?_eq_getElem h1)
              rw [List.getElem?_eq_getElem h2] at q
              exact (Option.some.inj q).symm
            rw [eq]
            have q := k H1 (k0.trans k1)
            rw [ex] at q
            exact q
    · refine ⟨_, rfl, _, _, _, _, false, rfl, .ty "tuple", ty, kit, false, rfl, ?_⟩
      exact iteF (k H (Kp.refl H))
theorem scBegins : FnScope ["path", "front"] ["path", "front"] (defScope sBegins) := ⟨rfl, rfl, rfl, by decide +kernel, rfl, by decide +kernel, by decide +kernel⟩
theorem ok_begins {f : Addr} {fd : FuncData} (F : Fun K "begins" "begins" sBegins f fd) (T : TxtR mg) : FnOk P w K mg base CX0 1 f fd ["path", "front"] spBegins := by
  refine F.ok scBegins (fun vs H Q E h => ?_) (fun cdv A outer s H vs Q E hr h => ?_)
  · obtain ⟨v, u, p, f, rfl, _⟩ := h
    rfl
  · obtain ⟨v, u, p, f, rfl, ⟨a, rfl, ha⟩, ⟨b, rfl, hb⟩, op, of, k⟩ := h
    refine ⟨_, pss_one (ps_ret (pe_cmpR (op_eqD hr.units) (pe_slice sl_tupA (pv 0) po_none (po_some (pe_callB call_len (by rfl) T.z_len PySem.boot_len (pa_cons (pv 1) pa_nil)))) (pv 1) (nomark _))), ?_⟩
    have l0 : (p.map V.str).length = p.length := List.length_map _
    have fin : ∀ (c : Addr) (H2 : Hp), Kp T0 H H2 → H2 c = some (.tup ((p.take f.length).map V.str)) → rEqD K (.ref c) (.ref b) H2 Q := by
      intro c H2 k2 hc
      refine ⟨dP (p.take f.length), dP f, IsP.dp ⟨c, rfl, hc⟩, IsP.dp ⟨b, rfl, k2.at0 hb⟩, shaped_dP (op.take _), shaped_dP of, ?_⟩
      rw [eqv_dP]
      exact k H2 k2
    refine ⟨_, rfl, _, rfl, _, (f.length : Nat), rfl, .inr ⟨_, SqT.of hb, by rw [List.length_map]⟩, _, rfl, a, _, rfl, SqT.of ha, fun z => ?_, fun z c hc => ?_⟩
    · refine ⟨_, rfl, fin a H (Kp.refl H) ?_⟩
      rw [← cut_whole z.2] at ha
      rw [List.map_take]
      exact ha
    · refine ⟨_, rfl, fin c _ ((Kp.refl H).new hc) ?_⟩
      rw [upd_same, cut_take, List.map_take]
theorem scCovers : FnScope ["paths", "path", "front"] ["paths", "path"] (defScope sCovers) := ⟨rfl, rfl, rfl, by decide +kernel, rfl, by decide +kernel, by decide +kernel⟩
theorem ok_covers {f fB : Addr} {fd : FuncData} (F : Fun K "covers" "covers" sCovers f fd) (T : TxtR mg) (DB : Df P w K mg base 1 fB "begins" ["path", "front"] spBegins) : FnOk P w K mg base CX0 2 f fd ["paths", "path"] spCovers := by
  refine F.ok scCovers (fun vs H Q E h => ?_) (fun cdv A outer s H vs Q E hr h => ?_)
  · obtain ⟨a, xs, ps, v, p, rfl, _⟩ := h
    rfl
  · obtain ⟨a, xs, ps, v, p, rfl, ha, hps, lx, ops, hv, op, k⟩ := h
    refine ⟨_, pss_one (ps_ret (pe_callB (cr_any rfl) (by rfl) T.z_any (by decide +kernel) (pa_cons (pe_lc (own := [("front", 2)]) (g := gName 2) (tt := tYes) rfl scCovers.nd (pi_tup (pv 0))
        (blkOk_by (N := ["paths", "path", "front"]) (sc := defScope sCovers) (by decide +kernel)) (fun _ _ _ _ _ => pg_name (i := 2) scCovers.nd rfl (Or.inl rfl)) (fun _ _ _ _ _ => pts_nil)
        (fun _ _ _ _ _ => pe_df DB hr (by rfl) (pa_cons (pv 1) (pa_cons (pv 2) pa_nil)))) pa_nil))), ?_⟩
    refine ⟨_, rfl, a, rfl, ⟨xs, SqT.of ha⟩, fun D hD => ?_⟩
    refine lc_kp (T := T0) (walk_tup (xs := xs)) (i0 := 2) (fun i v => xs[i]? = some v) (fun i ys _ => ys.length = i ∧ ∀ (j : Nat) v, ys[j]? = some v → ∃ b, v = .bl b ∧ ∃ f, ps[j]? = some f ∧ b = beginsP p f)
      (fun i H1 v H2 _ y => y) hD id lx (wipe1 _ 2) (fun H1 k1 => SqT.of (k1.at0 ha)) ⟨rfl, fun j v e => by simp at e⟩ (fun i u ys H1 Ky Kn hi sx k1 _ q ky _ => ?_) (fun ys H1 k1 d1 _ q => ?_)
    · refine yes_ ?_
      obtain ⟨g, hg, ig⟩ := Ps.get hps sx
      refine ⟨_, rfl, _, rfl, v, u, p, g, rfl, hv.keep0 k1, ig.keep0 k1, op, ops g (List.mem_of_getElem? hg), fun H3 k3 => ky _ _ k3 ⟨by rw [List.length_append, q.1]; rfl, snoc_at q.2 ⟨_, rfl, g, by rw [q.1]; exact hg, rfl⟩⟩⟩
    · obtain ⟨bs, eb, lb, hb⟩ := bools_of q.2
      refine ⟨D, bs, rfl, SqL.of (by rw [d1, eb]), ?_⟩
      have eq : bs = ps.map (beginsP p) := by
        have l1 : ps.length = xs.length := (Paired.length hps).symm
        refine List.ext_getElem (by rw [lb, q.1, List.length_map, l1]) fun j h1 h2 => ?_
        obtain ⟨f, hf, e⟩ := hb j bs[j] (List.getElem?_eq_getElem h1)
        rw [e, List.getElem_map]
        rw [List.length_map] at h2
        rw [List.getElem?_eq_getElem h2] at hf
        rw [Option.some.inj hf]
      rw [eq, List.any_map]
      exact k H1 k1
end
end Lw
namespace Lw
open PySem L2 Gk
abbrev sFewest : Stmt := topS 13
structure TxtF (mg : Str → Option Value) : Prop where
  z_sorted : mg "sorted" = none
  z_any : mg "any" = none
theorem boot_any : bootBuiltins "any" = some (.builtin "any") := by decide +kernel
section
variable {P : Program} {w : World} {K : PySem.W.Frag} {mg : Str → Option Value} {base : Heap}
theorem scFewest : FnScope ["paths", "some", "path", "front"] ["paths"] (defScope sFewest) := ⟨rfl, rfl, rfl, by decide +kernel, rfl, by decide +kernel, by decide +kernel⟩
theorem ok_fewest {f fB : Addr} {fd : FuncData} (F : Fun K "fewest" "fewest" sFewest f fd) (T : TxtF mg) (DB : Df P w K mg base 1 fB "begins" ["path", "front"] spBegins) : FnOk P w K mg base CX0 2 f fd ["paths"] (spFewest K) := by
  refine F.ok scFewest (fun vs H Q E h => ?_) (fun cdv A outer s H vs Q E hr h => ?_)
  · obtain ⟨a, xs, ps, rfl, _⟩ := h
    rfl
  · obtain ⟨a, xs, ps, rfl, ⟨hsq, hps, okp⟩, lx, k⟩ := h
    refine ⟨_, pss_cons (ps_set (i := 1) scFewest.nd rfl (Or.inr rfl) (pe_callB (cr_sortedDT rfl) (by rfl) T.z_sorted (by decide +kernel) (pa_cons (pe_dcG (new := .dT []) (t := stT) (own := [("path", 2)]) (g := gName 2) (tt := tYes)
        (storeT hr.units0) rfl scFewest.nd (pi_or (pi_list (pv 0)) (pi_tup (pv 0))) (blkOk_by (N := ["paths", "some", "path", "front"]) (sc := defScope sFewest) (by decide +kernel)) (fun _ _ _ _ _ => pg_name (i := 2) scFewest.nd rfl (Or.inl rfl))
        (fun _ _ _ _ _ => pts_nil) (fun _ _ _ _ _ => pv 2) (fun _ _ _ _ _ => pe_bl)) pa_nil)))
      (pss_one (ps_ret (pe_lc (own := [("path", 2)]) (g := gName 2) rfl scFewest.nd (pi_list (pv 1)) (blkOk_by (N := ["paths", "some", "path", "front"]) (sc := defScope sFewest) (by decide +kernel)) (fun _ _ _ _ _ => pg_name (i := 2) scFewest.nd rfl (Or.inr rfl))
        (fun _ _ _ _ _ => pts_one (pt_not (pt_val (pe_callB (r := rAny K) (id := "any") (cr_any rfl) (by rfl) T.z_any boot_any (pa_cons (pe_lc (wi := iList K (tVar 1)) (own := [("front", 3)]) (g := gName 3) (tt := tYes) rfl scFewest.nd (pi_list (pv 1))
          (blkOk_in (N := ["paths", "some", "path", "front"]) (outer := defScope sFewest) rfl (by decide +kernel)) (fun _ _ _ _ _ => pg_name (i := 3) scFewest.nd rfl (Or.inl rfl)) (fun _ _ _ _ _ => pts_nil)
          (fun _ _ _ _ _ => pe_and (pe_cmpR (r := rNeD K) (op_neD hr.units) (pv 2) (pv 3) (nomark _)) (pe_one (pe_df DB hr (by rfl) (pa_cons (pv 2) (pa_cons (pv 3) pa_nil)))))) pa_nil)))))
        (fun _ _ _ _ _ => pv 2)))), ?_⟩
    -- the dict
    have dict : ∀ (J : It) (G : Hp → Prop), Walk J xs.length G (YAt xs) → (∀ H2, Kp T0 H H2 → G H2) → ∀ D, H D = none → ∀ Qd : Hp → Prop,
        (∀ (H2 : Hp) (kvs : List (List L2.Key × V)) (ks : List Pth), Kp T0 H H2 → H2 D = some (.dT kvs) → kvs.map (·.1) = ks.map (List.map Sum.inr) → ks.Nodup → (∀ p, p ∈ ks ↔ p ∈ ps) → kvs.length ≤ xs.length → Qd H2) →
        ∃ W : Nat → Nat → Hp → Prop, (∃ m, W 0 m (upd H D (.dT []))) ∧ ∀ i m Ha, W i m Ha →
          (J.stop i Ha ∧ Qd Ha) ∨ (J.go i Ha ∧ ∃ Nx : Hp → Prop, (∀ Hb, Nx Hb → ∃ m2, m2 < m ∧ W (i + 1) m2 Hb) ∧ ∀ x Hb, J.yld i Ha x Hb →
            gName 2 x (wipe (L2.start ["paths", "some", "path", "front"] [V.ref a]) [2]) Hb fun st2 H2 => wipe st2 [2] = wipe (L2.start ["paths", "some", "path", "front"] [V.ref a]) [2] ∧ tYes st2 H2 fun b H3 =>
              if b = true then tVar 2 st2 H3 fun y H4 => tC (.bl true) st2 H4 fun z H5 => stT D y z H5 Nx else Nx H3) := by
      intro J G wk hG D hD Qd fin
      refine dc_it wk (fun i H2 => ∃ (kvs : List (List L2.Key × V)) (ks : List Pth), Kp T0 H H2 ∧ H2 D = some (.dT kvs) ∧ kvs.map (·.1) = ks.map (List.map Sum.inr) ∧ ks.Nodup ∧ (∀ p, p ∈ ks ↔ p ∈ ps.take i) ∧ kvs.length ≤ i)
        ⟨[], [], (Kp.refl H).over hD, upd_same, rfl, List.nodup_nil, fun p => by rw [List.take_zero], Nat.le_refl _⟩ (fun i H2 _ q => ?_) (fun i x H2 H3 hi q y => ?_) (fun H2 q => ?_)
      · obtain ⟨kvs, ks, k2, _⟩ := q
        exact hG H2 k2
      · obtain ⟨kvs, ks, k2, d2, e2, nd, mm, l2⟩ := q
        obtain ⟨rfl, hx⟩ := y
        obtain ⟨p, hp, b, rfl, hb⟩ := Ps.get hps hx
        refine ⟨wipe1 _ 2 _, ?_⟩
        refine yes_ ?_
        refine ⟨_, rfl, b, kvs, p.map Sum.inr, rfl, ?_, d2, by omega, ?_⟩
        · rw [List.map_map]
          exact k2.at0 hb
        · obtain ⟨ks2, e3, nd3, m3⟩ := keys_step p (.bl true) e2 nd
          refine ⟨_, ks2, k2.over hD, upd_same, e3, nd3, fun q => ?_, ?_⟩
          · rw [m3, mm, mem_take_succ hp]
          · have := length_putK kvs (p.map Sum.inr) (.bl true)
            omega
      · obtain ⟨kvs, ks, k2, d2, e2, nd, mm, l2⟩ := q
        refine fin H2 kvs ks k2 d2 e2 nd (fun p => ?_) l2
        have lp : ps.length = xs.length := (Paired.length hps).symm
        rw [mm, ← lp, List.take_length]
    have read : ∀ Q0 : VK, (∀ (D : Addr) (H2 : Hp) (kvs : List (List L2.Key × V)) (ks : List Pth), H D = none → Kp T0 H H2 → H2 D = some (.dT kvs) → kvs.map (·.1) = ks.map (List.map Sum.inr) → ks.Nodup → (∀ p, p ∈ ks ↔ p ∈ ps) → kvs.length ≤ xs.length → Q0 (.ref D) H2) →
        tDcG (.dT []) stT (fun st H R => iList K (tVar 0) st H R ∨ iTup K (tVar 0) st H R) (gName 2) tYes (tVar 2) (tC (.bl true)) [2] (L2.start ["paths", "some", "path", "front"] [V.ref a]) H Q0 := by
      intro Q0 fin
      rcases hsq with h | h
      · exact .inl ⟨_, rfl, a, rfl, ⟨xs, h⟩, fun D hD => dict _ _ walk_list (fun H2 k2 => SqL.ext h fun b o e => k2.at0 e) D hD _ fun H2 kvs ks => fin D H2 kvs ks hD⟩
      · exact .inr ⟨_, rfl, a, rfl, ⟨xs, h⟩, fun D hD => dict _ _ walk_tup (fun H2 k2 => SqT.ext h fun b o e => k2.at0 e) D hD _ fun H2 kvs ks => fin D H2 kvs ks hD⟩
    unfold tSeq tAsg tCB tCons tNil
    refine read _ (fun D H2 kvs ks hD k2 d2 e2 nd mm l2 => ?_)
    have okk : ∀ p ∈ ks, OkP p ∧ p ≠ [] := fun p hp => okp p ((mm p).mp hp)
    refine ⟨D, kvs, ks, rfl, d2, e2, fun p hp => (okk p hp).2, fun bs l perm srt hat hl => ?_⟩
    -- some: the list at l
    have kl : Kp T0 H2 (upd H2 l (.lst (bs.map fun b => V.ref b.1))) := (Kp.refl H2).new hl
    generalize eH : upd H2 l (.lst (bs.map fun b => V.ref b.1)) = H3 at kl
    have dl : H3 l = some (.lst (bs.map fun b => V.ref b.1)) := by rw [← eH]; exact upd_same
    have hps3 : Ps H3 (bs.map fun b => V.ref b.1) (bs.map (·.2)) := by
      have gen : ∀ cs : List (Addr × Pth), (∀ b ∈ cs, H2 b.1 = some (.tup (b.2.map V.str))) → Ps H3 (cs.map fun b => V.ref b.1) (cs.map (·.2)) := by
        intro cs
        induction cs with
        | nil => intro _; exact .nil
        | cons c cs ih => exact fun h => .cons ⟨c.1, rfl, kl.at0 (h c List.mem_cons_self)⟩ (ih fun b hb => h b (List.mem_cons_of_mem _ hb))
      exact gen bs hat
    generalize eX : (bs.map fun b => V.ref b.1) = zs at dl hps3 kl
    have nd2 : (bs.map (·.2)).Nodup := perm.nodup_iff.mpr nd
    have asc : Asc (bs.map (·.2)) := asc_of nd2 (List.pairwise_map.mpr srt)
    have same : ∀ p, p ∈ bs.map (·.2) ↔ p ∈ ps := fun p => perm.mem_iff.trans (mm p)
    have lz : zs.length ≤ xs.length := by
      have h1 := Paired.length hps3
      have h2 := perm.length_eq
      have h3 := congrArg List.length e2
      rw [List.length_map, List.length_map] at h3
      omega
    generalize eK : bs.map (·.2) = qs at hps3 asc same
    have okq : ∀ p ∈ qs, OkP p := fun p hp => (okp p ((same p).mp hp)).1
    refine ⟨_, rfl, l, rfl, ⟨zs, SqL.of dl⟩, fun R hR => ?_⟩
    refine lc_kp (T := T0) (walk_list (xs := zs)) (i0 := 2) (fun i v => zs[i]? = some v) (fun i ys _ => ∃ rs, Ps H3 ys rs ∧ rs = (qs.take i).filter (keepP qs))
      (fun i H1 v H2 _ y => y) hR id (by omega) (wipe1 _ 2) (fun H1 k1 => SqL.of (k1.at0 dl)) ⟨[], .nil, rfl⟩ (fun i v ys H1 Ky Kn hi sx k1 _ q ky kn => ?_) (fun ys H1 k1 d1 ly q => ?_)
    · obtain ⟨p, hp, ip⟩ := Ps.get hps3 sx
      have op := okq p (List.mem_of_getElem? hp)
      refine ⟨_, rfl, l, rfl, ⟨zs, SqL.of (k1.at0 dl)⟩, fun R2 hR2 => ?_⟩
      refine lc_kp (T := T0) (walk_list (xs := zs)) (i0 := 3) (fun i v => zs[i]? = some v) (fun i ys _ => ys.length = i ∧ ∀ (j : Nat) v, ys[j]? = some v → ∃ b, v = .bl b ∧ ∃ f, qs[j]? = some f ∧ b = (decide (p ≠ f) && beginsP p f))
        (fun i H1 v H2 _ y => y) hR2 id (by omega) (wipe1 _ 3) (fun H2 k2 => SqL.of (k2.at0 (k1.at0 dl))) ⟨rfl, fun j v e => by simp at e⟩ (fun j u us H2 Ly Ln hj su k4 _ q2 ly _ => ?_) (fun us H2 k4 d4 _ q2 => ?_)
      · refine yes_ ?_
        obtain ⟨g, hg, ig⟩ := Ps.get hps3 su
        have og := okq g (List.mem_of_getElem? hg)
        have k5 := k1.trans k4
        refine ⟨_, rfl, _, rfl, dP p, dP g, (ip.keep0 k5).dp, (ig.keep0 k5).dp, shaped_dP op, shaped_dP og, _, rfl, ?_⟩
        rw [eqv_dP]
        have done : ∀ (b : Bool) H4, Kp T0 H2 H4 → b = (decide (p ≠ g) && beginsP p g) → Ly (.bl b) H4 := fun b H4 k6 e =>
          ly _ _ k6 ⟨by rw [List.length_append, q2.1]; rfl, snoc_at q2.2 ⟨b, rfl, g, by rw [q2.1]; exact hg, e⟩⟩
        by_cases e : p = g
        · rw [decide_eq_true e]
          refine iteF (done false _ (Kp.refl _) ?_)
          rw [decide_eq_false (fun z : p ≠ g => z e)] <;> rfl
        · rw [decide_eq_false e]
          refine iteT ?_
          refine ⟨_, rfl, _, rfl, v, u, p, g, rfl, ip.keep0 k5, ig.keep0 k5, op, og, fun H4 k6 => done _ _ k6 ?_⟩
          rw [decide_eq_true (show p ≠ g from e), Bool.true_and]
      · obtain ⟨cs, ec, lc, hb⟩ := bools_of q2.2
        refine ⟨R2, cs, rfl, SqL.of (by rw [d4, ec]), _, rfl, ?_⟩
        have eq : cs = qs.map fun f => decide (p ≠ f) && beginsP p f := by
          have l1 : qs.length = zs.length := (Paired.length hps3).symm
          refine List.ext_getElem (by rw [lc, q2.1, List.length_map, l1]) fun j h1 h2 => ?_
          obtain ⟨f, hf, e⟩ := hb j cs[j] (List.getElem?_eq_getElem h1)
          rw [e, List.getElem_map]
          rw [List.length_map] at h2
          rw [List.getElem?_eq_getElem h2] at hf
          rw [Option.some.inj hf]
        have ek : (!cs.any id) = keepP qs p := by
          rw [eq, List.any_map] <;> rfl
        show (if (!cs.any id) = true then tVar 2 _ H2 Ky else Kn H2)
        rw [ek]
        obtain ⟨rs, hrs, er⟩ := q
        have nx := take_succ_filter hp (keepP qs)
        cases e : keepP qs p with
        | true =>
          rw [e, if_pos rfl, ← er] at nx
          exact iteT ⟨_, rfl, ky _ _ k4 ⟨rs ++ [p], hrs.snoc ip, nx.symm⟩⟩
        | false =>
          rw [e, if_neg Bool.false_ne_true, ← er] at nx
          exact iteF (kn _ k4 ⟨rs, hrs, nx.symm⟩)
    · obtain ⟨rs, hrs, er⟩ := q
      have l1 : qs.length = zs.length := (Paired.length hps3).symm
      rw [← l1, List.take_length] at er
      subst er
      refine k H1 R ys _ ((k2.trans kl).trans k1) ?_ d1 (hrs.keep0 k1) (by omega) (canon_fewest asc same)
      exact (k2.trans kl).free hR
end
end Lw
namespace Lw
open PySem L2 Gk
abbrev sInit : Stmt := inClass (topS 14) 0
abbrev sEq : Stmt := inClass (topS 14) 4
structure TxtM (K : PySem.W.Frag) (mg : Str → Option Value) (C : Addr) : Prop where
  z_isinstance : mg "isinstance" = none
  z_tuple : mg "tuple" = none
  z_all : mg "all" = none
  cl : Cls K C
  nR : NoAttr K C "rows"
  mgC : mg "Mask" = some (.ref C)
  cha : PySem.W.findIn K (.ref C) "__class__" = some (some (.builtin "object.__class__"))
  chn : PySem.W.specialIn K (.builtin "object.__class__") "__get__" = some (some (.builtin "getset_descriptor.__get__"))
  cht : PySem.W.takesIn K (.builtin "object.__class__") = some true
  chm : PySem.W.mroIn K C (.type "object") = some true
theorem boot_tuple : bootBuiltins "tuple" = some (.type "tuple") := by decide +kernel
section
variable {P : Program} {w : World} {K : PySem.W.Frag} {mg : Str → Option Value} {base : Heap} {C : Addr}
theorem scInit : FnScope ["self", "paths", "path"] ["self", "paths"] (defScope sInit) := ⟨rfl, rfl, rfl, by decide +kernel, rfl, by decide +kernel, by decide +kernel⟩
theorem ok_init {f fR fF : Addr} {fd : FuncData} {dvs : List V} (F : FunD K "__init__" "Mask.__init__" (defArgs sInit) (defBody sInit) (defScope sInit) dvs [] f fd) (T : TxtM K mg C)
    (DR : Df P w K mg base 3 fR "is_row" ["value"] (spIsRow K)) (DF : Df P w K mg base 2 fF "fewest" ["paths"] (spFewest K)) : FnOk P w K mg base CX0 4 f fd ["self", "paths"] (spInit K C) := by
  refine F.ok scInit (fun vs H Q E h => ?_) (fun cdv A outer s H vs Q E hr h => ?_)
  · obtain ⟨x, dx, a, xs, ps, rfl, _⟩ := h
    rfl
  · obtain ⟨x, dx, a, xs, ps, rfl, hx, hsq, lx, k⟩ := h
    refine ⟨_, PSs.nox (pss_cons (ps_for PassesOwn.never rfl (pi_or (pi_list (pv 1)) (pi_tup (pv 1))) (pg_name (i := 2) scInit.nd rfl (Or.inl rfl))
        (pss_one (ps_if (pt_not (pt_val (pe_df DR hr (by rfl) (pa_cons (pv 2) pa_nil)))) (pss_one ps_never) pss_nil)))
      (pss_one (ps_fld (pv 0) (pe_callTy call_tuple_of (by rfl) T.z_tuple boot_tuple (pa_cons (pe_df DF (hr.mono (by decide)) (by rfl) (pa_cons (pv 1) pa_nil)) pa_nil)) rfl))), ?_⟩
    have mm : xs.length < sizeLine := Nat.lt_of_le_of_lt lx most_line
    refine for_seq (T := T0) rfl hsq.1 id (fun _ st H2 => Kp T0 H H2 ∧ ∃ o : Option V, st = [some (.ref x), some (.ref a), o]) ⟨Kp.refl H, none, rfl⟩ (fun _ _ _ p => p.1) (fun i v st H2 hi p => ?_) (fun st H2 p => ?_)
    · obtain ⟨k2, o, rfl⟩ := p
      obtain ⟨p, hp, ip⟩ := Ps.get hsq.2.1 hi
      obtain ⟨o1, o2⟩ := hsq.2.2 p (List.mem_of_getElem? hp)
      refine ⟨_, rfl, ?_⟩
      dsimp only [tNil]
      refine row_of (ip.keep0 k2) o1 o2 fun H3 k3 => ⟨true, rfl, ?_⟩
      exact iteF ⟨k2.trans k3, some v, rfl⟩
    · obtain ⟨k2, o, rfl⟩ := p
      refine ⟨_, rfl, a, xs, ps, rfl, hsq.keep0 k2, mm, fun H3 l ys qs k3 hl dl hys ly c => ?_⟩
      refine ⟨l, ys, rfl, .inl ⟨SqL.of dl, fun r hr0 => ?_⟩⟩
      have k4 : Kp T0 H (upd H3 r (.tup ys)) := (k2.trans k3).new hr0
      refine ⟨_, rfl, x, C, dx, [], rfl, k4.at0 hx, T.cl, T.nR, (by show 0 < 1000; decide), ?_⟩
      rw [putF_nil]
      have nrx : r ≠ x := fun z => by
        have q := (k2.trans k3).at0 hx
        rw [← z, hr0] at q
        cases q
      refine k _ qs (k4.wide.put rfl) ⟨x, dx, r, ys, rfl, upd_same, ?_, ?_, by omega, fun q hq => hsq.2.2 q (c.sub hq), ps, c⟩ ?_ c
      · rw [upd_ne nrx, upd_same]
      · refine hys.keep (T := fun b => b = x) ((Kp.refl H3).new hr0 |>.put rfl) fun b o e q z => ?_
        subst e
        rw [(k2.trans k3).at0 hx] at q
        cases q
        exact fun e => nomatch e
      · rw [← Paired.length hys]
        exact ly
theorem scEq : FnScope ["self", "other"] ["self", "other"] (defScope sEq) := ⟨rfl, rfl, rfl, by decide +kernel, rfl, by decide +kernel, by decide +kernel⟩
theorem ok_eq {f : Addr} {fd : FuncData} (F : Fun K "__eq__" "Mask.__eq__" sEq f fd) (T : TxtM K mg C) : FnOk P w K mg base CX0 1 f fd ["self", "other"] (spEqM C) := by
  refine F.ok scEq (fun vs H Q E h => ?_) (fun cdv A outer s H vs Q E hr h => ?_)
  · obtain ⟨v, u, qs, rs, rfl, _⟩ := h
    rfl
  · obtain ⟨v, u, qs, rs, rfl, ⟨x, dx, r, ys, rfl, hx, hr1, hp, l, o, c⟩, ⟨x2, dx2, r2, ys2, rfl, hx2, hr2, hp2, l2, o2, c2⟩, k⟩ := h
    refine ⟨_, pss_one (ps_ret (pe_and (pe_callB call_isi (by rfl) T.z_isinstance (by decide +kernel) (pa_cons (pv 1) (pa_cons (pe_glob (v := .ref C) (by rfl) T.mgC rfl) pa_nil)))
      (pe_one (pe_cmpR (op_eqD hr.units) (pe_fld (pv 0) rfl) (pe_fld (pv 1) rfl) (nomark _))))), ?_⟩
    refine ⟨_, rfl, _, _, _, _, true, rfl, .own C, .base (.ins hx2 T.cl T.cha T.chn T.cht T.chm), if_pos (beq_self_eq_true _), true, rfl, ?_⟩
    refine iteT ?_
    refine ⟨_, rfl, x, C, dx, _, _, rfl, hx, T.cl, T.nR, rfl, _, rfl, x2, C, dx2, _, _, rfl, hx2, T.cl, T.nR, rfl, ?_⟩
    refine ⟨dM qs, dM rs, .tup (SqT.of hr1) hp.dp, .tup (SqT.of hr2) hp2.dp, shaped_dM fun p h => (o p h).1, shaped_dM fun p h => (o2 p h).1, ?_⟩
    rw [eqv_dM]
    exact k
end
end Lw
namespace Lw
open PySem L2 Gk
/-- the class may be made -/
structure MkM (P : Program) (w : World) (K : PySem.W.Frag) (mg : Str → Option Value) (base : Heap) (C : Addr) : Prop where
  ex : ∃ fI fd, Mk K C fI ∧ FnOk P w K mg base CX0 4 fI fd ["self", "paths"] (spInit K C) ∧ Binds K fd ["self", "paths"] []
theorem pe_mask {X : Cx} {C : Addr} {p pos : Pos} {e : Expr} {es : List Expr} {t : TA} (M : MkM X.prog X.w X.K X.mg X.base C) (hr : Room 5 X.A) (hg : Gl X "Mask") (hm : X.mg "Mask" = some (.ref C)) (ha : PA X (e :: es) t)
    (he : starEach (e :: es) X.env = (false, eval e X.env) :: starEach es X.env := by rfl) (hpl : (backTo pos (starEach es X.env)).any (·.1) = false := by rfl) : PE X (.Call (.Name "Mask" p) (e :: es) [] pos) (tMake C (spInit X.K C) [] E0 t) := by
  obtain ⟨fI, fd, M, F, b⟩ := M.ex
  exact pe_make M F hr hg hm b .nil pass0 ha (by decide) he hpl
/-- the class may be made by its default (the empty tuple at e0) -/
structure MkD (P : Program) (w : World) (K : PySem.W.Frag) (mg : Str → Option Value) (base : Heap) (C : Addr) : Prop where
  ex : ∃ fI fd e0 ds, Mk K C fI ∧ FnOk P w K mg base CX0 4 fI fd ["self", "paths"] (spInit K C) ∧ Binds K fd ["self", "paths"] ds ∧ Vals [V.ref e0] ds ∧ ∀ H : Hp, SqT K H e0 []
/-- the class may be made with paths= -/
structure MkK (P : Program) (w : World) (K : PySem.W.Frag) (mg : Str → Option Value) (base : Heap) (C : Addr) : Prop where
  ex : ∃ fI fd, Mk K C fI ∧ FnOk P w K mg base CX0 4 fI fd ["self", "paths"] (spInit K C) ∧ KBn K fd ["self", "paths"] 1 ["paths"] (fun us ws => us ++ ws) (fun vs zs => vs ++ zs)
theorem pe_mask0 {X : Cx} {C : Addr} {p pos : Pos} (M : MkD X.prog X.w X.K X.mg X.base C) (hr : Room 5 X.A) (hg : Gl X "Mask") (hm : X.mg "Mask" = some (.ref C)) :
    ∃ e0 : Addr, (∀ H : Hp, SqT X.K H e0 []) ∧ PE X (.Call (.Name "Mask" p) [] [] pos) (tMake C (spInit X.K C) [.ref e0] E0 tNil) := by
  obtain ⟨fI, fd, e0, ds, M, F, b, v, q⟩ := M.ex
  exact ⟨e0, q, pe_make0 M F hr hg hm b v pass0⟩
theorem pe_maskK {X : Cx} {C : Addr} {p pos kp : Pos} {e : Expr} {te : TE} (M : MkK X.prog X.w X.K X.mg X.base C) (hr : Room 5 X.A) (hg : Gl X "Mask") (hm : X.mg "Mask" = some (.ref C)) (he : PE X e te) :
    PE X (.Call (.Name "Mask" p) [] [⟨some "paths", e, kp⟩] pos) (tMakeK C 0 1 (spInit X.K C) (fun vs zs => vs ++ zs) E0 tNil (tCons te tNil)) := by
  obtain ⟨fI, fd, M, F, b⟩ := M.ex
  exact pe_makeK0 (ks := ["paths"]) M F hr hg hm b pass0 (pk_cons he pk_nil)
theorem mask_none {K : PySem.W.Frag} {H : Hp} {a : Addr} (h : SqT K H a []) : SqP K H a [] [] := ⟨.inr h, .nil, fun _ z => nomatch z⟩
theorem mask_new {K : PySem.W.Frag} {C : Addr} {H : Hp} {a : Addr} {xs : List V} {ps : List Pth} {R : Addr → Hp → Prop} {E : XK} (hs : SqP K H a xs ps) (l : xs.length ≤ MOST)
    (h : ∀ H2 x qs, Kp T0 H H2 → IsM C H2 (.ref x) qs → qs.length ≤ xs.length → Canon ps qs → R x H2) :
    ∀ x dx, H x = none → H dx = none → dx ≠ x → spInit K C [.ref x, .ref a] (upd (upd H dx (.own x)) x (.ins C dx [])) (fun v H2 => v = .non ∧ R x H2) E := by
  intro x dx nx nd ne
  exact ⟨x, dx, a, xs, ps, rfl, upd_same, hs.keep0 (Kp.mk nx nd), l, fun H2 qs k m lq c => ⟨rfl, h H2 _ qs (Kp.made nx nd k) m lq c⟩⟩
theorem isM_at {C : Addr} {H : Hp} {x : Addr} {qs : List Pth} (h : IsM C H (.ref x) qs) : ∃ dx r, H x = some (.ins C dx [("rows", .ref r)]) := by
  obtain ⟨_, dx, r, _, e, hx, _⟩ := h
  cases e
  exact ⟨dx, r, hx⟩
end Lw
namespace Lw
open PySem L2 Gk
abbrev sTape : Stmt := topS 16
abbrev sPick : Stmt := topS 17
abbrev sOneOf : Stmt := topS 18
abbrev sPath : Stmt := topS 19
abbrev sDrawn : Stmt := topS 23
abbrev NM : List Str := ["a", "b", "aa", "m"]
structure TxtT (mg : Str → Option Value) : Prop where
  z_int : mg "int" = none
  z_len : mg "len" = none
  z_range : mg "range" = none
  z_tuple : mg "tuple" = none
theorem boot_int : bootBuiltins "int" = some (.type "int") := by decide +kernel
theorem boot_tuple6 : bootBuiltins "tuple" = some (.type "tuple") := by decide +kernel
section
variable {P : Program} {w : World} {K : PySem.W.Frag} {mg : Str → Option Value} {base : Heap}
theorem scTape : FnScope ["script", "start", "mixed", "cell", "digits"] ["script", "start"] (defScope sTape) := ⟨rfl, rfl, rfl, by decide +kernel, rfl, by decide +kernel, by decide +kernel⟩
theorem ok_tape {f : Addr} {fd : FuncData} (F : Fun K "_law_tape" "_law_tape" sTape f fd) (T : TxtT mg) : FnOk P w K mg base CX0 1 f fd ["script", "start"] (spTape K) := by
  refine F.ok scTape (fun vs H Q E h => ?_) (fun cdv A outer s H vs Q E hr h => ?_)
  · obtain ⟨a, ns, st, rfl, _⟩ := h
    rfl
  · obtain ⟨a, ns, st, rfl, hs, ln, hb, s0, s1, k⟩ := h
    refine ⟨_, pss_cons (ps_set (i := 2) scTape.nd rfl (Or.inl rfl) (pe_op op_add pe_int (pe_op op_mul (pv 1) pe_int)))
      (pss_cons (ps_for PassesOwn.never rfl (pi_list (pv 0)) (pg_name (i := 3) scTape.nd rfl (Or.inl rfl))
        (pss_one (ps_set (i := 2) scTape.nd rfl (Or.inl rfl) (pe_op op_add (pe_op op_mod (pe_callTy call_int1 (by rfl) T.z_int boot_int (pa_cons
          (pe_op op_powB (pe_op op_add (pe_op op_add (pe_op op_mul (pv 2) pe_int) (pe_op op_mulB (pv 3) (pv 3))) pe_int) pe_int) pa_nil)) pe_int) pe_int))))
      (pss_cons (ps_set (i := 4) scTape.nd rfl (Or.inl rfl) (pe_ifExp (PW.pt (pw_and (pt_cmpR op_lt (pv 1) (pe_callB call_len (by rfl) T.z_len PySem.boot_len (pa_cons (pv 0) pa_nil)) (nomark _))
          (pw_and1 (pt_cmpR op_ge (pe_ix ix_list (pv 0) (pv 1) (fun _ _ => rfl)) (pe_op op_pow pe_int pe_int) (nomark _)))))
          (pe_op op_sub (pe_ix ix_list (pv 0) (pv 1) (fun _ _ => rfl)) (pe_op op_pow pe_int pe_int)) pe_int))
      (pss_one (ps_ret (pe_disp (pps_cons pe_str (pv 4) (pps_cons pe_str (pv 2) pps_nil)) (by rfl) (by rfl) (fun z => by cases z) (by decide)))))), ?_⟩
    have small : ∀ x : Int, 0 ≤ x → x < 4294967296 → CMul x 30011 := fun x h0 h1 => .inl ⟨by omega, by omega⟩
    refine ⟨_, rfl, _, _, rfl, rfl, .inl ⟨by omega, by omega⟩, _, _, rfl, rfl, ?_⟩
    refine ⟨_, rfl, a, rfl, ⟨_, hs⟩, for_list (K := K) (a := a) (xs := ns.map V.int) (fun _ σ H2 => H2 = H ∧ ∃ (m : Int) (c : Option V), σ = [some (.ref a), some (.int st), some (.int m), c, none] ∧ 0 ≤ m ∧ m < 4294967296)
      ⟨rfl, _, none, rfl, by omega, by omega⟩ (fun i σ H2 _ p => by rw [p.1]; exact hs) (fun i y σ H2 hi p => ?_) (fun σ H2 p => ?_)⟩
    · obtain ⟨rfl, m, c, rfl, m0, m1⟩ := p
      obtain ⟨z, hz, rfl⟩ : ∃ z, z ∈ ns ∧ y = V.int z := by
        rw [List.getElem?_map] at hi
        cases e : ns[i]? with
        | none => rw [e] at hi; cases hi
        | some z =>
          rw [e] at hi
          exact ⟨z, List.mem_of_getElem? e, (Option.some.inj hi).symm⟩
      have bz := hb z hz
      have bs := tape_step m0 m1 bz
      have cz : CMulB z z := by unfold CMulB; omega
      have cp : CPowB (m * 30011 + z * z + 7) 2 := ⟨by decide, by omega⟩
      refine ⟨_, rfl, _, _, rfl, rfl, small m m0 m1, _, rfl, _, rfl, _, _, rfl, rfl, cz, _, _, rfl, rfl, _, _, rfl, rfl, _, _, rfl, rfl, cp, .inl ⟨_, rfl, _, _, rfl, rfl, (by show (0 : Int) < 2147483563; decide), _, _, rfl, rfl, ?_⟩⟩
      refine ⟨rfl, _, _, rfl, ?_, ?_⟩
      · have := Int.emod_nonneg ((m * 30011 + z * z + 7) ^ (2 : Int).toNat) (show (2147483563 : Int) ≠ 0 by decide)
        omega
      · have := Int.emod_lt_of_pos ((m * 30011 + z * z + 7) ^ (2 : Int).toNat) (show (0 : Int) < 2147483563 by decide)
        omega
    · obtain ⟨rfl, m, c, rfl, m0, m1⟩ := p
      have fin : ∀ d : Int, TapeOk d m → ∀ p, H2 p = none → Q (.ref p) (upd (upd H2 p (.dK [])) p (.dK (mergeK [] [(kD, .int d), (kX, .int m)]))) := by
        intro d ok p hp
        rw [upd_upd, merge_tape]
        exact k p d m hp ok
      have zero : TapeOk 0 m := ⟨Int.le_refl _, by decide, m0, m1⟩
      have pow : CPow 10 18 := ⟨by decide, by decide, by decide⟩
      refine ⟨_, rfl, _, rfl, _, ns.length, rfl, .inl ⟨_, hs, by rw [List.length_map]⟩, _, _, rfl, rfl, _, rfl, ?_⟩
      by_cases c1 : st < (ns.length : Int)
      · rw [decide_eq_true c1]
        refine iteT ?_
        obtain ⟨z, hz⟩ : ∃ z, ns[st.toNat]? = some z := ⟨_, List.getElem?_eq_getElem (by omega)⟩
        have ha : atI (ns.map V.int) st = some (.int z) := by
          have e : st = (st.toNat : Int) := by omega
          rw [e]
          exact atI_nat (by rw [List.getElem?_map, hz]; rfl)
        have bz := hb z (List.mem_of_getElem? hz)
        refine ⟨_, rfl, _, rfl, a, _, _, _, rfl, rfl, hs, ha, _, _, rfl, rfl, pow, _, _, rfl, rfl, _, rfl, ?_⟩
        by_cases c2 : (10 : Int) ^ (18 : Int).toNat ≤ z
        · rw [decide_eq_true c2]
          refine iteT ?_
          refine ⟨_, rfl, _, rfl, a, _, _, _, rfl, rfl, hs, ha, _, _, rfl, rfl, pow, _, _, rfl, rfl, ?_⟩
          refine fun p hp => ⟨_, rfl, _, rfl, upd_same, [(kD, .int (z - 10 ^ (18 : Int).toNat)), (kX, .int m)], rfl, (by show 2 ≤ 15; decide), fin _ ⟨by omega, ?_, m0, m1⟩ p hp⟩
          refine Nat.le_trans (intBits_le_of_natAbs (y := z) ?_ bz) (by decide)
          have e : (10 : Int) ^ (18 : Int).toNat = 1000000000000000000 := by decide
          rw [e] at c2 ⊢
          omega
        · rw [decide_eq_false c2]
          refine iteF ?_
          exact fun p hp => ⟨_, rfl, _, rfl, upd_same, [(kD, .int 0), (kX, .int m)], rfl, (by show 2 ≤ 15; decide), fin _ zero p hp⟩
      · rw [decide_eq_false c1]
        refine iteF ?_
        refine iteF ?_
        exact fun p hp => ⟨_, rfl, _, rfl, upd_same, [(kD, .int 0), (kX, .int m)], rfl, (by show 2 ≤ 15; decide), fin _ zero p hp⟩
theorem scPick : FnScope ["tape", "many", "found", "once"] ["tape", "many"] (defScope sPick) := ⟨rfl, rfl, rfl, by decide +kernel, rfl, by decide +kernel, by decide +kernel⟩
theorem ok_pick {f : Addr} {fd : FuncData} (F : Fun K "_law_pick" "_law_pick" sPick f fd) (T : TxtT mg) : FnOk P w K mg base CX0 1 f fd ["tape", "many"] spPick := by
  refine F.ok scPick (fun vs H Q E h => ?_) (fun cdv A outer s H vs Q E hr h => ?_)
  · obtain ⟨t, n, rfl, _⟩ := h
    rfl
  · obtain ⟨t, n, rfl, ⟨d, m, ht, ok⟩, n1, n2, k⟩ := h
    have hu := hu_of hr
    refine ⟨_, pss_cons (ps_if (pt_cmpR op_ge (pe_dget hu (pv 0) pe_str (fun _ _ => rfl)) (pv 1) (nomark _))
        (pss_cons (ps_set (i := 2) scPick.nd rfl (Or.inl rfl) (pe_op op_mod (pe_callTy call_int1 (by rfl) T.z_int boot_int (pa_cons (pe_dget hu (pv 0) pe_str (fun _ _ => rfl)) pa_nil)) (pv 1)))
          (pss_cons (ps_dput hu (pv 0) pe_str (pe_op op_fdivW (pe_dget hu (pv 0) pe_str (fun _ _ => rfl)) (pv 1)) rfl) (pss_one (ps_ret (pv 2))))) pss_nil)
      (pss_cons (ps_dput hu (pv 0) pe_str (pe_op op_mod (pe_callTy call_int1 (by rfl) T.z_int boot_int (pa_cons (pe_op op_add (pe_op op_mul (pe_dget hu (pv 0) pe_str (fun _ _ => rfl)) pe_int) pe_int) pa_nil)) pe_int) rfl)
      (pss_cons (ps_set (i := 3) scPick.nd rfl (Or.inl rfl) (pe_op op_mod (pe_callTy call_int1 (by rfl) T.z_int boot_int (pa_cons (pe_op op_pow (pe_dget hu (pv 0) pe_str (fun _ _ => rfl)) pe_int) pa_nil)) pe_int))
      (pss_one (ps_ret (pe_op op_mod (pe_callTy call_int1 (by rfl) T.z_int boot_int (pa_cons (pe_op op_fdiv (pe_op op_mod (pe_callTy call_int1 (by rfl) T.z_int boot_int (pa_cons (pe_op op_pow (pv 3) pe_int) pa_nil)) pe_int) pe_int) pa_nil)) (pv 1)))))), ?_⟩
    have np : (0 : Int) < n := by omega
    refine ⟨_, rfl, t, _, rfl, dget_d ht, _, rfl, _, _, rfl, rfl, _, rfl, ?_⟩
    by_cases c : n ≤ d
    · rw [decide_eq_true c]
      refine iteT ?_
      have cd : CDivW d n := wide_div np (b := 32) (by omega) (by decide) (by decide)
      refine ⟨_, rfl, t, _, rfl, dget_d ht, .inl ⟨_, rfl, _, rfl, _, _, rfl, rfl, np, ?_⟩⟩
      refine ⟨_, rfl, t, _, rfl, dget_d ht, _, rfl, _, _, rfl, rfl, cd, _, rfl, t, _, rfl, dput_d ht _, _, rfl, ?_⟩
      have o2 : TapeOk (d / n) m := ⟨Int.ediv_nonneg ok.d0 (by omega), Nat.le_trans (intBits_le_of_natAbs (y := d) (by have := Int.ediv_le_self n ok.d0; have := Int.ediv_nonneg ok.d0 (show 0 ≤ n by omega); omega) ok.db) (Nat.le_refl _), ok.m0, ok.m1⟩
      exact k _ _ ((Kp.refl H).put rfl) (TapeAt.put o2) (Int.emod_nonneg _ (by omega)) (Int.emod_lt_of_pos _ np)
    · rw [decide_eq_false c]
      refine iteF ?_
      have m0 := ok.m0
      have m1 := ok.m1
      refine ⟨_, rfl, t, _, rfl, dget_x ht, _, _, rfl, rfl, .inl ⟨by omega, by omega⟩, _, _, rfl, rfl, .inl ⟨_, rfl, _, _, rfl, rfl, (by show (0 : Int) < 2147483563; decide), _, rfl, t, _, rfl, dput_x ht _, ?_⟩⟩
      generalize ex : (m * 40014 + 1013) % 2147483563 = x
      have x0 : 0 ≤ x := by
        rw [← ex]
        exact Int.emod_nonneg _ (by decide)
      have x1 : x < 2147483563 := by
        rw [← ex]
        exact Int.emod_lt_of_pos _ (by decide)
      have o2 : TapeOk d x := ⟨ok.d0, ok.db, x0, by omega⟩
      refine ⟨_, rfl, t, _, rfl, dget_x upd_same, _, _, rfl, rfl, ⟨by decide, by decide, by omega⟩, .inl ⟨_, rfl, _, _, rfl, rfl, (by show (0 : Int) < 2147483399; decide), ?_⟩⟩
      generalize ey : x ^ (2 : Int).toNat % 2147483399 = y
      have y0 : 0 ≤ y := by
        rw [← ey]
        exact Int.emod_nonneg _ (by decide)
      have y1 : y < 2147483399 := by
        rw [← ey]
        exact Int.emod_lt_of_pos _ (by decide)
      refine ⟨_, rfl, _, _, rfl, rfl, ⟨by decide, by decide, by omega⟩, .inl ⟨_, rfl, _, _, rfl, rfl, (by show (0 : Int) < 998244353; decide), _, _, rfl, rfl, ⟨by decide, by decide⟩, .inl ⟨_, rfl, _, rfl, _, _, rfl, rfl, np, ?_⟩⟩⟩
      exact k _ _ ((Kp.refl H).put rfl) (TapeAt.put o2) (Int.emod_nonneg _ (by omega)) (Int.emod_lt_of_pos _ np)
theorem scOneOf : FnScope ["tape", "items"] ["tape", "items"] (defScope sOneOf) := ⟨rfl, rfl, rfl, by decide +kernel, rfl, by decide +kernel, by decide +kernel⟩
theorem ok_one_of {f fP : Addr} {fd : FuncData} (F : Fun K "_law_one_of" "_law_one_of" sOneOf f fd) (T : TxtT mg) (DP : Df P w K mg base 1 fP "_law_pick" ["tape", "many"] spPick) : FnOk P w K mg base CX0 2 f fd ["tape", "items"] (spOneOf K) := by
  refine F.ok scOneOf (fun vs H Q E h => ?_) (fun cdv A outer s H vs Q E hr h => ?_)
  · obtain ⟨t, l, xs, rfl, _⟩ := h
    rfl
  · obtain ⟨t, l, xs, rfl, ta, hl, l1, l2, k⟩ := h
    refine ⟨_, pss_one (ps_ret (pe_ix ix_list (pv 1) (pe_df DP hr (by rfl) (pa_cons (pv 0) (pa_cons (pe_callB call_len (by rfl) T.z_len PySem.boot_len (pa_cons (pv 1) pa_nil)) pa_nil))) (fun _ _ => rfl))), ?_⟩
    refine ⟨_, rfl, _, rfl, _, rfl, _, xs.length, rfl, .inl ⟨xs, hl, rfl⟩, t, _, rfl, ta, by omega, by omega, fun H2 r k2 ta2 r0 r1 => ?_⟩
    have hx : xs[r.toNat]? = some (xs[r.toNat]'(by omega)) := List.getElem?_eq_getElem _
    have er : r = (r.toNat : Int) := by omega
    refine ⟨l, xs, r, _, rfl, rfl, sqL_tape ta hl k2, (by rw [er]; exact atI_nat hx), k H2 _ k2 ta2 (List.getElem_mem _)⟩
theorem scPath : FnScope ["tape", "many", "turn"] ["tape"] (defScope sPath) := ⟨rfl, rfl, rfl, by decide +kernel, rfl, by decide +kernel, by decide +kernel⟩
theorem ok_path {f fP fO : Addr} {fd : FuncData} (F : Fun K "_law_path" "_law_path" sPath f fd) (T : TxtT mg) (DP : Df P w K mg base 1 fP "_law_pick" ["tape", "many"] spPick) (DO : Df P w K mg base 2 fO "_law_one_of" ["tape", "items"] (spOneOf K)) :
    FnOk P w K mg base CX0 3 f fd ["tape"] (spPath NM) := by
  refine F.ok scPath (fun vs H Q E h => ?_) (fun cdv A outer s H vs Q E hr h => ?_)
  · obtain ⟨t, rfl, _⟩ := h
    rfl
  · obtain ⟨t, rfl, ta, k⟩ := h
    refine ⟨_, pss_cons (ps_set (i := 1) scPath.nd rfl (Or.inl rfl) (pe_op op_add pe_int (pe_df DP (hr.mono (by decide)) (by rfl) (pa_cons (pv 0) (pa_cons pe_int pa_nil)))))
      (pss_one (ps_ret (pe_callTy call_tuple_of (by rfl) T.z_tuple boot_tuple6 (pa_cons (pe_lc (own := [("turn", 2)]) (g := gName 2) (tt := tYes) rfl scPath.nd (pi_range1 (by rfl) T.z_range (pa_cons (pv 1) pa_nil))
        (blkOk_by (N := ["tape", "many", "turn"]) (sc := defScope sPath) (by decide +kernel)) (fun _ _ _ _ _ => pg_name (i := 2) scPath.nd rfl (Or.inl rfl)) (fun _ _ _ _ _ => pts_nil)
        (fun _ _ _ _ _ => pe_df DO hr (by rfl) (pa_cons (pv 0) (pa_cons (pe_lst (pa_cons pe_str (pa_cons pe_str (pa_cons pe_str (pa_cons pe_str pa_nil))))) pa_nil)))) pa_nil)))), ?_⟩
    refine ⟨_, rfl, t, 3, rfl, ta, by decide, by decide, fun H1 r k1 ta1 r0 r1 => ?_⟩
    refine ⟨_, _, rfl, rfl, ?_⟩
    refine ⟨_, rfl, 1 + r, rfl, by omega, by omega, fun D hD => ?_⟩
    refine lc_kp (T := At t) walk_range (i0 := 2) (fun i v => v = .int (0 + (i : Int))) (fun i ys H2 => TapeAt H2 t ∧ ∃ p : Pth, ys = p.map V.str ∧ p.length = i ∧ ∀ x ∈ p, x ∈ NM)
      (fun i H1 v H2 _ y => y) hD (tape_fresh ta1 hD) (by rw [PySem.sizeLine_eq]; omega) (wipe1 _ 2) (fun _ _ => True.intro) ⟨ta1.new hD, [], rfl, rfl, fun _ h => nomatch h⟩ (fun i u ys H2 Ky Kn hi sx k2 d2 q ky _ => ?_) (fun ys H2 k2 d2 _ q => ?_)
    · obtain ⟨ta2, p, ep, lp, mp⟩ := q
      refine yes_ ?_
      refine ⟨_, rfl, (by show 4 ≤ sizeLine; rw [PySem.sizeLine_eq]; decide), fun l hl => ?_⟩
      have kl : Kp (At t) H2 (upd H2 l (.lst (NM.map V.str))) := (Kp.refl H2).new hl
      refine ⟨t, l, NM.map V.str, rfl, ta2.new hl, SqL.of upd_same, by decide, by decide, fun H3 x k3 ta3 mx => ?_⟩
      obtain ⟨z, hz, rfl⟩ := List.mem_map.mp mx
      have tD : ¬ At t D := tape_fresh ta1 hD
      refine ky _ _ (kl.trans k3) ⟨ta3.over tD, p ++ [z], ?_, by rw [List.length_append, lp]; rfl, ?_⟩
      · rw [ep, List.map_append]
        rfl
      · intro x hx
        rcases List.mem_append.mp hx with h | h
        · exact mp x h
        · rw [List.mem_singleton.mp h]
          exact hz
    · obtain ⟨ta2, p, ep, lp, mp⟩ := q
      refine ⟨D, ys, rfl, .inl ⟨SqL.of d2, fun l hl => ?_⟩⟩
      refine k _ _ p ((k1.trans k2).new hl) (ta2.new hl) ⟨l, rfl, by rw [upd_same, ep]⟩ ⟨?_, ?_, mp⟩
      · rw [lp]
        omega
      · rw [lp]
        omega
theorem scDrawn : FnScope ["tape", "turn"] ["tape"] (defScope sDrawn) := ⟨rfl, rfl, rfl, by decide +kernel, rfl, by decide +kernel, by decide +kernel⟩
theorem ok_drawn {f fP fQ : Addr} {fd : FuncData} (F : Fun K "_law_drawn" "_law_drawn" sDrawn f fd) (T : TxtT mg) (DP : Df P w K mg base 1 fP "_law_pick" ["tape", "many"] spPick) (DQ : Df P w K mg base 3 fQ "_law_path" ["tape"] (spPath NM)) :
    FnOk P w K mg base CX0 4 f fd ["tape"] (spDrawn NM) := by
  refine F.ok scDrawn (fun vs H Q E h => ?_) (fun cdv A outer s H vs Q E hr h => ?_)
  · obtain ⟨t, rfl, _⟩ := h
    rfl
  · obtain ⟨t, rfl, ta, k⟩ := h
    refine ⟨_, pss_one (ps_ret (pe_lc (own := [("turn", 1)]) (g := gName 1) (tt := tYes) rfl scDrawn.nd (pi_range1 (by rfl) T.z_range (pa_cons (pe_df DP (hr.mono (by decide)) (by rfl) (pa_cons (pv 0) (pa_cons pe_int pa_nil))) pa_nil))
        (blkOk_by (N := ["tape", "turn"]) (sc := defScope sDrawn) (by decide +kernel)) (fun _ _ _ _ _ => pg_name (i := 1) scDrawn.nd rfl (Or.inl rfl)) (fun _ _ _ _ _ => pts_nil)
        (fun _ _ _ _ _ => pe_df DQ hr (by rfl) (pa_cons (pv 0) pa_nil)))), ?_⟩
    refine ⟨_, rfl, t, 7, rfl, ta, by decide, by decide, fun H1 r k1 ta1 r0 r1 => ?_⟩
    refine ⟨r, rfl, by omega, by omega, fun D hD => ?_⟩
    have tD : ¬ At t D := tape_fresh ta1 hD
    refine lc_kp (T := At t) walk_range (i0 := 1) (fun i v => v = .int (0 + (i : Int))) (fun i ys H2 => TapeAt H2 t ∧ ∃ ps : List Pth, Ps H2 ys ps ∧ ∀ p ∈ ps, Drawn NM p)
      (fun i H1 v H2 _ y => y) hD tD (by rw [PySem.sizeLine_eq]; omega) (wipe1 _ 1) (fun _ _ => True.intro) ⟨ta1.new hD, [], .nil, fun _ h => nomatch h⟩ (fun i u ys H2 Ky Kn hi sx k2 d2 q ky _ => ?_) (fun ys H2 k2 d2 ly q => ?_)
    · obtain ⟨ta2, ps, hp, op⟩ := q
      refine yes_ ?_
      refine ⟨_, rfl, t, rfl, ta2, fun H3 v p k3 ta3 ip gp => ?_⟩
      have d3 := k3 D _ tD d2
      have kD : Kp (At D) H3 (upd H3 D (.lst (ys ++ [v]))) := (Kp.refl H3).put rfl
      have loose : ∀ a o, At D a → H3 a = some o → ∀ xs, o ≠ .tup xs := by
        intro a o e h
        rw [show a = D from e, d3] at h
        cases h
        exact fun _ e => nomatch e
      refine ky _ _ k3 ⟨ta3.over tD, ps ++ [p], ((hp.tape k3 ta2).snoc ip).keep kD loose, fun q hq => ?_⟩
      rcases List.mem_append.mp hq with h | h
      · exact op q h
      · rw [List.mem_singleton.mp h]
        exact gp
    · obtain ⟨ta2, ps, hp, op⟩ := q
      have nD : H D = none := by
        cases e : H D with
        | none => rfl
        | some o => rw [k1 D o tD e] at hD; cases hD
      exact k H2 D ys ps (k1.trans k2) ta2 nD d2 hp (by omega) op
end
end Lw
namespace Lw
open PySem L2 Gk
abbrev sLen : Stmt := inClass (topS 14) 2
abbrev sHas : Stmt := inClass (topS 14) 3
abbrev sPaths : Stmt := inClass (topS 14) 1
theorem boot_list : bootBuiltins "list" = some (.type "list") := by decide +kernel
section
variable {P : Program} {w : World} {K : PySem.W.Frag} {mg : Str → Option Value} {base : Heap} {C : Addr}
theorem scLen : FnScope ["self"] ["self"] (defScope sLen) := ⟨rfl, rfl, rfl, by decide +kernel, rfl, by decide +kernel, by decide +kernel⟩
theorem ok_len {f : Addr} {fd : FuncData} (F : Fun K "__len__" "Mask.__len__" sLen f fd) (T : TxtM K mg C) (zl : mg "len" = none) : FnOk P w K mg base CX0 1 f fd ["self"] (spLenM C) := by
  refine F.ok scLen (fun vs H Q E h => ?_) (fun cdv A outer s H vs Q E hr h => ?_)
  · obtain ⟨v, qs, rfl, _⟩ := h
    rfl
  · obtain ⟨v, qs, rfl, ⟨x, dx, r, ys, rfl, hx, hr1, hp, l, o, c⟩, k⟩ := h
    refine ⟨_, pss_one (ps_ret (pe_callB call_len (by rfl) zl PySem.boot_len (pa_cons (pe_fld (pv 0) rfl) pa_nil))), ?_⟩
    refine ⟨_, rfl, x, C, dx, _, _, rfl, hx, T.cl, T.nR, rfl, _, qs.length, rfl, .inr ⟨ys, SqT.of hr1, (Paired.length hp).symm⟩, k⟩
theorem scPaths : FnScope ["self"] ["self"] (defScope sPaths) := ⟨rfl, rfl, rfl, by decide +kernel, rfl, by decide +kernel, by decide +kernel⟩
theorem ok_paths {f : Addr} {fd : FuncData} (F : Fun K "paths" "Mask.paths" sPaths f fd) (T : TxtM K mg C) (zl : mg "list" = none) : FnOk P w K mg base CX0 1 f fd ["self"] (spPathsM C) := by
  refine F.ok scPaths (fun vs H Q E h => ?_) (fun cdv A outer s H vs Q E hr h => ?_)
  · obtain ⟨v, qs, rfl, _⟩ := h
    rfl
  · obtain ⟨v, qs, rfl, ⟨x, dx, r, ys, rfl, hx, hr1, hp, l, o, c⟩, k⟩ := h
    refine ⟨_, pss_one (ps_ret (pe_callTy call_list_of (by rfl) zl boot_list (pa_cons (pe_fld (pv 0) rfl) pa_nil))), ?_⟩
    exact ⟨_, rfl, x, C, dx, _, _, rfl, hx, T.cl, T.nR, rfl, r, ys, rfl, .inr (SqT.of hr1), fun l hl => k l ys hl hp⟩
theorem scHas : FnScope ["self", "x"] ["self", "x"] (defScope sHas) := ⟨rfl, rfl, rfl, by decide +kernel, rfl, by decide +kernel, by decide +kernel⟩
theorem ok_has {f fR fC : Addr} {fd : FuncData} (F : Fun K "__contains__" "Mask.__contains__" sHas f fd) (T : TxtM K mg C) (DR : Df P w K mg base 3 fR "is_row" ["value"] (spIsRow K)) (DC : Df P w K mg base 2 fC "covers" ["paths", "path"] spCovers) :
    FnOk P w K mg base CX0 4 f fd ["self", "x"] (spInM K C) := by
  refine F.ok scHas (fun vs H Q E h => ?_) (fun cdv A outer s H vs Q E hr h => ?_)
  · obtain ⟨v, u, qs, rfl, _⟩ := h
    rfl
  · obtain ⟨v, u, qs, rfl, ⟨x, dx, r, ys, rfl, hx, hr1, hp, l, o, c⟩, k⟩ := h
    refine ⟨_, pss_one (ps_ret (pe_and (pe_df DR hr (by rfl) (pa_cons (pv 1) pa_nil)) (pe_one (pe_df DC (hr.mono (by decide)) (by rfl) (pa_cons (pe_fld (pv 0) rfl) (pa_cons (pv 1) pa_nil)))))), ?_⟩
    refine ⟨_, rfl, ?_⟩
    dsimp only [tNil]
    have mm : ys.length < sizeLine := Nat.lt_of_le_of_lt l most_line
    rcases k with ⟨p, ip, o1, o2, k⟩ | k
    · refine row_of ip o1 o2 fun H2 k2 => ⟨true, rfl, ?_⟩
      refine iteT ?_
      exact ⟨_, rfl, x, C, dx, _, _, rfl, k2.at0 hx, T.cl, T.nR, rfl, _, rfl, r, ys, qs, u, p, rfl, k2.at0 hr1, hp.keep0 k2, mm, fun q hq => (o q hq).1, ip.keep0 k2, o1, fun H3 k3 => k H3 (k2.trans k3)⟩
    · obtain ⟨v0, r0, e0, d0, k⟩ := k
      cases e0
      refine ⟨_, r0, rfl, d0, fun H2 k2 => ?_⟩
      have q2 := (k H2 k2).2
      have e1 := (k H2 k2).1
      cases e1
      exact ⟨false, rfl, iteF q2⟩
end
end Lw
/-! Gk20: sets whose items are tuples of keys of any calm kind (texts, numbers): what is asked of such tuples. -/
namespace Gk
open PySem PySem.Spec PyProof.Rows L2
section
variable {P : Program} {w : World} {κ : Type} [DecidableEq κ] {knd : KeyKind P w κ} {A : Around} {E : Value → Shared → Prop} {s : Shared}
/-- values of the kind are of no class of the program and are hashed by value -/
structure Calm (knd : KeyKind P w κ) : Prop where
  cls : ∀ (k : κ) (v : Value) (n : Nat), knd.is k v = true → ofAClassStatement n v = pure false
  byv : ∀ (k : κ) (v : Value) (n : Nat), knd.is k v = true → ∃ c, hashByValue n v = pure c
theorem calm_str : Calm (strKind P w) where
  cls := fun k v n h => by
    obtain ⟨t, rfl⟩ := Value.isStrOf_shape h
    cases n <;> rfl
  byv := fun k v n h => by
    obtain ⟨t, rfl⟩ := Value.isStrOf_shape h
    exact ⟨false, by cases n <;> rfl⟩
theorem each_item {ks : List κ} {vs : List Value} (h : ItemsAre knd ks vs) : ∀ v ∈ vs, ∃ k, knd.is k v = true := by
  induction h with
  | nil => exact fun v m => nomatch m
  | cons a _ ih =>
    intro v m
    rcases List.mem_cons.mp m with e | m
    · exact ⟨_, by rw [e]; exact a⟩
    · exact ih v m
theorem cls_tup (C : Calm knd) {ks : List κ} {b : Addr} {Q : Bool → Shared → Prop} (tk : IsTupleKey knd s.heap ks b) (q : Q false s) : wpAny (model P w) A (ofAClassStatement 8 (.ref b)) Q E s := by
  have ty := tk.typeIs
  obtain ⟨ob, its, n, at_, _, dat, are⟩ := tk
  have each := each_item are
  unfold ofAClassStatement
  refine wpAny_bind (wpAny_typeOf ty ?_)
  dsimp only
  have yes : (("tuple" : String) == "tuple") = true := by decide
  simp only [yes, if_true, Bool.not_true, Bool.false_eq_true, if_false]
  try refine wpAny_bind (wpAny_pure ?_)
  try simp only [Bool.not_true, Bool.false_eq_true, if_false]
  refine wpAny_bind (m := seqItems? (.ref b)) (wpAny_seqItems at_ dat ?_)
  dsimp only
  refine wpAny_bind ?_
  rw [← Array.forIn_toList]
  refine wpAny_forIn_list _ (fun left acc s2 => acc.1 = none ∧ s2 = s ∧ ∀ v ∈ left, ∃ k, knd.is k v = true) _ ?_ ?_ _ _ ⟨rfl, rfl, each⟩
  · rintro v left acc s2 ⟨na, rfl, some_⟩
    obtain ⟨k, kv⟩ := some_ v List.mem_cons_self
    rw [C.cls k v _ kv]
    refine wpAny_bind (wpAny_pure ?_)
    simp only [Bool.false_eq_true, if_false]
    exact wpAny_pure ⟨rfl, rfl, fun u hu => some_ u (List.mem_cons_of_mem _ hu)⟩
  · rintro ⟨a1, a2⟩ s2 ⟨na, rfl, _⟩
    cases na
    exact wpAny_pure q
/-- whether it is hashed by its value does not matter -/
theorem byv_tup (C : Calm knd) {ks : List κ} {b : Addr} {Q : Bool → Shared → Prop} (tk : IsTupleKey knd s.heap ks b) (q : ∀ c, Q c s) : wpAny (model P w) A (hashByValue 8 (.ref b)) Q E s := by
  have ty := tk.typeIs
  obtain ⟨ob, its, n, at_, _, dat, are⟩ := tk
  have each := each_item are
  unfold hashByValue
  refine wpAny_bind (wpAny_specialOf ty PySem.F.slot_tuple_hash.lookup ?_)
  refine wpAny_bind (m := seqItems? (.ref b)) (wpAny_seqItems at_ dat ?_)
  refine wpAny_bind ?_
  dsimp only
  rw [← Array.forIn_toList]
  refine wpAny_forIn_list _ (fun left acc s2 => s2 = s ∧ ∀ v ∈ left, ∃ k, knd.is k v = true) _ ?_ ?_ _ _ ⟨rfl, each⟩
  · rintro v left acc s2 ⟨rfl, some_⟩
    obtain ⟨k, kv⟩ := some_ v List.mem_cons_self
    obtain ⟨c, hc⟩ := C.byv k v 7 kv
    rw [hc]
    refine wpAny_bind (wpAny_pure ?_)
    cases c with
    | true =>
      simp only [Bool.not_true, Bool.false_eq_true, if_false]
      exact wpAny_pure ⟨rfl, fun u hu => some_ u (List.mem_cons_of_mem _ hu)⟩
    | false =>
      simp only [Bool.not_false, if_true]
      exact wpAny_pure (wpAny_pure (q _))
  · rintro ⟨a1, a2⟩ s2 ⟨rfl, _⟩
    cases a1 with
    | none => exact wpAny_pure (q _)
    | some c => exact wpAny_pure (q _)
theorem seen_none (C : Calm knd) {ks : List κ} {b : Addr} {ys : List Value} {Q : Bool → Shared → Prop} (tk : IsTupleKey knd s.heap ks b) (all : ∀ y ∈ ys, ∃ k2 c, y = Value.ref c ∧ IsTupleKey knd s.heap k2 c) (q : Q false s) :
    wpAny (model P w) A (searchCouldBeSeen (.ref b) ys) Q E s := by
  unfold searchCouldBeSeen
  refine wpAny_bind (wpAny_forIn_list _ (fun left acc s2 => acc.1 = none ∧ s2 = s ∧ ∀ y ∈ left, ∃ k2 c, y = Value.ref c ∧ IsTupleKey knd s.heap k2 c) _ ?_ ?_ _ _ ⟨rfl, rfl, all⟩)
  · rintro y left acc s2 ⟨na, rfl, some_⟩
    obtain ⟨k2, c, rfl, tk2⟩ := some_ y List.mem_cons_self
    have more : ∀ u ∈ left, ∃ k2 c, u = Value.ref c ∧ IsTupleKey knd s2.heap k2 c := fun u hu => some_ u (List.mem_cons_of_mem _ hu)
    dsimp only
    cases same : (b == c || (carriedByValue (.ref b) && carriedByValue (.ref c))) with
    | true => exact wp_if_pos (by simpa using same) (wpAny_pure ⟨rfl, rfl, more⟩)
    | false =>
      refine wp_if_neg (by exact Bool.false_ne_true) ?_
      refine wpAny_bind (wpAny_eqIsQuiet_tuple tk ?_)
      simp only [Bool.not_true, Bool.false_eq_true, if_false]
      refine wpAny_bind (wpAny_eqIsQuiet_tuple tk2 ?_)
      simp only [Bool.not_true, Bool.false_eq_true, if_false]
      refine wpAny_bind (cls_tup C tk ?_)
      simp only [Bool.false_eq_true, if_false]
      refine wpAny_bind (cls_tup C tk2 ?_)
      simp only [Bool.false_eq_true, if_false]
      exact wpAny_pure ⟨rfl, rfl, more⟩
  · rintro ⟨a1, a2⟩ s2 ⟨na, rfl, _⟩
    cases na
    exact wpAny_pure q
end
end Gk
/-! Gk21: the search in a set of tuples. -/
namespace Gk
open PySem PySem.Spec PyProof.Rows L2
section
variable {P : Program} {w : World} {κ : Type} [DecidableEq κ] {knd : KeyKind P w κ} {A : Around} {E : Value → Shared → Prop} {s : Shared}
def hsh (knd : KeyKind P w κ) (p : Addr × List κ) : Int := tupleKeyHash knd p.2
def cellsOf (knd : KeyKind P w κ) (L : List (Addr × List κ)) : List (Int × Value) := L.map fun p => (hsh knd p, Value.ref p.1)
/-- the set at a has the tuples of L, table and all -/
structure TSet (knd : KeyKind P w κ) (h : Heap) (a : Addr) (L : List (Addr × List κ)) (es : Array (Int × Value)) (ep : Nat) (t : SetTable) : Prop where
  obj : ∃ o, h.get? a = some o ∧ o.ExactSet ∧ o.data = .set es ep t
  cells : es.toList = cellsOf knd L
  tab : TabOk t (L.map (hsh knd))
  nodup : (L.map (·.2)).Nodup
  keys : ∀ p ∈ L, IsTupleKey knd h p.2 p.1
  led : w.params.followText "set-order" = true ∨ t.led = true
  room : L.length * 5 < t.mask * 3
  few : L.length < 64
variable {a : Addr} {L : List (Addr × List κ)} {es : Array (Int × Value)} {ep : Nat} {t : SetTable}
theorem TSet.size (S : TSet knd s.heap a L es ep t) : es.size = L.length := by
  rw [← Array.length_toList, S.cells]
  exact List.length_map _
theorem TSet.places (S : TSet knd s.heap a L es ep t) : t.place.toList.length = L.length := by
  rw [Array.length_toList, S.tab.sz, List.length_map]
theorem TSet.fits (S : TSet knd s.heap a L es ep t) : t.fits es.size = true := by
  have e1 := S.places
  have e2 := S.size
  have e3 := S.room
  rw [Array.length_toList] at e1
  unfold SetTable.fits SetTable.fill
  rw [S.tab.dm, Bool.and_eq_true, beq_iff_eq, decide_eq_true_eq]
  exact ⟨by omega, by show t.place.size + 0 ≤ t.mask; omega⟩
theorem TSet.cell (S : TSet knd s.heap a L es ep t) {i : Nat} {p : Addr × List κ} (h : L[i]? = some p) : es[i]? = some (hsh knd p, Value.ref p.1) := by
  rw [← Array.getElem?_toList, S.cells]
  unfold cellsOf
  rw [List.getElem?_map, h]
  rfl
theorem TSet.stays (S : TSet knd s.heap a L es ep t) : ¬ t.gaveWay = true := by
  unfold SetTable.gaveWay
  rw [mask_odd S.tab.mok]
  decide
/-- the c-th step of the way of a hash, and the slot there -/
abbrev stp (t : SetTable) (g : Int) (c : Nat) : SetTable.Probe := nth t.mask (runAt t.mask (SetTable.bits g % (t.mask + 1)) (SetTable.bits g)) c
theorem stp_on (t : SetTable) (g : Int) (c q : Nat) : nth t.mask (stp t g c) q = stp t g (c + q) := (nth_add t.mask c _ q).symm
theorem stp_clean (t : SetTable) (g : Int) : ∀ c, (stp t g c).dummy = none := by
  have one : ∀ (n : Nat) (p : SetTable.Probe), p.dummy = none → (nth t.mask p n).dummy = none := by
    intro n
    induction n with
    | zero => exact fun p h => h
    | succ n ih =>
      intro p h
      refine ih _ ?_
      unfold adv
      split <;> exact h
  exact fun c => one c _ rfl
/-- no tuple of that hash stands on the way from c to d -/
def Bare (knd : KeyKind P w κ) (L : List (Addr × List κ)) (t : SetTable) (g : Int) (c d : Nat) : Prop := ∀ (c2 i : Nat) (p : Addr × List κ), c ≤ c2 → c2 < d → t.place.toList[i]? = some (way t.mask g c2) → L[i]? = some p → hsh knd p ≠ g
abbrev hashAt (es : Array (Int × Value)) (i : Nat) : Int := (es[i]?.map (·.1)).getD 0
/-- what a probe from the c-th step on answers -/
theorem answer (S : TSet knd s.heap a L es ep t) {g : Int} {K c : Nat} (lt : K < 10 * SetTable.turns t.mask) (free : way t.mask g K ∉ t.place.toList) (taken : ∀ d, d < K → way t.mask g d ∈ t.place.toList) (hc : c ≤ K) :
    (∃ d i p, c ≤ d ∧ d < K ∧ t.place.toList[i]? = some (way t.mask g d) ∧ L[i]? = some p ∧ Bare knd L t g c d ∧ t.probe (hashAt es) g (stp t g c) = some (.candidate (way t.mask g d) i (stp t g (d + 1)))) ∨
    (Bare knd L t g c K ∧ t.probe (hashAt es) g (stp t g c) = some (.empty (way t.mask g K) none)) := by
  have at_ : ∀ q, (nth t.mask (stp t g c) q).j = way t.mask g (c + q) := fun q => congrArg SetTable.Probe.j (stp_on t g c q)
  have hs : ∀ {i : Nat} {p : Addr × List κ}, L[i]? = some p → hashAt es i = hsh knd p := fun {i p} h => by
    show (es[i]?.map (·.1)).getD 0 = _
    rw [S.cell h]
    rfl
  have full : c + (K - c) = K := by omega
  rcases go_spec t S.tab.ris S.tab.dm (hashAt es) g (10 * SetTable.turns t.mask) (K - c) (stp t g c) (stp_clean t g c) (by omega) (fun q hq => by rw [at_]; exact taken _ (by omega)) (by rw [at_, full]; exact free) with ⟨q, i, hq, hi, _, no, pr⟩ | ⟨no, pr⟩
  · rw [at_] at hi
    have il : i < L.length := by
      rw [← S.places]
      exact (List.getElem?_eq_some_iff.mp hi).1
    refine .inl ⟨c + q, i, L[i], by omega, by omega, hi, List.getElem?_eq_getElem il, fun c2 i2 p2 h1 h2 h3 h4 e => ?_, ?_⟩
    · refine no (c2 - c) i2 (by omega) ?_ ((hs h4).trans e)
      rw [at_, show c + (c2 - c) = c2 by omega]
      exact h3
    · rw [at_, stp_on] at pr
      exact pr
  · refine .inr ⟨fun c2 i2 p2 h1 h2 h3 h4 e => ?_, ?_⟩
    · refine no (c2 - c) i2 (by omega) ?_ ((hs h4).trans e)
      rw [at_, show c + (c2 - c) = c2 by omega]
      exact h3
    · rw [at_, full] at pr
      exact pr
/-- the search for a tuple, to be added -/
theorem seek (S : TSet knd s.heap a L es ep t) (C : Calm knd) {x : Addr} {ks : List κ} (tk : IsTupleKey knd s.heap ks x) (hu : A.units < cLine) {K : Nat} (lt : K < 10 * SetTable.turns t.mask)
    (free : way t.mask (tupleKeyHash knd ks) K ∉ t.place.toList) (taken : ∀ d, d < K → way t.mask (tupleKeyHash knd ks) d ∈ t.place.toList) {Q : SetFound → Shared → Prop} (yes : ks ∈ L.map (·.2) → Q (.there none) s)
    (no : ks ∉ L.map (·.2) → Q (.free (way t.mask (tupleKeyHash knd ks) K) false) s) : ∀ (f c : Nat) (st : Option SetTable.Probe), st.getD (t.probeStart (tupleKeyHash knd ks)) = stp t (tupleKeyHash knd ks) c → c ≤ K → K < f + c →
      (∀ (i : Nat) (p : Addr × List κ), L[i]? = some p → p.2 = ks → ∃ d, c ≤ d ∧ d < K ∧ t.place.toList[i]? = some (way t.mask (tupleKeyHash knd ks) d)) → wpAny (model P w) A (setSearchFrom a (.ref x) (tupleKeyHash knd ks) true f st) Q E s := by
  obtain ⟨o, at_, ex, dat⟩ := S.obj
  intro f
  induction f with
  | zero => exact fun c st _ h1 h2 => absurd h2 (by omega)
  | succ f ih =>
    intro c st hst hc hf left
    rw [setSearchFrom_succ]
    refine wpAny_bind (wpAny_setState_of at_ dat S.fits ?_)
    dsimp only
    refine wp_if_neg S.stays ?_
    try refine wpAny_bind (wpAny_pure ?_)
    rcases answer S lt free taken hc with ⟨d, i, p, cd, dK, pl, hp, bare, pr⟩ | ⟨bare, pr⟩
    · rw [show t.probe (fun i => (es[i]?.map (·.1)).getD 0) (tupleKeyHash knd ks) (st.getD (t.probeStart (tupleKeyHash knd ks))) = _ from hst ▸ pr]
      dsimp only
      have pm : p ∈ L := List.mem_of_getElem? hp
      have live : t.slot (way t.mask (tupleKeyHash knd ks) d) = .live i := slot_live S.tab.ris pl
      have go : wpAny (model P w) A (searchRest a (.ref x) (tupleKeyHash knd ks) true f es t (way t.mask (tupleKeyHash knd ks) d) i (stp t (tupleKeyHash knd ks) (d + 1))) Q E s := by
        unfold searchRest
        rw [S.cell hp]
        dsimp only
        refine wpAny_bind (wpAny_holding (wpAny_eqBool_tuple hu (S.keys p pm) tk ?_))
        refine wpAny_bind (wpAny_setState_of at_ dat S.fits ?_)
        dsimp only
        by_cases same : p.2 = ks
        · exact wp_if_pos (by simp [same]) (wpAny_pure (yes (List.mem_map.mpr ⟨p, pm, same⟩)))
        · refine wp_if_neg (by simp [same]) ?_
          try refine wpAny_bind (wpAny_pure ?_)
          rw [sameMem]
          dsimp only
          simp only [if_true, live, S.cell hp]
          refine wpAny_bind (wpAny_isSame_ref_self (wpAny_bind (wpAny_pure ?_)))
          simp only [if_true]
          refine wp_if_neg (by simp [same]) ?_
          refine ih (d + 1) _ rfl (by omega) (by omega) fun i2 p2 h2 e2 => ?_
          obtain ⟨d2, g1, g2, g3⟩ := left i2 p2 h2 e2
          refine ⟨d2, ?_, g2, g3⟩
          have far : ¬ d2 < d := fun l => bare d2 i2 p2 g1 l g3 h2 (by unfold hsh; rw [e2])
          have ne : d2 ≠ d := by
            rintro rfl
            have l2 := slot_live S.tab.ris g3
            rw [live] at l2
            injection l2 with l2
            rw [← l2, hp] at h2
            cases h2
            exact same e2
          omega
      by_cases led : t.led = true
      · refine wp_if_neg (by simp [led]) ?_
        try refine wpAny_bind (wpAny_pure ?_)
        exact go
      · refine wp_if_pos (by simp [led]) ?_
        refine wpAny_bind (seen_none C tk (fun y hy => ?_) ?_)
        · obtain ⟨e, he, rfl⟩ := List.mem_map.mp hy
          have m1 : e ∈ es.toList := by
            have q : e ∈ es ∧ e.1 = tupleKeyHash knd ks := by simpa using he
            simpa using q.1
          rw [S.cells] at m1
          obtain ⟨p2, m2, rfl⟩ := List.mem_map.mp m1
          exact ⟨p2.2, p2.1, rfl, S.keys p2 m2⟩
        · refine wp_if_neg (by decide) ?_
          try refine wpAny_bind (wpAny_pure ?_)
          exact go
    · rw [show t.probe (fun i => (es[i]?.map (·.1)).getD 0) (tupleKeyHash knd ks) (st.getD (t.probeStart (tupleKeyHash knd ks))) = _ from hst ▸ pr]
      dsimp only
      refine wpAny_pure (no fun m => ?_)
      obtain ⟨p, pm, e⟩ := List.mem_map.mp m
      obtain ⟨i, hi, rfl⟩ := List.getElem_of_mem pm
      have hp : L[i]? = some L[i] := List.getElem?_eq_getElem hi
      obtain ⟨d, g1, g2, g3⟩ := left i _ hp e
      exact bare d i _ g1 g2 g3 hp (by unfold hsh; rw [e])
theorem seek_at (S : TSet knd s.heap a L es ep t) (C : Calm knd) {x : Addr} {ks : List κ} (tk : IsTupleKey knd s.heap ks x) (hu : A.units < cLine) {Q : SetFound → Shared → Prop} (yes : ks ∈ L.map (·.2) → Q (.there none) s)
    (no : ∀ K, ks ∉ L.map (·.2) → way t.mask (tupleKeyHash knd ks) K ∉ t.place.toList → (∀ d, d < K → way t.mask (tupleKeyHash knd ks) d ∈ t.place.toList) → Q (.free (way t.mask (tupleKeyHash knd ks) K) false) s) :
    wpAny (model P w) A (setSearch a (.ref x) (tupleKeyHash knd ks) true) Q E s := by
  have rm := S.room
  obtain ⟨K, lt, free, taken⟩ := S.tab.first (by rw [List.length_map]; omega) (tupleKeyHash knd ks)
  have small : K < 100000 := by
    have : 10 * SetTable.turns t.mask ≤ 1420 := by
      unfold SetTable.turns
      rcases S.tab.mok with e | e | e <;> omega
    omega
  unfold setSearch
  refine seek S C tk hu lt free taken yes (fun n => no K n free taken) 100000 0 none rfl (Nat.zero_le _) (by omega) fun i p hp e => ?_
  have h1 : (L.map (hsh knd))[i]? = some (tupleKeyHash knd ks) := by
    rw [List.getElem?_map, hp, ← e]
    rfl
  have il : i < t.place.toList.length := by
    rw [S.places]
    exact (List.getElem?_eq_some_iff.mp hp).1
  have h2 := List.getElem?_eq_getElem il
  obtain ⟨d, hd, e2⟩ := S.tab.before free h1 h2
  exact ⟨d, Nat.zero_le _, hd, by rw [h2, e2]⟩
/-- the heap changed at the set alone -/
theorem key_beside {h h2 : Heap} {ks : List κ} {b : Addr} {o : Obj} (k : IsTupleKey knd h ks b) (at_ : h.get? a = some o) (dat : o.data = .set es ep t) (only : Heap.SameBut a h h2) : IsTupleKey knd h2 ks b := by
  obtain ⟨o2, its, n, e, c, d, r⟩ := k
  have ne : b ≠ a := fun z => by
    rw [z, at_] at e
    cases e
    rw [dat] at d
    cases d
  exact ⟨o2, its, n, (only.2 b ne).trans e, c, d, r⟩
theorem cells_in (L : List (Addr × List κ)) (p : Nat) (q : Addr × List κ) : cellsOf knd (L.take p ++ q :: L.drop p) = (cellsOf knd L).take p ++ (hsh knd q, Value.ref q.1) :: (cellsOf knd L).drop p := by
  unfold cellsOf
  rw [List.map_append, List.map_cons, List.map_take, List.map_drop]
theorem fm_range {α : Type} : ∀ L : List α, ((List.range L.length).filterMap fun i => L[i]?) = L
  | [] => rfl
  | x :: xs => by
    rw [List.length_cons, List.range_succ_eq_map, List.filterMap_cons_some (f := fun i => (x :: xs)[i]?) (a := 0) (b := x) rfl, List.filterMap_map]
    exact congrArg (x :: ·) (fm_range xs)
/-- a new order of the cells -/
theorem cells_order (L : List (Addr × List κ)) (es : Array (Int × Value)) (ord : Array Nat) (h : es.toList = cellsOf knd L) (pm : ord.toList.Perm (List.range L.length)) :
    ∃ M, (ord.filterMap (es[·]?)).toList = cellsOf knd M ∧ M.Perm L ∧ M.map (hsh knd) = ord.toList.map fun i => (es.map (·.1)).getD i 0 := by
  have at_ : ∀ i, es[i]? = (L[i]?).map fun p => (hsh knd p, Value.ref p.1) := fun i => by
    rw [← Array.getElem?_toList, h]
    unfold cellsOf
    rw [List.getElem?_map]
  refine ⟨ord.toList.filterMap fun i => L[i]?, ?_, ?_, ?_⟩
  · have e : (ord.filterMap (es[·]?)).toList = ord.toList.filterMap fun i => es[i]? := by simp
    rw [e]
    unfold cellsOf
    rw [List.map_filterMap]
    exact congrArg (fun f => ord.toList.filterMap f) (funext at_)
  · have q := pm.filterMap fun i => L[i]?
    exact q.trans (List.Perm.of_eq (fm_range L))
  · have key : ∀ l : List Nat, (∀ i ∈ l, i < L.length) → (l.filterMap fun i => L[i]?).map (hsh knd) = l.map fun i => (es.map (·.1)).getD i 0 := by
      intro l
      induction l with
      | nil => exact fun _ => rfl
      | cons i l ih =>
        intro all
        have il := all i List.mem_cons_self
        have e1 := List.getElem?_eq_getElem il
        have e2 : (es.map (·.1)).getD i 0 = hsh knd L[i] := by
          have e3 : (es.map (·.1))[i]? = some (hsh knd L[i]) := by
            rw [Array.getElem?_map, at_, e1]
            rfl
          simp [Array.getD_eq_getD_getElem?, e3]
        rw [List.filterMap_cons_some e1, List.map_cons, List.map_cons, ih fun j hj => all j (List.mem_cons_of_mem _ hj), e2]
    exact key _ fun i hi => List.mem_range.mp (pm.mem_iff.mp hi)
end
end Gk
/-! Gk22: a tuple is added to a set. -/
namespace Gk
open PySem PySem.Spec PyProof.Rows L2
section
variable {P : Program} {w : World} {κ : Type} [DecidableEq κ] {knd : KeyKind P w κ} {A : Around} {E : Value → Shared → Prop} {s : Shared}
variable {a : Addr} {L : List (Addr × List κ)} {es : Array (Int × Value)} {ep : Nat} {t : SetTable}
/-- what stands before the table is laid anew -/
structure Loaded (knd : KeyKind P w κ) (h : Heap) (a : Addr) (L : List (Addr × List κ)) (es : Array (Int × Value)) (ep : Nat) (t : SetTable) : Prop where
  obj : ∃ o, h.get? a = some o ∧ o.ExactSet ∧ o.data = .set es ep t
  cells : es.toList = cellsOf knd L
  sz : t.place.size = es.size
  dm : t.dummies = #[]
  fit : es.size ≤ t.mask
  nodup : (L.map (·.2)).Nodup
  keys : ∀ p ∈ L, IsTupleKey knd h p.2 p.1
  led : w.params.followText "set-order" = true ∨ t.led = true
  few : L.length < 64
theorem relay_tup (S : Loaded knd s.heap a L es ep t) {wanted M : Nat} (hw : SetTable.sizeAbove wanted - 1 = M) (hM : MaskOk M) (small : SetTable.sizeAbove wanted ≤ 128) (rm : L.length * 5 < M * 3) {Q : Unit → Shared → Prop}
    (go : ∀ h2 L2 es2 ep2 t2, Heap.SameBut a s.heap h2 → TSet knd h2 a L2 es2 ep2 t2 → L2.Perm L → Q () { s with heap := h2 }) : wpAny (model P w) A (setRelay a wanted) Q E s := by
  obtain ⟨o, at_, ex, dat⟩ := S.obj
  have size : es.size = L.length := by
    rw [← Array.length_toList, S.cells]
    exact List.length_map _
  have fits : t.fits es.size = true := by
    have e1 := S.sz
    have e2 := S.fit
    unfold SetTable.fits SetTable.fill
    rw [S.dm, Bool.and_eq_true, beq_iff_eq, decide_eq_true_eq]
    exact ⟨e1, by show t.place.size + 0 ≤ t.mask; omega⟩
  obtain ⟨t2, ord, lay, pm, T, em, el, _, _⟩ := relaid_ok t (hs := es.map (·.1)) (wanted := wanted) hw hM (by rw [Array.size_map]; omega)
  rw [Array.size_map, size] at pm
  obtain ⟨L2, c2, p2, hs2⟩ := cells_order L es ord S.cells pm
  rw [← hs2] at T
  have size2 : (ord.filterMap (es[·]?)).size = es.size := by
    rw [← Array.length_toList, c2, size, ← p2.length_eq]
    exact List.length_map _
  rw [setRelay_eq]
  refine wpAny_bind (wpAny_setState_of at_ dat fits ?_)
  dsimp only
  refine wp_if_neg (by rw [sizeLine_eq]; omega) ?_
  try refine wpAny_bind (wpAny_pure ?_)
  rw [lay]
  dsimp only
  refine wpAny_bind (wp_if_neg (by rw [size2]; simp) ?_)
  try refine wpAny_bind (wpAny_pure ?_)
  refine wpAny_pure ?_
  dsimp only
  refine wpAny_storeSet_of at_ dat ?_ (by rw [size2, size, sizeLine_eq]; have := S.few; omega)
  have only : Heap.SameBut a s.heap (s.heap.update a (Obj.putSet (ord.filterMap (es[·]?)) t2)) := Heap.SameBut.update ..
  refine go _ L2 _ (ep + 1) t2 only ⟨⟨_, store_at at_ dat, ⟨ex.1, ex.2.1, ex.2.2⟩, rfl⟩, c2, T, (p2.map (·.2)).nodup_iff.mpr S.nodup, fun p hp => key_beside (S.keys p (p2.mem_iff.mp hp)) at_ dat only, by rw [el]; exact S.led, ?_, ?_⟩ p2
  · rw [p2.length_eq, em]
    exact rm
  · rw [p2.length_eq]
    exact S.few
theorem TabOk.same {t u : SetTable} {hs : List Int} (T : TabOk t hs) (e1 : u.place = t.place) (e2 : u.dummies = t.dummies) (e3 : u.mask = t.mask) : TabOk u hs := by
  refine ⟨by rw [e1]; exact T.ris, e2.trans T.dm, by rw [e1]; exact T.sz, by rw [e3]; exact T.mok, by rw [e1, e3]; exact T.bd, ?_⟩
  rw [e1, e3]
  exact T.reach
theorem add_tup (S : TSet knd s.heap a L es ep t) (C : Calm knd) {x : Addr} {ks : List κ} (tk : IsTupleKey knd s.heap ks x) (hu : A.units < cLine) (few : L.length + 1 < 64) {Q : Bool → Shared → Prop}
    (go : ∀ b h2 L2 es2 ep2 t2, Heap.SameBut a s.heap h2 → TSet knd h2 a L2 es2 ep2 t2 → (ks ∈ L.map (·.2) → L2 = L) → (ks ∉ L.map (·.2) → L2.Perm ((x, ks) :: L)) → Q b { s with heap := h2 }) :
    wpAny (model P w) A (setAddHashed a (.ref x) (tupleKeyHash knd ks)) Q E s := by
  obtain ⟨o, at_, ex, dat⟩ := S.obj
  have size := S.size
  have rm := S.room
  unfold setAddHashed
  refine wpAny_holding ?_
  rw [show (100000 : Nat) = 99999 + 1 from rfl, setAddHashedIn_succ]
  refine wpAny_bind (wpAny_setState_of at_ dat S.fits ?_)
  dsimp only
  refine wp_if_neg (by simp [byScan, Value.scannable]) ?_
  try refine wpAny_bind (wpAny_pure ?_)
  refine wpAny_bind (seek_at S C tk hu (fun m => ?_) fun K new free taken => ?_)
  · dsimp only
    exact wpAny_pure (go false s.heap L es ep t (Heap.SameBut.refl a s.heap) S (fun _ => rfl) fun z => absurd m z)
  · dsimp only
    refine wpAny_bind (wpAny_setState_of at_ dat S.fits ?_)
    dsimp only
    obtain ⟨u1, u2, u3, u4, u5, u6, u7, u8, u9⟩ := S.tab.put free taken
    generalize hput : t.put (way t.mask (tupleKeyHash knd ks) K) = tp at u1 u3 u4 u5 u6 u7 u8 u9 ⊢
    obtain ⟨t1, p⟩ := tp
    dsimp only at u1 u3 u4 u5 u6 u7 u8 u9 ⊢
    subst u1
    generalize hp : SetTable.below t.place (way t.mask (tupleKeyHash knd ks) K) = p at u2 u3 ⊢
    have tail : ∀ c : Bool, wpAny (model P w) A (do
        storeSet a (SetTable.insertAt es p (tupleKeyHash knd ks, Value.ref x)) (if c = true then t1 else { t1 with plain := false })
        if (!false && (if c = true then t1 else { t1 with plain := false }).tooFull) = true then do
          setRelay a (SetTable.grown (es.size + 1))
          pure true
        else pure true) Q E s := by
      intro c
      have pl : (if c = true then t1 else { t1 with plain := false }).place = t1.place := by cases c <;> rfl
      have dm : (if c = true then t1 else { t1 with plain := false }).dummies = t1.dummies := by cases c <;> rfl
      have mk : (if c = true then t1 else { t1 with plain := false }).mask = t1.mask := by cases c <;> rfl
      have ld : (if c = true then t1 else { t1 with plain := false }).led = t1.led := by cases c <;> rfl
      have fl : (if c = true then t1 else { t1 with plain := false }).fill = t1.fill := by cases c <;> rfl
      generalize (if c = true then t1 else { t1 with plain := false }) = t2 at pl dm mk ld fl ⊢
      have T2 := Gk.TabOk.same u3 pl dm mk
      rw [← mk] at u4
      rw [← ld] at u5
      rw [← fl] at u9
      have ins : (SetTable.insertAt es p (tupleKeyHash knd ks, Value.ref x)).toList = cellsOf knd (L.take p ++ (x, ks) :: L.drop p) := by
        rw [SetTable.toList_insertAt, cells_in, S.cells]
        rfl
      have pm := put_perm L p (x, ks)
      have len : (L.take p ++ (x, ks) :: L.drop p).length = L.length + 1 := pm.length_eq
      have hs : (L.take p ++ (x, ks) :: L.drop p).map (hsh knd) = (L.map (hsh knd)).take p ++ tupleKeyHash knd ks :: (L.map (hsh knd)).drop p := by
        rw [List.map_append, List.map_cons, List.map_take, List.map_drop]
        rfl
      rw [← hs] at T2
      have nd : ((L.take p ++ (x, ks) :: L.drop p).map (·.2)).Nodup := by
        refine (pm.map (·.2)).nodup_iff.mpr ?_
        rw [List.map_cons]
        exact List.nodup_cons.mpr ⟨new, S.nodup⟩
      have esz : (SetTable.insertAt es p (tupleKeyHash knd ks, Value.ref x)).size = L.length + 1 := by
        rw [← Array.length_toList, ins, ← len]
        exact List.length_map _
      generalize SetTable.insertAt es p (tupleKeyHash knd ks, Value.ref x) = es1 at ins esz ⊢
      generalize L.take p ++ (x, ks) :: L.drop p = L1 at pm len T2 nd ins
      refine wpAny_bind (wpAny_storeSet_of at_ dat ?_ (by rw [esz, sizeLine_eq]; omega))
      have only : Heap.SameBut a s.heap (s.heap.update a (Obj.putSet es1 t2)) := Heap.SameBut.update ..
      have at1 := store_at (es' := es1) (t' := t2) at_ dat
      have keys1 : ∀ q ∈ L1, IsTupleKey knd (s.heap.update a (Obj.putSet es1 t2)) q.2 q.1 := fun q hq => by
        rcases List.mem_cons.mp (pm.mem_iff.mp hq) with e | hq
        · rw [e]
          exact key_beside tk at_ dat only
        · exact key_beside (S.keys q hq) at_ dat only
      generalize s.heap.update a (Obj.putSet es1 t2) = h1 at only at1 keys1 ⊢
      have led2 : w.params.followText "set-order" = true ∨ t2.led = true := by rw [u5]; exact S.led
      have full : t2.tooFull = decide ((L.length + 1) * 5 ≥ t2.mask * 3) := by
        unfold SetTable.tooFull
        rw [u9, List.length_map]
      by_cases hf : (L.length + 1) * 5 ≥ t2.mask * 3
      · refine wp_if_pos (by rw [full, decide_eq_true hf]; rfl) ?_
        rw [size]
        have which : (t.mask = 7 ∧ L.length = 4) ∨ (t.mask = 31 ∧ L.length = 18) := by
          rw [u4] at hf
          rcases S.tab.mok with e | e | e
          · rw [e] at hf rm
            exact .inl ⟨e, by omega⟩
          · rw [e] at hf rm
            exact .inr ⟨e, by omega⟩
          · rw [e] at hf
            omega
        have sz2 : t2.place.size = es1.size := by
          have h := T2.sz
          rw [List.length_map, len] at h
          rw [h, esz]
        have ld2 : Loaded knd h1 a L1 es1 (ep + 1) t2 := ⟨⟨_, at1, ⟨ex.1, ex.2.1, ex.2.2⟩, rfl⟩, ins, sz2, T2.dm, (by rw [esz, u4]; rcases which with ⟨e, e2⟩ | ⟨e, e2⟩ <;> omega), nd, keys1, led2, by rw [len]; exact few⟩
        have on : ∀ M, SetTable.sizeAbove (SetTable.grown (L.length + 1)) - 1 = M → MaskOk M → SetTable.sizeAbove (SetTable.grown (L.length + 1)) ≤ 128 → (L.length + 1) * 5 < M * 3 →
            wpAny (model P w) A (setRelay a (SetTable.grown (L.length + 1)) >>= fun _ => pure true) Q E { s with heap := h1 } := by
          intro M m1 m2 m3 m4
          refine wpAny_bind (relay_tup (s := { s with heap := h1 }) ld2 m1 m2 m3 (by rw [len]; exact m4) fun h2 L2 es2 ep2 t3 only2 S2 p2 => ?_)
          exact wpAny_pure (go true h2 L2 es2 ep2 t3 (only.trans only2) S2 (fun z => absurd z new) fun _ => p2.trans pm)
        rcases which with ⟨_, e2⟩ | ⟨_, e2⟩
        · exact on 31 (by rw [e2, size_20]) (.inr (.inl rfl)) (by rw [e2, size_20]; decide) (by omega)
        · exact on 127 (by rw [e2, size_76]) (.inr (.inr rfl)) (by rw [e2, size_76]; decide) (by omega)
      · refine wp_if_neg (by rw [full, decide_eq_false hf]; decide) ?_
        exact wpAny_pure (go true h1 L1 es1 (ep + 1) t2 only ⟨⟨_, at1, ⟨ex.1, ex.2.1, ex.2.2⟩, rfl⟩, ins, T2, nd, keys1, led2, by rw [len]; omega, by rw [len]; exact few⟩ (fun z => absurd z new) fun _ => pm)
    by_cases pl : t1.plain = true
    · exact wp_if_pos pl (wpAny_bind (byv_tup C tk fun c => tail c))
    · exact wp_if_neg pl (wpAny_bind (wpAny_pure (tail true)))
end
end Gk
/-! Gk23: set(xs), xs a list of tuples. -/
namespace Gk
open PySem PySem.Spec PyProof.Rows L2
section
variable {P : Program} {w : World} {κ : Type} [DecidableEq κ] {knd : KeyKind P w κ} {A : Around} {E : Value → Shared → Prop} {s : Shared}
/-- L: the different ones among the first i of ks -/
structure Took (ks : List (Addr × List κ)) (i : Nat) (L : List (Addr × List κ)) : Prop where
  sub : ∀ q ∈ L, q ∈ ks.take i
  all : ∀ q ∈ ks.take i, q.2 ∈ L.map (·.2)
  len : L.length ≤ i
theorem took_none (ks : List (Addr × List κ)) : Took ks 0 [] := ⟨(fun p m => nomatch m), fun p m => by simp at m, Nat.le_refl _⟩
theorem took_next {ks L M : List (Addr × List κ)} {i : Nat} {x : Addr × List κ} (g : Took ks i L) (h : ks[i]? = some x) (old : x.2 ∈ L.map (·.2) → M = L) (new : x.2 ∉ L.map (·.2) → M.Perm (x :: L)) : Took ks (i + 1) M := by
  have tk : ks.take (i + 1) = ks.take i ++ [x] := by
    rw [List.take_add_one, h]
    rfl
  by_cases c : x.2 ∈ L.map (·.2)
  · rw [old c]
    refine ⟨fun p m => ?_, fun p m => ?_, Nat.le_succ_of_le g.len⟩
    · rw [tk]
      exact List.mem_append_left _ (g.sub p m)
    · rw [tk] at m
      rcases List.mem_append.mp m with m | m
      · exact g.all p m
      · rw [List.mem_singleton.mp m]
        exact c
  · have pm := new c
    refine ⟨fun p m => ?_, fun p m => ?_, ?_⟩
    · rw [tk]
      rcases List.mem_cons.mp (pm.mem_iff.mp m) with e | m
      · rw [e]
        exact List.mem_append_right _ List.mem_cons_self
      · exact List.mem_append_left _ (g.sub p m)
    · rw [tk] at m
      have pm2 := pm.map (·.2)
      rcases List.mem_append.mp m with m | m
      · exact pm2.mem_iff.mpr (List.mem_cons_of_mem _ (g.all p m))
      · rw [List.mem_singleton.mp m]
        exact pm2.mem_iff.mpr List.mem_cons_self
    · rw [pm.length_eq]
      exact Nat.succ_le_succ g.len
theorem key_keep {h h2 : Heap} {ks : List κ} {b : Addr} (k : IsTupleKey knd h ks b) (e : ∀ c o, h.get? c = some o → h2.get? c = some o) : IsTupleKey knd h2 ks b := by
  obtain ⟨o, its, n, at_, r⟩ := k
  exact ⟨o, its, n, e b o at_, r⟩
theorem TSet.keep {h h2 : Heap} {a : Addr} {L : List (Addr × List κ)} {es : Array (Int × Value)} {ep : Nat} {t : SetTable} (S : TSet knd h a L es ep t) (ea : ∀ o, h.get? a = some o → h2.get? a = some o) (ek : ∀ p ∈ L, IsTupleKey knd h2 p.2 p.1) : TSet knd h2 a L es ep t := by
  obtain ⟨o, at_, r⟩ := S.obj
  exact ⟨⟨o, ea o at_, r⟩, S.cells, S.tab, S.nodup, ek, S.led, S.room, S.few⟩
/-- a set object as set() lays it -/
abbrev bareSet (w : World) : Obj := { cls := .type "set", dict := none, data := .set #[] 0 (.fresh 0 0 (!w.params.followText "set-order")) }
theorem tset_new {h : Heap} {a : Addr} (at_ : h.get? a = some (bareSet w)) : TSet knd h a [] #[] 0 (.fresh 0 0 (!w.params.followText "set-order")) := by
  refine ⟨⟨_, at_, ⟨rfl, rfl, rfl⟩, rfl⟩, rfl, ⟨List.Pairwise.nil, rfl, rfl, .inl rfl, (fun x m => nomatch m), fun i g j e => by simp at e⟩, List.nodup_nil, (fun p m => nomatch m), ?_, (by show 0 * 5 < 7 * 3; decide), (by show 0 < 64; decide)⟩
  show _ ∨ (!w.params.followText "set-order") = true
  cases w.params.followText "set-order" <;> simp
end
end Gk
namespace Gk
open PySem PySem.Spec PyProof.Rows L2
section
variable {P : Program} {w : World} {κ : Type} [DecidableEq κ] {knd : KeyKind P w κ} {A : Around} {E : Value → Shared → Prop} {s : Shared}
/-- the loop of set.update over tuples -/
theorem fill_loop (C : Calm knd) {I : Addr} {fp wr : List Addr} {G : Array GenState → Array GenState → Prop} {n : Nat} {Pv : Nat → Value → Prop} {St : Nat → Shared → Prop} {R : Result → Shared → Prop} (W : WalksS P w A.in1 I fp wr G n Pv St) (Z : Addr) (out : Z ∉ fp)
    (ks : List (Addr × List κ)) (hn : n = ks.length) (few : ks.length < 64) (val : ∀ i v, Pv i v → ∃ q, ks[i]? = some q ∧ v = .ref q.1) (h0 : Heap) (k0 : ∀ q ∈ ks, IsTupleKey knd h0 q.2 q.1) (z0 : h0.get? Z = none)
    (w0 : ∀ b ∈ wr, h0.get? b = none) (hu : A.in1.units < cLine) : ∀ (m i : Nat) (s : Shared), n - i = m → i ≤ n → St i s → (∀ b o, h0.get? b = some o → s.heap.get? b = some o) → (∃ L es ep t, TSet knd s.heap Z L es ep t ∧ Took ks i L) →
      (∀ s2 L es ep t, Moved (Z :: wr) G s s2 → TSet knd s2.heap Z L es ep t → Took ks n L → (∀ b o, h0.get? b = some o → s2.heap.get? b = some o) → R (.ok (.ret .none)) s2) →
      codeAny (model P w) A (.builtin "set.update.loop" ⟨[.ref Z, .ref I], []⟩) R s := by
  have zw : Z ∉ wr := fun z => out (W.sub _ z)
  have more : ∀ b ∈ wr, b ∈ Z :: wr := fun b z => List.mem_cons_of_mem _ z
  have hold : ∀ {s1 s2 : Shared}, Moved wr G s1 s2 → (∀ b o, h0.get? b = some o → s1.heap.get? b = some o) → ∀ b o, h0.get? b = some o → s2.heap.get? b = some o := by
    intro s1 s2 mv kp b o e
    refine mv.heap b o (fun z => ?_) (kp b o e)
    rw [w0 b z] at e
    cases e
  intro m
  induction m with
  | zero =>
    intro i s em hi hst kp ⟨L, es, ep, t, S, g⟩ fin
    obtain rfl : i = n := by omega
    refine codeAny_builtin F.entry_set_update_loop ?_
    rw [Around.under_plainId F.plain_set_update_loop _]
    refine wpAny_bind (m := pyNext (.ref I)) (W.done s _ _ hst fun s2 mv => ?_)
    have kp2 := hold mv kp
    refine wpAny_pure (fin s2 L es ep t (mv.mono more) (S.keep (fun o e => mv.heap Z o zw e) fun q hq => key_keep (k0 q (List.mem_of_mem_take (g.sub q hq))) kp2) g kp2)
  | succ m ih =>
    intro i s em hi hst kp ⟨L, es, ep, t, S, g⟩ fin
    have lt : i < n := by omega
    refine codeAny_builtin F.entry_set_update_loop ?_
    rw [Around.under_plainId F.plain_set_update_loop _]
    refine wpAny_bind (m := pyNext (.ref I)) (W.item i s _ _ lt hst fun v s2 pv hst2 mv => ?_)
    obtain ⟨q, hq, rfl⟩ := val i v pv
    have kp2 := hold mv kp
    have S2 : TSet knd s2.heap Z L es ep t := S.keep (fun o e => mv.heap Z o zw e) fun r hr => key_keep (k0 r (List.mem_of_mem_take (g.sub r hr))) kp2
    have tk : IsTupleKey knd s2.heap q.2 q.1 := key_keep (k0 q (List.mem_of_getElem? hq)) kp2
    refine wpAny_bind (m := holding [Value.ref q.1] (setAdd Z (.ref q.1))) (wpAny_holding ?_)
    unfold setAdd
    refine wpAny_holding (wpAny_bind (wpAny_pyHash_tuple hu tk ?_))
    refine add_tup (s := { s2 with toks := s2.toks + (q.2.length + 1) }) S2 C tk hu (by have := g.len; omega) fun b h3 L3 es3 ep3 t3 only S3 c1 c2 => ?_
    have kp3 : ∀ b o, h0.get? b = some o → h3.get? b = some o := fun b o e => by
      refine (only.2 b fun z => ?_).trans (kp2 b o e)
      rw [z, z0] at e
      cases e
    have step : St (i + 1) { s2 with heap := h3, toks := s2.toks + (q.2.length + 1) } := W.frame _ s2 _ _ hst2 (Nat.le_add_right _ _) fun b hb o e => by
      rw [only.2 b fun z => out (by rw [← z]; exact hb)]
      exact e
    refine wpAny_pure ⟨plainId_quiet F.plain_set_update_loop _, ih (i + 1) _ (by omega) lt step kp3 ⟨L3, es3, ep3, t3, S3, took_next g hq c1 c2⟩ fun s4 L4 es4 ep4 t4 mv4 S4 g4 kp4 => ?_⟩
    refine fin s4 L4 es4 ep4 t4 (Moved.trans W.gtrans ((mv.mono more).then_heap (Nat.le_add_right _ _) fun b o nb e => ?_) mv4) S4 g4 kp4
    rw [only.2 b fun z => nb (by rw [z]; exact List.mem_cons_self)]
    exact e
end
end Gk
/-! Gk24: set(xs), the call. -/
namespace Gk
open PySem PySem.Spec PyProof.Rows L2
section
variable {P : Program} {w : World} {κ : Type} [DecidableEq κ] {knd : KeyKind P w κ} {A : Around} {E : Value → Shared → Prop} {s : Shared}
/-- the heap with a bare set laid -/
abbrev withSet (w : World) (h : Heap) : Heap := h.push (bareSet w)
set_option maxHeartbeats 8000000 in
theorem set_call (C : Calm knd) {l : Addr} {its : Array Value} (ks : List (Addr × List κ)) {Q : Value → Shared → Prop} (calm : A.handled = none) (hl : s.heap.IsList l its) (eq : its.toList = ks.map fun q => Value.ref q.1)
    (key : ∀ q ∈ ks, IsTupleKey knd s.heap q.2 q.1) (few : ks.length < 64) (hu : A.units + 3 < cLine)
    (go : ∀ (h2 : Heap) (tk : Nat) L es ep t, TSet knd h2 s.heap.objs.size L es ep t → Took ks ks.length L → (∀ b o, s.heap.get? b = some o → h2.get? b = some o) → Q (.ref s.heap.objs.size) { s with heap := h2, toks := tk }) :
    wpAny (model P w) A (call (.type "set") [.ref l]) Q E s := by
  have isz : its.size = ks.length := by
    rw [← Array.length_toList, eq]
    exact List.length_map _
  obtain ⟨c, tl, hmro⟩ := F.called_set.mro
  have made := F.called_set.made
  have sub_ := F.called_set.sub
  refine wpAny_call (codeAny_of_tree ?_)
  show wpAny _ _ (callAny (.type "set") _) _ _ _
  refine wpAny_pure ⟨Code.quiet_builtin _ (by decide +kernel), codeAny_builtin F.entry_type_call ?_⟩
  rw [Around.under_plain (weight_type_call_type "set" [.ref l] []) rfl]
  have nt := F.called_set.notType
  have can := F.called_set.canCreate
  have tc := F.typeCall_set_1 (.ref l)
  repeat (any_goals (first | assumption | wp_step))
  refine codeAny_mono (code_set_led1 (.ref l) (E := E) (Q₁ := fun ob s1 => ob = .ref s.heap.objs.size ∧ s1 = { s with heap := withSet w s.heap }) ⟨rfl, rfl⟩) fun r s1 hr => ?_
  cases r with
  | error e => exact hr
  | ok fl =>
    cases fl with
    | ret ob =>
      obtain ⟨rfl, rfl⟩ := hr
      have at_ : (withSet w s.heap).get? s.heap.objs.size = some (bareSet w) := Heap.get?_push_size _ rfl
      have ty : Shared.TypeIs { s with heap := withSet w s.heap } (.ref s.heap.objs.size) "set" := ⟨_, at_, rfl⟩
      have li := F.called_set.init.lookup
      have bi := F.called_set.init.bind (.ref s.heap.objs.size)
      repeat (any_goals (first | assumption | wp_step))
      refine codeAny_mono (codeAny_call_builtin (R := wants (fun r s2 => r = .none ∧ ∃ h2 tk L es ep t, s2 = { s with heap := h2, toks := tk } ∧ TSet knd h2 s.heap.objs.size L es ep t ∧ Took ks ks.length L ∧
          ∀ b o, s.heap.get? b = some o → h2.get? b = some o) E) F.called_set.init.plain F.entry_set_init (check_set_init_1 ty ?_)) fun r2 s2 hr2 => ?_
      · obtain ⟨⟨cls, dict, data, slots⟩, al, hc, nl, hd⟩ := hl
        simp only at hc hd
        subst hc hd
        have al1 : (withSet w s.heap).get? l = some { cls := .type "list", dict := dict, data := .seq its nl, slots := slots } := Heap.get?_push_of_some _ al
        have nsub := F.sub_list_set
        have nfro := F.sub_list_frozenset
        have ndic : (Value.type "list" == Value.type "dict") = false := by decide
        have il : (withSet w s.heap).IsList l its := ⟨_, al1, rfl, nl, rfl⟩
        unfold Builtin.«set.__init__» noKeywords Builtin.Frozenset.updateFrom
        generalize hI : pyIter = PI
        wp_walk
        subst hI
        refine wpAny_pyIter_list il ?_
        refine wpAny_bind (wpAny_runValue ?_)
        have old : l < s.heap.objs.size := Heap.lt_size al
        have calm3 : A.in1.in1.in1.handled = none := by simp [calm]
        have sz : (withSet w s.heap).objs.size = s.heap.objs.size + 1 := Heap.size_push ..
        have apart : l ≠ (withSet w s.heap).objs.size := by
          rw [sz]
          exact Nat.ne_of_lt (Nat.lt_succ_of_lt old)
        have out : s.heap.objs.size ∉ [(withSet w s.heap).objs.size, l] := by
          rw [sz]
          simp only [List.mem_cons, List.not_mem_nil, or_false, not_or]
          exact ⟨Nat.ne_of_lt (Nat.lt_succ_self _), Nat.ne_of_gt old⟩
        have val : ∀ (i : Nat) (v : Value), its[i]? = some v → ∃ q, ks[i]? = some q ∧ v = .ref q.1 := fun i v hv => by
          rw [← Array.getElem?_toList, eq, List.getElem?_map] at hv
          cases hq : ks[i]? with
          | none => rw [hq] at hv; cases hv
          | some q =>
            rw [hq] at hv
            exact ⟨q, rfl, (Option.some.inj hv).symm⟩
        have none_ : ∀ b, s.heap.objs.size ≤ b → s.heap.get? b = none := fun b hb => by
          cases e : s.heap.get? b with
          | none => rfl
          | some o => exact absurd (Heap.lt_size e) (Nat.not_lt.mpr hb)
        refine fill_loop C ((Walks.list calm3 _ l apart its).toS) s.heap.objs.size out ks isz few val s.heap key (none_ _ (Nat.le_refl _)) (fun b hb => none_ b (by rw [List.mem_singleton.mp hb, sz]; omega)) hu (its.size - 0) 0 _ (by omega) (Nat.zero_le _)
          ⟨⟨_, Heap.get?_push_size _ rfl, rfl, rfl⟩, il.push _⟩ (fun b o e => Heap.get?_push_of_some _ (Heap.get?_push_of_some _ e)) ?fresh ?fin
        case fresh =>
          exact ⟨[], #[], 0, _, tset_new (Heap.get?_push_of_some _ at_), took_none ks⟩
        case fin =>
          intro s3 L es ep t mv S g kp
          obtain ⟨h3, g3, d3, tk3, os3⟩ := s3
          have e1 : g3 = s.gens := mv.gens
          have e2 : d3 = s.drawn := mv.drawn
          have e3 : os3 = s.os := mv.os
          subst e1 e2 e3
          rw [isz] at g
          show wpAny _ _ _ _ _ _
          refine wpAny_pure ?_
          show wpAny _ _ (ret Value.none) _ _ _
          exact wpAny_pure ⟨rfl, h3, tk3, L, es, ep, t, rfl, S, g, kp⟩
      · cases r2 with
        | error e => exact hr2
        | ok fl2 =>
          cases fl2 with
          | ret r =>
            obtain ⟨rfl, h2, tk, L, es, ep, t, rfl, S, g, kp⟩ := hr2
            repeat (any_goals (first | assumption | wp_step))
            exact go _ _ _ _ _ _ S g kp
          | _ => exact hr2.elim
    | _ => exact hr.elim
end
end Gk
/-! Gk25: sorted(set(xs)), xs a list of tuples of texts. -/
namespace Gk
open PySem PySem.Spec PyProof.Rows L2
section
variable {X : Cx}
/-- sorted of what is gathered as tuples of texts -/
theorem sorted_by {ps : List (Addr × Obj)} {st : L2.St} {H : Hp} {s : Shared} {Q : VK} {a : Addr} {L : List (Addr × Pth)} (nL : ∀ b ∈ L, b.2 ≠ []) (hL : ∀ b ∈ L, H b.1 = some (.tup (b.2.map V.str))) (few : L.length < 64)
    (col : ∀ {Qc : List Value → Shared → Prop}, (∀ s1 (bs : List (Addr × Pth)), bs.Perm L → Inv X ps st H s1 → Qc (bs.map fun b => Value.ref b.1) s1) → wpAny (model X.prog X.w) X.A.in1 (collect (.ref a)) Qc X.xe s)
    (q : ∀ (cs : List (Addr × Pth)) (l : Addr), cs.Perm L → cs.Pairwise (fun a b => ltP b.2 a.2 = false) → (∀ b ∈ cs, H b.1 = some (.tup (b.2.map V.str))) → H l = none → Q (.ref l) (upd H l (.lst (cs.map fun b => V.ref b.1)))) :
    wpAny (model X.prog X.w) X.A (call (.builtin "sorted") [.ref a]) (EP X ps st Q) X.xe s := by
  refine Calls.call_function_entry PyProof.Rows.kind_sorted PyProof.Rows.plain_sorted PyProof.Rows.entry_sorted (PyProof.Rows.args_sorted1 _) ?_
  unfold Builtin.«sorted»
  refine wpAny_bind (m := checkCount "sorted" 1 1 _) (wpAny_pure ?_)
  refine wpAny_bind (col fun s1 bs pm I1 => ?_)
  obtain ⟨h1, g1, d1, tk, os1⟩ := s1
  have b3 : ∀ b ∈ bs, H b.1 = some (.tup (b.2.map V.str)) := fun b hb => hL b (pm.mem_iff.mp hb)
  have ne : ∀ b ∈ bs, b.2 ≠ [] := fun b hb => nL b (pm.mem_iff.mp hb)
  have lb : bs.length < 64 := by rw [pm.length_eq]; exact few
  have z : (16777216 : Nat) = sizeLine := sizeLine_eq.symm
  have hln : (bs.map fun b => Value.ref b.1).length ≤ sizeLine := by rw [List.length_map]; omega
  refine wpAny_bind (wpAny_newList ?_ hln)
  have hoL : (h1.push (seqObj "list" (bs.map fun b => Value.ref b.1).toArray 0)).get? h1.objs.size = some (seqObj "list" (bs.map fun b => Value.ref b.1).toArray 0) := Heap.get?_push_size _ rfl
  show wpAny _ _ _ _ _ { heap := h1.push (seqObj "list" (bs.map fun b => Value.ref b.1).toArray 0), gens := g1, drawn := d1, toks := tk, os := os1 }
  -- each key, where it stands
  have at1 : ∀ b ∈ bs, ∃ (ob : Obj) (its : List Value) (n : Nat), (h1.push (seqObj "list" (bs.map fun b => Value.ref b.1).toArray 0)).get? b.1 = some ob ∧ ob.cls = .type "tuple" ∧ ob.data = .seq its.toArray n ∧ Vals (b.2.map V.str) its := by
    intro b hb
    obtain ⟨_, its, rv, ob, g1, g2, n, g3⟩ := (show ObjOk X.prog X.w H h1 b.1 (.tup (b.2.map V.str)) from I1.hok b.1 _ (b3 b hb))
    exact ⟨ob, its, n, Heap.get?_push_of_some _ g1, g2, g3, rv⟩
  have key1 : ∀ b ∈ bs, G.tupKeyC (h1.push (seqObj "list" (bs.map fun b => Value.ref b.1).toArray 0)) shT (.ref b.1) = some (pkey b.2) := by
    intro b hb
    obtain ⟨ob, its, n, g1, g2, g3, rv⟩ := at1 b hb
    exact tupKeyC_at g1 g2 g3 (items_pth b.2 its 0 rv)
  have ne1 : ∀ b ∈ bs, b.2 ≠ [] := by
    intro b hb
    exact ne b hb
  have tups : ∀ cs : List (Addr × Pth), (∀ b ∈ cs, b ∈ bs) → ∃ fs, TupsOf (h1.push (seqObj "list" (bs.map fun b => Value.ref b.1).toArray 0)) shT (cs.map fun b => Value.ref b.1) fs := by
    intro cs
    induction cs with
    | nil => intro _; exact ⟨[], .nil⟩
    | cons c cs ih =>
      intro hc
      obtain ⟨fs, t⟩ := ih fun b hb => hc b (List.mem_cons_of_mem _ hb)
      obtain ⟨ob, its, n, g1, g2, g3, rv⟩ := at1 c (hc c List.mem_cons_self)
      have nz := ne1 c (hc c List.mem_cons_self)
      cases e : c.2 with
      | nil => exact absurd e nz
      | cons x p =>
        rw [e, List.map_cons] at rv
        cases rv with
        | @cons _ u _ its' ru rt =>
          obtain ⟨k, rfl⟩ := ru
          exact ⟨Value.str x k :: fs, .cons ⟨c.1, ob, _, n, rfl, g1, g2, g3, rfl, (fun z => nomatch z), fun _ => ⟨x, k, rfl⟩⟩ t⟩
  obtain ⟨fs, tu⟩ := tups bs fun _ hb => hb
  refine wpAny_bind (wpAny_holding (wpAny_call_entry PyProof.Rows.slot_list_sort ⟨_, hoL, rfl⟩ PyProof.Rows.entry_list_sort
    (G.list_sort_tups (s := { heap := h1.push (seqObj "list" (bs.map fun b => Value.ref b.1).toArray 0), gens := g1, drawn := d1, toks := tk, os := os1 }) (shape := shT) hoL tu ?_ hln fun so hp hs _ => ⟨_, rfl, ?_⟩)
    (PyProof.Rows.args_list_sort _)))
  · intro v hv
    obtain ⟨b, hb, rfl⟩ := List.mem_map.mp hv
    exact ⟨_, key1 b hb⟩
  · have hpl : (arrOf so).toList.Perm (bs.map fun b => ((Value.ref b.1, Value.ref b.1) : Keyed)) := by
      have e := Array.perm_iff_toList_perm.mp hp
      rw [pairsOf_toList] at e
      have e2 : ((bs.map fun b => Value.ref b.1).zip (bs.map fun b => Value.ref b.1)) = bs.map fun b => ((Value.ref b.1, Value.ref b.1) : Keyed) := by
        rw [List.zip_map'] <;> rfl
      rw [e2] at e
      exact e
    obtain ⟨cs, c1, c2⟩ := perm_lift (fun b : Addr × Pth => ((Value.ref b.1, Value.ref b.1) : Keyed)) hpl bs rfl
    have out : ((arrOf so).map (·.2)).toList = cs.map fun b => Value.ref b.1 := by
      rw [Array.toList_map, ← c2, List.map_map] <;> rfl
    have len : cs.length = bs.length := c1.length_eq
    have kk : ∀ (i : Nat) (hi : i < cs.length), KK (G.tupKindC (h1.push (seqObj "list" (bs.map fun b => Value.ref b.1).toArray 0)) shT) (arrOf so) i = pkey cs[i].2 := by
      intro i hi
      have e : (arrOf so)[i]? = some ((Value.ref cs[i].1, Value.ref cs[i].1) : Keyed) := by
        rw [← Array.getElem?_toList, ← c2, List.getElem?_map, List.getElem?_eq_getElem hi] <;> rfl
      unfold KK
      rw [e]
      show (G.tupKeyC (h1.push (seqObj "list" (bs.map fun b => Value.ref b.1).toArray 0)) shT (.ref cs[i].1)).getD [] = _
      rw [key1 cs[i] (c1.mem_iff.mp (List.getElem_mem hi))] <;> rfl
    have srt : cs.Pairwise (fun a b => ltP b.2 a.2 = false) := by
      rw [List.pairwise_iff_getElem]
      intro i j hi hj lt
      have r : PyProof.Rows.lexLt PyProof.Rows.itemOrd (KK (G.tupKindC (h1.push (seqObj "list" (bs.map fun b => Value.ref b.1).toArray 0)) shT) (arrOf so) j)
          (KK (G.tupKindC (h1.push (seqObj "list" (bs.map fun b => Value.ref b.1).toArray 0)) shT) (arrOf so) i) = false :=
        hs i j (Nat.le_of_lt lt) (by rw [pairsOf_size, List.length_map]; omega)
      rw [kk i hi, kk j hj] at r
      exact r
    obtain ⟨ep2, he2⟩ := PyProof.Rows.sortedHeap_at (vs := bs.map fun b => Value.ref b.1) (out := (arrOf so).map (·.2)) hoL
    have lc : (cs.map fun b => V.ref b.1).length ≤ sizeLine := by rw [List.length_map]; omega
    refine wpAny_pure ⟨_, rfl, .ref h1.objs.size, upd H h1.objs.size (.lst (cs.map fun b => V.ref b.1)), I1.laid (t' := tk) (fun b u e => ?_) (Nat.le_refl _)
      (show ObjOk X.prog X.w _ _ _ (.lst (cs.map fun b => V.ref b.1)) from ⟨lc, ((arrOf so).map (·.2)).toList, ep2, by rw [out]; exact vals_fst cs, by rw [Array.toArray_toList]; exact he2⟩), rfl,
      q cs _ (c1.trans pm) srt (fun b hb => b3 b (c1.mem_iff.mp hb)) (I1.hok.fresh (Nat.le_refl _))⟩
    have lt := Heap.lt_size e
    rw [PyProof.Rows.sortedHeap_old (Nat.ne_of_lt lt) (by rw [size_push']; exact Nat.lt_succ_of_lt lt)]
    exact Heap.get?_push_of_some _ e
end
end Gk
/-! Gk26: the rule for sorted(set(e)). -/
namespace Gk
open PySem PySem.Spec PyProof.Rows L2
section
variable {X : Cx}
/-- sorted(set(e)), e a list of tuples of one or more texts -/
def tSortSet (K : PySem.W.Frag) (ta : TE) : TE := fun st H Q => ta st H fun x H1 => ∃ (l : Addr) (bs : List (Addr × Pth)), x = .ref l ∧ SqL K H1 l (bs.map fun b => V.ref b.1) ∧ (∀ b ∈ bs, H1 b.1 = some (.tup (b.2.map V.str))) ∧ (∀ b ∈ bs, b.2 ≠ []) ∧ bs.length < 64 ∧
  ∀ (cs : List (Addr × Pth)) (p : Addr), (cs.map (·.2)).Nodup → (∀ b ∈ cs, b ∈ bs) → (∀ b ∈ bs, b.2 ∈ cs.map (·.2)) → cs.Pairwise (fun a b => ltP b.2 a.2 = false) → cs.length < 64 → H1 p = none → Q (.ref p) (upd H1 p (.lst (cs.map fun b => V.ref b.1)))
theorem keys_strs {P : Program} {w : World} : ∀ {p : Pth} {us : List Value}, Vals (p.map V.str) us → ItemsAre (PySem.strKind P w) p us
  | [], _, .nil => .nil
  | x :: p, _, .cons r t => by
    obtain ⟨k, rfl⟩ := r
    exact .cons (by show Value.isStrOf x (.str x k) = true; simp [Value.isStrOf]) (keys_strs t)
theorem refs_of : ∀ {bs : List (Addr × Pth)} {us : List Value}, Vals (bs.map fun b => V.ref b.1) us → us = bs.map fun b => Value.ref b.1
  | [], _, .nil => rfl
  | b :: bs, _, .cons r t => by
    cases r
    rw [refs_of t]
    rfl
theorem pe_sortSet {a : Expr} {ta : TE} {p p2 q pos : Pos} (hc : X.calm = true) (hu : X.A.units + 64 < cLine) (hg : Gl X "sorted") (hm : X.mg "sorted" = none) (hg2 : Gl X "set") (hm2 : X.mg "set" = none) (ha : PE X a ta)
    (na : starEach [a] X.env = (false, eval a X.env) :: starEach [] X.env := by rfl) : PE X (.Call (.Name "sorted" p) [.Call (.Name "set" p2) [a] [] q] [] pos) (tSortSet X.K ta) := by
  constructor
  intro pins s st H Q I h
  refine Call_ (ld_blt I hg hm PyProof.Rows.boot_sorted ?_)
  refine PyProof.Rows.callWith_builtin1 (PyProof.Rows.args_cons ?_ rfl) rfl rfl
  refine Call_ (ld_blt I hg2 hm2 PyProof.Rows.boot_set ?_)
  refine PyProof.Rows.callWith_type1 (PyProof.Rows.args_cons (thn (ha.run pins s st H _ I h) fun v s1 z => PyProof.Rows.args_nil ?_) na) na rfl
  obtain ⟨x, H1, I1, rx, l, bs, rfl, hl, hb, ne, few, go⟩ := z
  cases rx
  obtain ⟨its, r, pl, hz⟩ := I1.list hl
  have calm := I1.ok.hd hc
  have key : ∀ b ∈ bs, IsTupleKey (PySem.strKind X.prog X.w) s1.heap b.2 b.1 := fun b m => by
    obtain ⟨_, us, rv, o, at_, cl, n, dat⟩ := (show ObjOk X.prog X.w H1 s1.heap b.1 (.tup (b.2.map V.str)) from I1.hok b.1 _ (hb b m))
    exact ⟨o, us.toArray, n, at_, cl, dat, by simpa using keys_strs rv⟩
  refine set_call calm_str bs calm pl.isList (by simpa using refs_of r) key few (by omega) fun h2 tk L es ep t S g kp => ?_
  refine PyProof.Rows.args_nil ?_
  have I2 : Inv X pins st H1 { s1 with heap := h2, toks := tk } := I1.kept kp
  have sub : ∀ b ∈ L, b ∈ bs := fun b m => List.mem_of_mem_take (g.sub b m)
  obtain ⟨o, at_, ex, dat⟩ := S.obj
  refine sorted_by (s := { s1 with heap := h2, toks := tk }) (fun b m => ne b (sub b m)) (fun b m => hb b (sub b m)) S.few (fun {Qc} on => ?_) fun cs l2 pm srt _ nl => ?_
  · refine collect_set (A := X.A.in1) calm ⟨o, at_, ex.1, dat⟩ (TSet.fits (s := { s1 with heap := h2, toks := tk }) S) (by rw [TSet.size (s := { s1 with heap := h2, toks := tk }) S]; unfold scanBound; have := S.few; omega) S.tab.ris S.led fun s3 out kp3 sz3 g3 o3 pm3 => ?_
    have cl : es.toList.map (·.2) = L.map fun b => Value.ref b.1 := by
      rw [S.cells]
      unfold cellsOf
      rw [List.map_map]
      rfl
    rw [cl] at pm3
    obtain ⟨cs, c1, c2⟩ := perm_lift (fun b : Addr × Pth => Value.ref b.1) pm3 L rfl
    rw [← c2]
    exact on s3 cs c1 (I2.call' (ch := []) o3 (Un.kept kp3) (I2.hok.kept kp3) (by rw [g3]; exact I2.bare) (fun _ z => nomatch z))
  · refine go cs l2 ?_ (fun b m => sub b (pm.mem_iff.mp m)) (fun b m => ?_) srt (by rw [pm.length_eq]; exact S.few) nl
    · exact (pm.map (·.2)).nodup_iff.mpr S.nodup
    · refine (pm.map (·.2)).mem_iff.mpr (g.all b ?_)
      rw [List.take_length]
      exact m
end
end Gk
/-! Gk27: what a law's own fewest makes. -/
namespace Gk
open PySem PySem.Spec PyProof.Rows L2
/-- a proper beginning comes first -/
theorem lt_front : ∀ {f p : Pth}, f <+: p → f ≠ p → ltP f p = true
  | [], [], _, n => absurd rfl n
  | [], _ :: _, _, _ => rfl
  | x :: f, [], h, _ => by
    obtain ⟨t, e⟩ := h
    cases e
  | x :: f, y :: p, h, n => by
    obtain ⟨t, e⟩ := h
    injection e with e1 e2
    subst e1
    have r := lt_front (f := f) (p := p) ⟨t, e2⟩ (fun z => n (by rw [z]))
    unfold ltP pkey at r ⊢
    rw [List.map_cons, List.map_cons]
    exact (lex_self (O := itemOrd) _ _ _).trans r
theorem begins_lt {p f : Pth} (b : beginsP p f = true) (n : f ≠ p) : ltP f p = true := lt_front (begins_iff.mp b) n
/-- what is kept of the first i is what the walk has found -/
theorem found_step {ks : List Pth} (asc : Asc ks) {i : Nat} {k : Pth} (hk : ks[i]? = some k) : coversP ((ks.take i).filter (keepP ks)) k = !keepP ks k := by
  have mk : k ∈ ks := List.mem_of_getElem? hk
  have early : ∀ g ∈ ks, ltP g k = true → g ∈ ks.take i := by
    intro g mg lt
    obtain ⟨j, hj, e⟩ := List.getElem_of_mem mg
    obtain ⟨hi, e2⟩ := List.getElem?_eq_some_iff.mp hk
    have ji : j < i := by
      rcases Nat.lt_trichotomy j i with l | l | l
      · exact l
      · subst l
        rw [e2] at e
        rw [e, ltP_irrefl] at lt
        cases lt
      · have r := List.pairwise_iff_getElem.mp asc i j hi hj l
        rw [e, e2] at r
        have r2 := ltP_trans r lt
        rw [ltP_irrefl] at r2
        cases r2
    rw [← e]
    exact List.mem_take_iff_getElem.mpr ⟨j, by omega, rfl⟩
  cases ek : keepP ks k with
  | true =>
    refine covers_false.mpr fun g mg => ?_
    cases b : beginsP k g with
    | false => rfl
    | true =>
      have m2 := List.mem_of_mem_take (List.mem_filter.mp mg).1
      have ne : k ≠ g := fun z => by
        subst z
        have m3 := (List.mem_filter.mp mg).1
        obtain ⟨j, hj, e⟩ := List.mem_take_iff_getElem.mp m3
        obtain ⟨hi, e2⟩ := List.getElem?_eq_some_iff.mp hk
        have r := List.pairwise_iff_getElem.mp asc j i (by omega) hi (by omega)
        rw [e, e2, ltP_irrefl] at r
        cases r
      unfold keepP at ek
      rw [List.any_eq_true.mpr ⟨g, m2, by rw [decide_eq_true ne, b]; rfl⟩] at ek
      cases ek
  | false =>
    unfold keepP at ek
    rw [Bool.not_eq_false'] at ek
    obtain ⟨f, mf, h⟩ := List.any_eq_true.mp ek
    rw [Bool.and_eq_true] at h
    have nf : k ≠ f := of_decide_eq_true h.1
    obtain ⟨g, mg, bg, least⟩ := least_front ks f.length f (Nat.le_refl _) mf
    have bkg := begins_trans h.2 bg
    have ng : g ≠ k := fun z => by
      rw [z] at bg
      exact nf (begins_anti h.2 bg)
    refine covers_iff.mpr ⟨g, List.mem_filter.mpr ⟨early g mg (begins_lt bkg ng), ?_⟩, bkg⟩
    unfold keepP
    rw [Bool.not_eq_true']
    cases e : ks.any fun f => decide (g ≠ f) && beginsP g f with
    | false => rfl
    | true =>
      obtain ⟨f2, m2, h2⟩ := List.any_eq_true.mp e
      rw [Bool.and_eq_true] at h2
      rw [least f2 m2 fun z => of_decide_eq_true h2.1 z.symm] at h2
      cases h2.2
/-- a law's own fewest: a new list of the paths that begin with no other one, ascending -/
def spLFew (K : PySem.W.Frag) : Sp := fun vs H Q _ => ∃ (a : Addr) (bs : List (Addr × Pth)), vs = [.ref a] ∧ SqL K H a (bs.map fun b => V.ref b.1) ∧ (∀ b ∈ bs, H b.1 = some (.tup (b.2.map V.str))) ∧ (∀ b ∈ bs, OkP b.2 ∧ b.2 ≠ []) ∧ bs.length < 64 ∧
  ∀ (H2 : Hp) (l : Addr) (ys : List V) (qs : List Pth), Kp T0 H H2 → H l = none → H2 l = some (.lst ys) → Ps H2 ys qs → Canon (bs.map (·.2)) qs → ys.length ≤ bs.length → Q (.ref l) H2
/-- rows of paths, by address -/
theorem Ps.rows {H : Hp} : ∀ {xs : List V} {ps : List Pth}, Ps H xs ps → ∃ bs : List (Addr × Pth), xs = bs.map (fun b => V.ref b.1) ∧ bs.map (·.2) = ps ∧ ∀ b ∈ bs, H b.1 = some (.tup (b.2.map V.str))
  | _, _, .nil => ⟨[], rfl, rfl, fun b m => nomatch m⟩
  | _, _, .cons (b := p) r t => by
    obtain ⟨a, rfl, ha⟩ := r
    obtain ⟨bs, e1, e2, h⟩ := Ps.rows t
    refine ⟨(a, p) :: bs, by rw [e1]; rfl, by rw [← e2]; rfl, fun b m => ?_⟩
    rcases List.mem_cons.mp m with e | m
    · rw [e]
      exact ha
    · exact h b m
theorem rows_ps {H : Hp} : ∀ {bs : List (Addr × Pth)}, (∀ b ∈ bs, H b.1 = some (.tup (b.2.map V.str))) → Ps H (bs.map fun b => V.ref b.1) (bs.map (·.2))
  | [], _ => .nil
  | b :: _, h => .cons ⟨b.1, rfl, h b List.mem_cons_self⟩ (rows_ps fun c m => h c (List.mem_cons_of_mem _ m))
theorem asc_rows {cs : List (Addr × Pth)} (nd : (cs.map (·.2)).Nodup) (srt : cs.Pairwise fun a b => ltP b.2 a.2 = false) : Asc (cs.map (·.2)) := by
  have n2 : cs.Pairwise fun a b => a.2 ≠ b.2 := List.pairwise_map.mp nd
  refine List.pairwise_map.mpr ((srt.and n2).imp fun {a b} h => ?_)
  cases e : ltP a.2 b.2 with
  | true => rfl
  | false => exact absurd (ltP_total e h.1) h.2
end Gk
namespace Lw
open PySem L2 Gk
abbrev sLBegins : Stmt := topS 20
abbrev sLCov : Stmt := topS 21
section
variable {P : Program} {w : World} {K : PySem.W.Frag} {mg : Str → Option Value} {base : Heap}
theorem scLBegins : FnScope ["path", "front"] ["path", "front"] (defScope sLBegins) := ⟨rfl, rfl, rfl, by decide +kernel, rfl, by decide +kernel, by decide +kernel⟩
theorem ok_lbegins {f : Addr} {fd : FuncData} (F : Fun K "_law_begins" "_law_begins" sLBegins f fd) (T : TxtR mg) : FnOk P w K mg base CX0 1 f fd ["path", "front"] spBegins := by
  refine F.ok scLBegins (fun vs H Q E h => ?_) (fun cdv A outer s H vs Q E hr h => ?_)
  · obtain ⟨v, u, p, f, rfl, _⟩ := h
    rfl
  · obtain ⟨v, u, p, f, rfl, ⟨a, rfl, ha⟩, ⟨b, rfl, hb⟩, op, of, k⟩ := h
    refine ⟨_, pss_one (ps_ret (pe_cmpR (op_eqD hr.units) (pe_slice sl_tupA (pv 0) po_none (po_some (pe_callB call_len (by rfl) T.z_len PySem.boot_len (pa_cons (pv 1) pa_nil)))) (pv 1) (nomark _))), ?_⟩
    have l0 : (p.map V.str).length = p.length := List.length_map _
    have fin : ∀ (c : Addr) (H2 : Hp), Kp T0 H H2 → H2 c = some (.tup ((p.take f.length).map V.str)) → rEqD K (.ref c) (.ref b) H2 Q := by
      intro c H2 k2 hc
      refine ⟨dP (p.take f.length), dP f, IsP.dp ⟨c, rfl, hc⟩, IsP.dp ⟨b, rfl, k2.at0 hb⟩, shaped_dP (op.take _), shaped_dP of, ?_⟩
      rw [eqv_dP]
      exact k H2 k2
    refine ⟨_, rfl, _, rfl, _, (f.length : Nat), rfl, .inr ⟨_, SqT.of hb, by rw [List.length_map]⟩, _, rfl, a, _, rfl, SqT.of ha, fun z => ?_, fun z c hc => ?_⟩
    · refine ⟨_, rfl, fin a H (Kp.refl H) ?_⟩
      rw [← cut_whole z.2] at ha
      rw [List.map_take]
      exact ha
    · refine ⟨_, rfl, fin c _ ((Kp.refl H).new hc) ?_⟩
      rw [upd_same, cut_take, List.map_take]
theorem scLCov : FnScope ["paths", "path", "one"] ["paths", "path"] (defScope sLCov) := ⟨rfl, rfl, rfl, by decide +kernel, rfl, by decide +kernel, by decide +kernel⟩
theorem ok_lcov {f fB : Addr} {fd : FuncData} (F : Fun K "_law_covers" "_law_covers" sLCov f fd) (DB : Df P w K mg base 1 fB "_law_begins" ["path", "front"] spBegins) : FnOk P w K mg base CX0 2 f fd ["paths", "path"] (spLCov K) := by
  refine F.ok scLCov (fun vs H Q E h => ?_) (fun cdv A outer s H vs Q E hr h => ?_)
  · obtain ⟨a, xs, ps, v, p, rfl, _⟩ := h
    rfl
  · obtain ⟨a, xs, ps, v, p, rfl, ha, hps, lx, ops, hv, op, k⟩ := h
    refine ⟨_, pss_one (ps_ret (pe_cmpR (op_neD hr.units) (pe_lc (own := [("one", 2)]) (g := gName 2) (tt := tB (tCall spBegins [] E0 (tCons (tVar 1) (tCons (tVar 2) tNil)))) rfl scLCov.nd (pi_list (pv 0))
        (blkOk_by (N := ["paths", "path", "one"]) (sc := defScope sLCov) (by decide +kernel)) (fun _ _ _ _ _ => pg_name (i := 2) scLCov.nd rfl (Or.inl rfl))
        (fun _ _ _ _ _ => pts_one (pt_val (pe_df DB hr (by rfl) (pa_cons (pv 1) (pa_cons (pv 2) pa_nil))))) (fun _ _ _ _ _ => pv 2)) (pe_lst pa_nil) (nomark _))), ?_⟩
    have mm : xs.length < sizeLine := Nat.lt_of_le_of_lt lx most_line
    refine ⟨_, rfl, a, rfl, ⟨xs, ha⟩, fun D hD => ?_⟩
    refine lc_kp (T := T0) walk_list (i0 := 2) (fun i v => xs[i]? = some v) (fun i us H2 => ∃ ts, Ps H2 us ts ∧ ts = (ps.take i).filter (beginsP p))
      (fun i H1 v H2 _ y => y) hD id mm (wipe1 _ 2) (fun H1 k1 => sqL_at ha k1 id) ⟨[], .nil, rfl⟩ (fun i u us H1 Ky Kn hi sx k1 d1 q ky kn => ?_) (fun us H1 k1 d1 ly q => ?_)
    · obtain ⟨g, hg, ig⟩ := Ps.get hps sx
      obtain ⟨ts, hts, et⟩ := q
      refine ⟨_, rfl, _, rfl, v, u, p, g, rfl, hv.keep0 k1, ig.keep0 k1, op, ops g (List.mem_of_getElem? hg), fun H3 k3 => ⟨_, rfl, ?_⟩⟩
      have nx := take_succ_filter hg (beginsP p)
      cases e : beginsP p g with
      | true =>
        rw [e, if_pos rfl, ← et] at nx
        refine iteT ⟨_, rfl, ky _ _ k3 ⟨ts ++ [g], ?_, nx.symm⟩⟩
        exact ((hts.keep0 k3).snoc (ig.keep0 (k1.trans k3))).keep (T := At D) ((Kp.refl _).put rfl) fun b o e q => (loose_lst (k3.at0 d1) b o e q).1
      | false =>
        rw [e, if_neg Bool.false_ne_true, ← et] at nx
        exact iteF (kn _ k3 ⟨ts, hts.keep0 k3, nx.symm⟩)
    · obtain ⟨ts, hts, et⟩ := q
      have l1 : ps.length = xs.length := (Paired.length hps).symm
      rw [← l1, List.take_length] at et
      subst et
      refine ⟨Nat.zero_le _, fun b hb => ?_⟩
      have kb : Kp T0 H1 (upd H1 b (.lst [])) := (Kp.refl H1).new hb
      refine ⟨dL (ps.filter (beginsP p)), dL [], .lst (SqL.of (kb.at0 d1)) (hts.keep0 kb).dp, .lst (SqL.of upd_same) .nil, shaped_dL fun q hq => ops q (List.mem_filter.mp hq).1, shaped_dL (fun q hq => nomatch hq), ?_⟩
      have e2 : PyData.eqv (dL (ps.filter (beginsP p))) (dL []) = (ps.filter (beginsP p)).isEmpty := by
        rw [eqv_dL]
        cases ps.filter (beginsP p) <;> rfl
      rw [e2, cov_any]
      exact k _ (k1.trans kb)
end
end Lw
namespace Lw
open PySem L2 Gk
theorem nodup_le {α : Type} [DecidableEq α] : ∀ {l m : List α}, l.Nodup → (∀ q ∈ l, q ∈ m) → l.length ≤ m.length
  | [], _, _, _ => Nat.zero_le _
  | a :: l, m, nd, h => by
    have am := h a (List.mem_cons_self ..)
    have nd' := List.nodup_cons.mp nd
    have := nodup_le (l := l) (m := m.erase a) nd'.2 fun q mq => (List.mem_erase_of_ne (by rintro rfl; exact nd'.1 mq)).mpr (h q (List.mem_cons_of_mem _ mq))
    rw [List.length_erase_of_mem am] at this
    have pos : 0 < m.length := List.length_pos_of_mem am
    rw [List.length_cons]; omega
abbrev sLFew : Stmt := topS 22
structure TxtS (mg : Str → Option Value) : Prop where
  z_sorted : mg "sorted" = none
  z_set : mg "set" = none
section
variable {P : Program} {w : World} {K : PySem.W.Frag} {mg : Str → Option Value} {base : Heap}
theorem scLFew : FnScope ["paths", "found", "path"] ["paths"] (defScope sLFew) := ⟨rfl, rfl, rfl, by decide +kernel, rfl, by decide +kernel, by decide +kernel⟩
theorem ok_lfew {f fC : Addr} {fd : FuncData} (F : Fun K "_law_fewest" "_law_fewest" sLFew f fd) (T : TxtS mg) (DC : Df P w K mg base 2 fC "_law_covers" ["paths", "path"] (spLCov K)) : FnOk P w K mg base CX0 3 f fd ["paths"] (spLFew K) := by
  refine F.ok scLFew (fun vs H Q E h => ?_) (fun cdv A outer s H vs Q E hr h => ?_)
  · obtain ⟨a, bs, rfl, _⟩ := h
    rfl
  · obtain ⟨a, bs, rfl, ha, hb, ok, few, k⟩ := h
    refine ⟨_, pss_cons (ps_set (i := 1) scLFew.nd rfl (Or.inl rfl) (pe_lst pa_nil))
      (pss_cons (ps_for PassesOwn.never rfl (pi_list (pe_sortSet (by rfl) hr.units (by rfl) T.z_sorted (by rfl) T.z_set (pv 0))) (pg_name (i := 2) scLFew.nd rfl (Or.inl rfl))
        (pss_one (ps_if (pt_not (pt_val (pe_df DC hr (by rfl) (pa_cons (pv 1) (pa_cons (pv 2) pa_nil))))) (pss_one (ps_expr (pe_bm PySem.F.plainAttrs_list PySem.F.slot_list_append PySem.F.type_list_append mt_append (pv 1) (pa_cons (pv 2) pa_nil)))) pss_nil)))
      (pss_one (ps_ret (pv 1)))), ?_⟩
    have hz : (16777216 : Nat) = PySem.sizeLine := PySem.sizeLine_eq.symm
    refine ⟨Nat.zero_le _, fun l hl => ?_⟩
    have kl := (Kp.refl (T := T0) H).new (o := .lst []) hl
    refine ⟨_, rfl, a, bs, rfl, sqL_at ha kl id, (fun b m => kl.at0 (hb b m)), (fun b m => (ok b m).2), few, fun cs p nd sub all srt fc np => ?_⟩
    have nl : l ≠ p := ne_of_none upd_same np
    have kp : Kp T0 H (upd (upd H l (.lst [])) p (.lst (cs.map fun b => V.ref b.1))) := kl.new np
    have asc : Asc (cs.map (·.2)) := asc_rows nd srt
    have hc : ∀ b ∈ cs, H b.1 = some (.tup (b.2.map V.str)) := fun b m => hb b (sub b m)
    refine ⟨p, rfl, ⟨_, SqL.of upd_same⟩, ?_⟩
    -- from H, the list at l grows
    have up : ∀ {H2 : Hp}, Kp (At l) (upd (upd H l (.lst [])) p (.lst (cs.map fun b => V.ref b.1))) H2 → Kp T0 H H2 := fun {H2} k2 b o _ e => k2 b o (ne_of_none e hl) (kp b o id e)
    have okc : ∀ b ∈ cs, OkP b.2 ∧ b.2 ≠ [] := fun b m => ok b (sub b m)
    have okf : ∀ i, ∀ f ∈ ((cs.map (·.2)).take i).filter (keepP (cs.map (·.2))), OkP f := fun i f m => by
      obtain ⟨b, mb, rfl⟩ := List.mem_map.mp (List.mem_of_mem_take (List.mem_filter.mp m).1)
      exact (okc b mb).1
    refine for_it walk_list (fun i st H2 => Kp (At l) (upd (upd H l (.lst [])) p (.lst (cs.map fun b => V.ref b.1))) H2 ∧ ∃ ys o, st = [some (.ref a), some (.ref l), o] ∧ H2 l = some (.lst ys) ∧ Ps H2 ys (((cs.map (·.2)).take i).filter (keepP (cs.map (·.2)))) ∧ ys.length ≤ i)
      ⟨Kp.refl _, [], none, rfl, by rw [upd_ne nl]; exact upd_same, .nil, Nat.le_refl _⟩ (fun i st H2 _ q => SqL.of (q.1 p _ (fun z => nl z.symm) upd_same)) (fun i v st H2b H2 hi q y => ?_) (fun st H2 q => ?_)
    · obtain ⟨k2, ys, o, rfl, hy, hp, ly⟩ := q
      obtain ⟨rfl, hv⟩ := y
      rw [List.getElem?_map] at hv
      cases ec : cs[i]? with
      | none => rw [ec] at hv; cases hv
      | some c =>
        rw [ec] at hv
        obtain rfl := Option.some.inj hv
        have mc : c ∈ cs := List.mem_of_getElem? ec
        have hk : (cs.map (·.2))[i]? = some c.2 := by rw [List.getElem?_map, ec]; rfl
        have ip : IsP H2 (.ref c.1) c.2 := ⟨c.1, rfl, (up k2).at0 (hc c mc)⟩
        have il : i < cs.length := (List.getElem?_eq_some_iff.mp ec).1
        refine ⟨_, rfl, _, rfl, l, ys, _, _, c.2, rfl, SqL.of hy, hp, (by show ys.length ≤ 100000; omega), okf i, ip, (okc c mc).1, fun H3 k3 => ⟨_, rfl, ?_⟩⟩
        have nx := take_succ_filter hk (keepP (cs.map (·.2)))
        cases e : keepP (cs.map (·.2)) c.2 with
        | true =>
          rw [e, if_pos rfl] at nx
          refine Eq.mpr (congrArg (fun z : Bool => if (!z) = true then _ else _) (by rw [found_step asc hk, e] : _ = !true)) ?_
          refine iteT ?_
          refine ⟨_, rfl, .inl ⟨rfl, _, SqL.of (k3.at0 hy)⟩, _, rfl, l, ys, _, rfl, rfl, k3.at0 hy, (by omega), ?_⟩
          refine ⟨(k2.trans k3.wide).put rfl, ys ++ [.ref c.1], _, rfl, upd_same, ?_, by rw [List.length_append]; exact Nat.succ_le_succ ly⟩
          rw [nx]
          exact ((hp.keep0 k3).snoc (ip.keep0 k3)).keep (T := At l) ((Kp.refl _).put rfl) fun b o e q => (loose_lst (k3.at0 hy) b o e q).1
        | false =>
          rw [e, if_neg Bool.false_ne_true] at nx
          refine Eq.mpr (congrArg (fun z : Bool => if (!z) = true then _ else _) (by rw [found_step asc hk, e] : _ = !false)) ?_
          refine iteF ⟨k2.trans k3.wide, ys, _, rfl, k3.at0 hy, ?_, Nat.le_succ_of_le ly⟩
          rw [nx]
          exact hp.keep0 k3
    · obtain ⟨k2, ys, o, rfl, hy, hp, ly⟩ := q
      refine ⟨_, rfl, ?_⟩
      have lc : (cs.map fun b => V.ref b.1).length = (cs.map (·.2)).length := by rw [List.length_map, List.length_map]
      rw [lc, List.take_length] at hp
      refine k H2 l ys _ (up k2) hl hy hp (canon_fewest asc fun q => ⟨fun m => ?_, fun m => ?_⟩) ?_
      · obtain ⟨b, mb, rfl⟩ := List.mem_map.mp m
        exact List.mem_map.mpr ⟨b, sub b mb, rfl⟩
      · obtain ⟨b, mb, rfl⟩ := List.mem_map.mp m
        exact all b mb
      · refine Nat.le_trans ly ?_
        have sl : (cs.map (·.2)).length ≤ (bs.map (·.2)).length := nodup_le nd fun q m => by
          obtain ⟨b, mb, rfl⟩ := List.mem_map.mp m
          exact List.mem_map.mpr ⟨b, sub b mb, rfl⟩
        simpa using sl
end
end Lw
/-! Gk34: iterators that end while an exception is handled. -/
namespace Gk
open PySem PySem.Spec PyProof.Rows L2 L2H HotX
/-- all of h stands in h' -/
abbrev Stands (h h' : Heap) : Prop := ∀ b o, h.get? b = some o → h'.get? b = some o
theorem hot_stands {A : Around} {x1 : Addr} {h h' : Heap} (hot : HotAt A x1 h) (k : ∀ o, h.get? x1 = some o → h'.get? x1 = some o) : HotAt A x1 h' :=
  let ⟨a, o, vs, b, c⟩ := hot
  ⟨a, o, vs, k _ b, c⟩
theorem hot_at {A : Around} {x1 : Addr} {h : Heap} (hot : HotAt A x1 h) : ∃ o, h.get? x1 = some o := let ⟨_, o, _, b, _⟩ := hot; ⟨o, b⟩
/-- a small record is not the exception -/
theorem hot_ne {A : Around} {x1 it : Addr} {h : Heap} {o : Obj} {vs : Array Value} (hot : HotAt A x1 h) (ho : h.get? it = some o) (hd : o.data = .fields vs) (n : vs[2]? ≠ some .none) : x1 ≠ it := fun z => by
  obtain ⟨_, o1, vs1, h1, d1, c1⟩ := hot
  subst z
  rw [h1] at ho
  obtain rfl := Option.some.inj ho
  rw [d1] at hd
  obtain rfl := Data.fields.inj hd
  exact n c1
section
variable {prog : Program} {w : World} {A : Around} {E : Value → Shared → Prop} {s : Shared}
theorem stop_raise {α : Type} {x1 : Addr} {Q : α → Shared → Prop} (hot : HotAt A x1 s.heap)
    (h : ∀ (h' : Heap) (e : Addr), Stands s.heap h' → ({ s with heap := h' } : Shared).TypeIs (.ref e) "StopIteration" → E (.ref e) { s with heap := h' }) : wpAny (model prog w) A (newExc (.type "StopIteration") [] >>= fun e => (raiseNew e : Sem α)) Q E s := by
  refine wpAny_bind ?_
  simp only [newExc, newTuple]
  refine wpAny_bind (wpAny_newObj_type (h := ?_) (by size_fits))
  refine wpAny_bind (m := firstArgMember _ _) (wpAny_of_eq (a := Value.none) (by first | (simp only [firstArgMember]; rfl) | rfl) ?_)
  refine wpAny_newObj_type ?_ (by size_fits)
  have st : ∀ o1 o2 : Obj, Stands s.heap ((s.heap.push o1).push o2) := fun o1 o2 b o e => Heap.get?_push_of_some _ (Heap.get?_push_of_some _ e)
  obtain ⟨o, ho⟩ := hot_at hot
  refine raiseNew_hot (hot_stands hot (st _ _ x1)) (Nat.ne_of_lt (Heap.lt_size (Heap.get?_push_of_some _ ho))) (Heap.get?_push_size _ rfl) rfl (by simp; omega) ?_
  refine h _ _ (fun b o e => ?_) ⟨_, Heap.get?_update_self _ (Heap.get?_push_size _ rfl) rfl, rfl⟩
  rw [Heap.get?_update_other _ _ (Nat.ne_of_gt (Heap.lt_size (Heap.get?_push_of_some _ e)))]
  exact st _ _ b o e
/-- behind the raise -/
theorem stop_caught {Q : Option Value → Shared → Prop} {e : Addr} (t : s.TypeIs (.ref e) "StopIteration") (q : Q none s) :
    wpAny (model prog w) A (do if ← isInstance (.ref e) (.type "StopIteration") then pure none else throw (.ref e)) Q E s :=
  wpAny_bind (wpAny_isInstance (b := true) t isSubtype_stop (wpAny_pure q))
theorem next_listH {it l x1 : Addr} {i : Nat} {items : Array Value} {Q : Option Value → Shared → Prop} (hot : HotAt A x1 s.heap) (hit : s.heap.IsListIter it l i) (hl : s.heap.IsList l items) (hx : items[i]? = none)
    (hQ : ∀ h', Heap.ExtBut it s.heap h' → Q none { s with heap := h' }) : wpAny (model prog w) A (pyNext (.ref it)) Q E s := by
  obtain ⟨o, ho, hc, hd⟩ := id hit
  obtain ⟨ol, hol, _, nl, hdl⟩ := id hl
  have ne : x1 ≠ it := hot_ne hot ho hd (by simp)
  unfold pyNext
  have T := hit.typeIs
  refine wpAny_bind (wpAny_attempt (wpAny_callSpecial?_slot (name := Str.ofString "__next__") T slot_listiter_next (wpAny_call_entry slot_listiter_next T entry_listiter_next ?_ (args_listiter_next _))))
  show wpAny _ _ (field (.ref it) 0 >>= fun x => _) _ _ s
  refine wpAny_bind (wpAny_field (x := .ref l) ho hd rfl ?_)
  show wpAny _ _ (if (Value.ref l == Value.none) = true then _ else (field (.ref it) 1 >>= fun x => _)) _ _ s
  refine (if_neg (c := (Value.ref l == Value.none) = true) Bool.false_ne_true) ▸ wpAny_bind (wpAny_field (x := .int i 0) ho hd rfl ?_)
  show wpAny _ _ (seqItems? (.ref l) >>= fun x => _) _ _ s
  refine wpAny_bind (wpAny_seqItems hol hdl ?_)
  simp only [hx, Int.toNat_natCast]
  refine wpAny_bind (wpAny_rule (wpAny_bind (wpAny_setField (hi := by simp) ho hd ?_)))
  refine stop_raise (hot_stands hot fun o2 e => (Heap.get?_update_other _ _ (Ne.symm ne)).trans e) fun h' e st te => ?_
  refine wpAny_bind (wpAny_isInstance (b := true) te isSubtype_stop (wpAny_pure (hQ _ fun b o2 hb e2 => st b o2 ?_)))
  exact (Heap.get?_update_other _ _ (Ne.symm hb)).trans e2
theorem next_tupH {it t x1 : Addr} {i : Nat} {items : Array Value} {Q : Option Value → Shared → Prop} (hot : HotAt A x1 s.heap) (hit : s.heap.IsTupleIter it t i) (ht : s.heap.IsTuple t items) (hx : items[i]? = none)
    (hQ : ∀ h', Heap.ExtBut it s.heap h' → Q none { s with heap := h' }) : wpAny (model prog w) A (pyNext (.ref it)) Q E s := by
  obtain ⟨o, ho, hc, hd⟩ := id hit
  obtain ⟨ol, hol, _, nl, hdl⟩ := id ht
  have ne : x1 ≠ it := hot_ne hot ho hd (by simp)
  unfold pyNext
  have T := hit.typeIs
  refine wpAny_bind (wpAny_attempt (wpAny_callSpecial?_slot (name := Str.ofString "__next__") T F.slot_tuple_iterator_next (wpAny_call_entry F.slot_tuple_iterator_next T F.entry_tuple_iterator_next ?_ (F.args_tuple_iterator_next_1 _))))
  show wpAny _ _ (field (.ref it) 0 >>= fun x => _) _ _ s
  refine wpAny_bind (wpAny_field (x := .ref t) ho hd rfl ?_)
  show wpAny _ _ (if (Value.ref t == Value.none) = true then _ else (field (.ref it) 1 >>= fun x => _)) _ _ s
  refine (if_neg (c := (Value.ref t == Value.none) = true) Bool.false_ne_true) ▸ wpAny_bind (wpAny_field (x := .int i 0) ho hd rfl ?_)
  show wpAny _ _ (seqItems? (.ref t) >>= fun x => _) _ _ s
  refine wpAny_bind (wpAny_seqItems hol hdl ?_)
  simp only [hx, Int.toNat_natCast]
  refine wpAny_bind (wpAny_rule (wpAny_bind (wpAny_setField (hi := by simp) ho hd ?_)))
  refine stop_raise (hot_stands hot fun o2 e => (Heap.get?_update_other _ _ (Ne.symm ne)).trans e) fun h' e st te => ?_
  refine wpAny_bind (wpAny_isInstance (b := true) te isSubtype_stop (wpAny_pure (hQ _ fun b o2 hb e2 => st b o2 ?_)))
  exact (Heap.get?_update_other _ _ (Ne.symm hb)).trans e2
theorem next_keysH {it d x1 : Addr} {i ep : Nat} {es : Array DictEntry} {Q : Option Value → Shared → Prop} (hot : HotAt A x1 s.heap) (hit : s.heap.IsKeyIter it d i es.size ep) (hm : s.heap.DictRaw d es ep) (hx : es[i]? = none)
    (hQ : ∀ h', Heap.ExtBut it s.heap h' → Q none { s with heap := h' }) : wpAny (model prog w) A (pyNext (.ref it)) Q E s := by
  obtain ⟨o, ho, hc, hd⟩ := id hit
  obtain ⟨od, hod, hcd, hdd⟩ := id hm
  have ne : x1 ≠ it := hot_ne hot ho hd (by simp [rawInt])
  unfold pyNext
  have T := hit.typeIs
  have own0 : Builtin.Dict_items.ownsTuple "dict_keyiterator" = false := by decide
  refine wpAny_bind (wpAny_attempt (wpAny_callSpecial?_slot (name := Str.ofString "__next__") T F.slot_dict_keyiterator_next (wpAny_call_entry F.slot_dict_keyiterator_next T F.entry_dict_keyiterator_next ?_ (F.args_dict_keyiterator_next_1 _))))
  refine wpAny_bind (wpAny_pure ?_)
  refine wpAny_bind ?_
  refine wpAny_bind ?_
  refine wpAny_bind (wpAny_typeNameOfWhole_keyiter T (wpAny_pure (wpAny_bind (wpAny_fieldsOf ho hd ?_))))
  simp only [own0, if_false, Bool.false_eq_true]
  show wpAny _ _ (if (Value.ref d == Value.none) = true then _ else (pure PUnit.unit >>= fun x => _)) _ _ s
  refine (if_neg (c := (Value.ref d == Value.none) = true) Bool.false_ne_true) ▸ wpAny_bind (wpAny_pure (wpAny_bind (wpAny_dictEntries hod hdd ?_)))
  rw [if_neg (fun z => by simp at z)]
  refine wpAny_bind (wpAny_pure (wpAny_bind (wpAny_dictEpoch hod hdd ?_)))
  rw [if_neg (fun z => by simp at z)]
  refine wpAny_pure ?_
  have nn : ¬ ((i : Int) < 0) := Int.not_lt.mpr (Int.natCast_nonneg i)
  simp only [nn, Int.toNat_natCast, if_false, hx]
  refine wpAny_bind ?_
  refine wpAny_bind (wpAny_typeNameOfWhole_keyiter T (wpAny_pure ?_))
  show wpAny _ _ (setField (.ref it) 0 .none >>= fun x => _) _ _ s
  refine wpAny_bind (wpAny_setField (hi := by simp) ho hd ?_)
  refine stop_raise (hot_stands hot fun o2 e => (Heap.get?_update_other _ _ (Ne.symm ne)).trans e) fun h' e st te => ?_
  refine wpAny_bind (wpAny_isInstance (b := true) te isSubtype_stop (wpAny_pure (hQ _ fun b o2 hb e2 => st b o2 ?_)))
  exact (Heap.get?_update_other _ _ (Ne.symm hb)).trans e2
end
end Gk
/-! Gk35: walks over what is empty, while an exception is handled. -/
namespace Gk
open PySem PySem.Spec PyProof.Rows L2 L2H HotX
/-- it ends, whenever it is asked -/
def EndsAt (P : Program) (w : World) (A : Around) (it : Addr) (h : Heap) : Prop := ∀ (s : Shared) (Q : Option Value → Shared → Prop) (E : Value → Shared → Prop), Stands h s.heap →
  (∀ h', Heap.ExtBut it s.heap h' → Q none { s with heap := h' }) → wpAny (model P w) A (pyNext (.ref it)) Q E s
def SelfAt (P : Program) (w : World) (A : Around) (it : Addr) (h : Heap) : Prop := ∀ (s : Shared) (Q : Value → Shared → Prop) (E : Value → Shared → Prop), Stands h s.heap →
  Q (.ref it) s → wpAny (model P w) A (pyIter (.ref it)) Q E s
abbrev T0I := L2.St → Hp → (Hp → Prop) → Prop
def At0 (X : Cx) (ps : List (Addr × Obj)) (σ : L2.St) (R : Hp → Prop) (itv : Value) (s2 : Shared) : Prop :=
  ∃ it H2, itv = .ref it ∧ Inv X ps σ H2 s2 ∧ it < s2.heap.objs.size ∧ EndsAt X.prog X.w X.A it s2.heap ∧ SelfAt X.prog X.w X.A it s2.heap ∧ FpOk X ps H2 it ∧ R H2
structure PI0 (X : Cx) (iter : Expr) (wi : T0I) : Prop where
  run : ∀ (ps : List (Addr × Obj)) (s : Shared) (σ : L2.St) (H : Hp) (R : Hp → Prop), Inv X ps σ H s → wi σ H R →
    wpAny (model X.prog X.w) X.A (eval iter X.env) (fun v s1 => wpAny (model X.prog X.w) X.A (pyIter v) (At0 X ps σ R) X.xe s1) X.xe s
def i0 (K : PySem.W.Frag) (t : TE) : T0I := fun σ H R => t σ H fun x H1 => ∃ a, x = .ref a ∧ (SqL K H1 a [] ∨ SqT K H1 a []) ∧ R H1
theorem pi_0 {X : Cx} {e : Expr} {t : TE} (hot : HotC X) (he : PE X e t) : PI0 X e (i0 X.K t) := by
  refine ⟨fun ps s σ H R I h => thn (he.run ps s σ H _ I h) fun v s1 q1 => ?_⟩
  obtain ⟨x, H1, I1, r1, a, rfl, hq, q⟩ := q1
  obtain rfl : v = Value.ref a := r1
  obtain ⟨x1, ht⟩ := hot.at I1
  rcases hq with hq | hq
  · obtain ⟨its, rv, p, hz⟩ := I1.list hq
    cases rv
    refine wpAny_pyIter_list p.isList ⟨_, H1, rfl, I1.kept (t' := s1.toks) fun b o e => Heap.get?_push_of_some _ e, Nat.lt_of_lt_of_eq (Nat.lt_succ_self _) (Heap.size_push ..).symm, fun s2 Q E st k => ?_, fun s2 Q E st k => ?_, I1.fpOk (Nat.le_refl _) (I1.hok.fresh (Nat.le_refl _)), q⟩
    · refine next_listH (items := #[]) (hot_stands ht fun o e => st _ _ (Heap.get?_push_of_some _ e)) ⟨_, st _ _ (Heap.get?_push_size _ rfl), rfl, rfl⟩ ?_ rfl k
      obtain ⟨o, ho, hc⟩ := p.isList
      exact ⟨o, st _ _ (Heap.get?_push_of_some _ ho), hc⟩
    · exact wpAny_pyIter_listiter (l := a) (i := 0) ⟨_, st _ _ (Heap.get?_push_size _ rfl), rfl, rfl⟩ k
  · obtain ⟨its, rv, p, hz⟩ := I1.tuple hq
    cases rv
    refine wpAny_pyIter_tuple (show s1.heap.IsTuple a #[] from p) ⟨_, H1, rfl, I1.kept (t' := s1.toks) fun b o e => Heap.get?_push_of_some _ e, Nat.lt_of_lt_of_eq (Nat.lt_succ_self _) (Heap.size_push ..).symm, fun s2 Q E st k => ?_, fun s2 Q E st k => ?_, I1.fpOk (Nat.le_refl _) (I1.hok.fresh (Nat.le_refl _)), q⟩
    · refine next_tupH (items := #[]) (hot_stands ht fun o e => st _ _ (Heap.get?_push_of_some _ e)) ⟨_, st _ _ (Heap.get?_push_size _ rfl), rfl, rfl⟩ ?_ rfl k
      obtain ⟨o, ho, hc⟩ := (show s1.heap.IsTuple a #[] from p)
      exact ⟨o, st _ _ (Heap.get?_push_of_some _ ho), hc⟩
    · exact wpAny_pyIter_tupleiter (t := a) (i := 0) ⟨_, st _ _ (Heap.get?_push_size _ rfl), rfl, rfl⟩ k
/-- for, over nothing -/
theorem ps_for0 {X : Cx} {tg iter : Expr} {body : List Stmt} {wi : T0I} {pos : Pos} (hp : PassesOwn (model X.prog X.w) X.A X.env X.xe) (hi : PI0 X iter wi)
    (hs : ∀ x, foldedSetIterable iter X.env x = pure x := by intro _; rfl) : PS X (.For tg iter body [] pos) (fun D σ H => wi σ H fun H1 => D.nx σ H1) := by
  refine ⟨fun ps s σ H D I h => wpAny_For (thn (hi.run ps s σ H _ I h) fun v0 s1 k1 => thn k1 fun v1 s2 k2 => ?_) hs⟩
  obtain ⟨it, H2, rfl, I2, lt, en, se, fp, q⟩ := k2
  refine codeAny_forLoop_any (fun _ s3 => s3 = s2) (fun n s3 e => ?_) 0 rfl
  subst e
  refine wpAny_passesOwn hp (en _ _ _ (fun _ _ e => e) fun h' eb => ?_)
  obtain ⟨f0, f1, f2, f3, f4, f5⟩ := fp
  exact wpAny_execs_nil ⟨σ, H2, I2.turned (t' := s3.toks) (fun b o hb e => eb b o hb e) f0 f1 f3 f4 f5, q⟩
section
variable {X : Cx} {tg iter : Expr} {ifs : List Expr} {sc : Scope} {own : List (Str × Nat)} {pos : Pos} {wi : T0I}
/-- a comprehension's block around a walk that ends at once -/
theorem block0 {ps : List (Addr × Obj)} {σ : L2.St} {H : Hp} {s : Shared} {it D : Addr} {Q : VK} (nd : X.N.Nodup) (I : Inv X ps σ H s) (ok : BlkOk X.N X.env.scope sc own) (lt : it < s.heap.objs.size) (fp : FpOk X ps H it) (q : Q (.ref D) H) {h' : Heap}
    (eb : Heap.ExtBut it (pushCells (s.heap.push { cls := .type "dict", data := .dict #[] }) sc.names) h') : compPost (model X.prog X.w) X.A X.xe none (EP X ps σ Q) (.ref D) s.heap.objs.size (.ok .next) { s with heap := h' } := by
  have I4 := block_start (fp := [it]) I ok nd fun b hb => by
    rw [List.mem_singleton.mp hb]
    exact ⟨fp, lt⟩
  obtain ⟨m, hn, _⟩ := I4.loc
  have ne : s.heap.objs.size ≠ it := Nat.ne_of_gt lt
  have k4 : Stands s.heap (pushCells (s.heap.push { cls := .type "dict", data := .dict #[] }) sc.names) := fun b o e => pushCells_keeps _ _ _ _ (Heap.get?_push_of_some _ e)
  have J4 : Inv X ps σ H { s with heap := pushCells (s.heap.push { cls := .type "dict", data := .dict #[] }) sc.names } := I.kept (t' := s.toks) k4
  have noC : H s.heap.objs.size = none := I.hok.fresh (Nat.le_refl _)
  have fC := I.fpOk (Nat.le_refl _) noC
  have J5 : Inv X ps σ H { s with heap := h' } := J4.turned (t' := s.toks) (fun b o hb e => eb b o hb e) fp.1 fp.2.1 fp.2.2.2.1 fp.2.2.2.2.1 fp.2.2.2.2.2
  have hn : (pushCells (s.heap.push { cls := .type "dict", data := .dict #[] }) sc.names).Ns s.heap.objs.size m := hn
  refine ⟨m, hn.at' fun o e => eb _ o ne e, fun h2 sb => ⟨.ref D, H, J5.turned (t' := s.toks) (fun b o hb e => (sb.2 b hb).trans e) fC.1 fC.2.1 fC.2.2.2.1 fC.2.2.2.2.1 fC.2.2.2.2.2, rfl, q⟩⟩
theorem pe_lc0 {elt : Expr} (nd : X.N.Nodup) (hi : PI0 X iter wi) (ok : BlkOk X.N X.env.scope sc own) (hs : ∀ x, foldedSetIterable iter X.env x = pure x := by intro _; rfl) :
    PE X (.ListComp elt [⟨tg, iter, ifs, 0⟩] sc pos) (fun σ H Q => wi σ H fun H1 => ∀ D, H1 D = none → Q (.ref D) (upd H1 D (.lst []))) := by
  refine ⟨fun ps s σ H Q I h => ?_⟩
  rw [eval_ListComp]
  have free : ∀ y ∈ sc.names, y.2 = .free → ∃ c, X.env.cells.lookup y.1 = some c := fun y hy e => I.ok.has _ (ok.free y hy e)
  refine wpAny_comprehension_free (use := none) rfl hs (closure_ok free) ok.kind (fun y hy e => by rw [ok.uniq y hy, e]) (thn (hi.run ps s σ H _ I h) fun v0 s1 k1 => thn k1 fun v1 s2 k2 => ?_)
  obtain ⟨it, H2, rfl, I2, lt, en, se, fp, q⟩ := k2
  refine wpAny_newObj_type (newEnv_comp ?_) (by show 0 ≤ sizeLine; decide)
  have noD : H2 s2.heap.objs.size = none := I2.hok.fresh (Nat.le_refl _)
  have I3 : Inv X ps σ (upd H2 s2.heap.objs.size (.lst [])) { s2 with heap := s2.heap.push { cls := .type "list", data := .seq ([] : List Value).toArray } } :=
    I2.laid (t' := s2.toks) (fun b o e => Heap.get?_push_of_some _ e) (Nat.le_refl _) ⟨Nat.zero_le _, [], 0, .nil, Heap.get?_push_size _ rfl⟩
  have k3 : Stands s2.heap (s2.heap.push { cls := .type "list", data := .seq ([] : List Value).toArray }) := fun b o e => Heap.get?_push_of_some _ e
  have q3 := q _ noD
  have fp3 : FpOk X ps (upd H2 s2.heap.objs.size (.lst [])) it := ⟨(upd_ne (Nat.ne_of_lt lt)).trans fp.1, fp.2⟩
  have lt3 : it < (s2.heap.push { cls := .type "list", data := .seq ([] : List Value).toArray }).objs.size := Nat.lt_of_lt_of_eq (Nat.lt_succ_of_lt lt) (Heap.size_push ..).symm
  generalize s2.heap.objs.size = D at *
  generalize s2.heap.push { cls := .type "list", data := .seq ([] : List Value).toArray } = h3 at *
  have k4 : Stands s2.heap (pushCells (h3.push { cls := .type "dict", data := .dict #[] }) sc.names) := fun b o e => pushCells_keeps _ _ _ _ (Heap.get?_push_of_some _ (k3 b o e))
  show codeAny _ _ (.compStart (.ListComp elt [⟨tg, iter, ifs, 0⟩] sc pos) 0 (.ref it) (.ref D) (compEnvC sc (cellsFrom (h3.objs.size + 1) sc.names (cloFrom X.env.cells sc.names [])) h3.objs.size X.env))
    (compPost (model X.prog X.w) X.A X.xe none (EP X ps σ Q) (.ref D) h3.objs.size) { s2 with heap := pushCells (h3.push { cls := .type "dict", data := .dict #[] }) sc.names }
  have loop : codeAny (model X.prog X.w) X.A (.compLoop (.ListComp elt [⟨tg, iter, ifs, 0⟩] sc pos) 0 (.ref it) (.ref D) (compEnvC sc (cellsFrom (h3.objs.size + 1) sc.names (cloFrom X.env.cells sc.names [])) h3.objs.size X.env))
      (compPost (model X.prog X.w) X.A X.xe none (EP X ps σ Q) (.ref D) h3.objs.size) { s2 with heap := pushCells (h3.push { cls := .type "dict", data := .dict #[] }) sc.names } := by
    refine compLoop_any (fun _ s4 => s4 = { s2 with heap := pushCells (h3.push { cls := .type "dict", data := .dict #[] }) sc.names }) (fun n s4 e => ?_) 0 rfl
    subst e
    exact en _ _ _ k4 fun h' eb => block0 nd I3 ok lt3 fp3 q3 eb
  exact codeAny_compStart_list loop (se _ _ _ k4 loop)
theorem pe_dc0 {kx vx : Expr} {new : HO} {t : TStore} (so : StoreOk X.prog X.w X.A new t) (nd : X.N.Nodup) (hi : PI0 X iter wi) (ok : BlkOk X.N X.env.scope sc own) (hs : ∀ x, foldedSetIterable iter X.env x = pure x := by intro _; rfl) :
    PE X (.DictComp kx vx [⟨tg, iter, ifs, 0⟩] sc pos) (fun σ H Q => wi σ H fun H1 => ∀ D, H1 D = none → Q (.ref D) (upd H1 D new)) := by
  refine ⟨fun ps s σ H Q I h => ?_⟩
  rw [arm_eval_DictComp]
  have free : ∀ y ∈ sc.names, y.2 = .free → ∃ c, X.env.cells.lookup y.1 = some c := fun y hy e => I.ok.has _ (ok.free y hy e)
  refine wpAny_comprehension_free (use := none) rfl hs (closure_ok free) ok.kind (fun y hy e => by rw [ok.uniq y hy, e]) (thn (hi.run ps s σ H _ I h) fun v0 s1 k1 => thn k1 fun v1 s2 k2 => ?_)
  obtain ⟨it, H2, rfl, I2, lt, en, se, fp, q⟩ := k2
  refine wpAny_newObj_type (newEnv_comp ?_)
  have noD : H2 s2.heap.objs.size = none := I2.hok.fresh (Nat.le_refl _)
  have I3 : Inv X ps σ (upd H2 s2.heap.objs.size new) { s2 with heap := s2.heap.push { cls := .type "dict", data := .dict #[] } } :=
    I2.laid (t' := s2.toks) (fun b o e => Heap.get?_push_of_some _ e) (Nat.le_refl _) (so.fresh _ _ I2.big)
  have k3 : Stands s2.heap (s2.heap.push { cls := .type "dict", data := .dict #[] }) := fun b o e => Heap.get?_push_of_some _ e
  have q3 := q _ noD
  have fp3 : FpOk X ps (upd H2 s2.heap.objs.size new) it := ⟨(upd_ne (Nat.ne_of_lt lt)).trans fp.1, fp.2⟩
  have lt3 : it < (s2.heap.push { cls := .type "dict", data := .dict #[] }).objs.size := Nat.lt_of_lt_of_eq (Nat.lt_succ_of_lt lt) (Heap.size_push ..).symm
  generalize s2.heap.objs.size = D at *
  generalize s2.heap.push { cls := .type "dict", data := .dict #[] } = h3 at *
  have k4 : Stands s2.heap (pushCells (h3.push { cls := .type "dict", data := .dict #[] }) sc.names) := fun b o e => pushCells_keeps _ _ _ _ (Heap.get?_push_of_some _ (k3 b o e))
  show codeAny _ _ (.compStart (.DictComp kx vx [⟨tg, iter, ifs, 0⟩] sc pos) 0 (.ref it) (.ref D) (compEnvC sc (cellsFrom (h3.objs.size + 1) sc.names (cloFrom X.env.cells sc.names [])) h3.objs.size X.env))
    (compPost (model X.prog X.w) X.A X.xe none (EP X ps σ Q) (.ref D) h3.objs.size) { s2 with heap := pushCells (h3.push { cls := .type "dict", data := .dict #[] }) sc.names }
  have loop : codeAny (model X.prog X.w) X.A (.compLoop (.DictComp kx vx [⟨tg, iter, ifs, 0⟩] sc pos) 0 (.ref it) (.ref D) (compEnvC sc (cellsFrom (h3.objs.size + 1) sc.names (cloFrom X.env.cells sc.names [])) h3.objs.size X.env))
      (compPost (model X.prog X.w) X.A X.xe none (EP X ps σ Q) (.ref D) h3.objs.size) { s2 with heap := pushCells (h3.push { cls := .type "dict", data := .dict #[] }) sc.names } := by
    refine compLoop_anyD (fun _ s4 => s4 = { s2 with heap := pushCells (h3.push { cls := .type "dict", data := .dict #[] }) sc.names }) (fun n s4 e => ?_) 0 rfl
    subst e
    exact en _ _ _ k4 fun h' eb => block0 nd I3 ok lt3 fp3 q3 eb
  exact codeAny_compStart_dict loop (se _ _ _ k4 loop)
/-- what an exhausted walk over a dict's keys is, hot -/
theorem walks_keysH {A : Around} {P : Program} {w : World} {x1 d I : Addr} {o ox : Obj} {es : Array DictEntry} {ep : Nat} (hot : ∀ h : Heap, h.get? x1 = some ox → HotAt A x1 h) (hd : o.data = .dict es ep) (hx : o.ExactDict) (h0 : es.size = 0) :
    Walks P w A I [I, d, x1] [I] 0 (fun _ _ => True) (fun i h => h.IsKeyIter I d i es.size ep ∧ h.get? d = some o ∧ h.get? x1 = some ox) where
  sub := fun b hb => by rw [List.mem_singleton.mp hb]; exact List.mem_cons_self
  frame := fun _ _ _ st hk => ⟨(let ⟨ob, e, r⟩ := st.1; ⟨ob, hk I (by simp) ob e, r⟩), hk d (by simp) o st.2.1, hk x1 (by simp) ox st.2.2⟩
  item := fun i _ _ _ lt _ _ => absurd lt (Nat.not_lt_zero i)
  done := fun s Q E st hQ => next_keysH (hot _ st.2.2) st.1 ⟨o, st.2.1, hx, hd⟩ (Array.getElem?_eq_none (Nat.le_of_eq h0)) fun h' eb => hQ h' s.toks fun b ob hb e => eb b ob (fun z => hb (by rw [z]; exact List.mem_singleton.mpr rfl)) e
  self := fun _ _ _ _ st hQ => wpAny_pyIter_keyiter st.1 hQ
theorem collect0H {A : Around} {P : Program} {w : World} {s : Shared} {E : Value → Shared → Prop} {R : List Value → Shared → Prop} {x1 d : Addr} {o : Obj} {es : Array DictEntry} {ep : Nat} (hot : HotAt A x1 s.heap) (lo : (d == sysModules) = false) (ho : s.heap.get? d = some o)
    (hx : o.ExactDict) (hd : o.data = .dict es ep) (h0 : es.size = 0) (h : ∀ (h' : Heap) (tk : Nat), Stands s.heap h' → R [] { s with heap := h', toks := tk }) : wpAny (model P w) A (collect (.ref d)) R E s := by
  obtain ⟨ox, hox⟩ := hot_at hot
  have hotA : ∀ h : Heap, h.get? x1 = some ox → HotAt A.in1 x1 h := fun h e => hot_stands (A := A.in1) hot fun o2 e2 => by
    rw [hox] at e2
    rw [← Option.some.inj e2]
    exact e
  have T0 : s.TypeIs (.ref d) "dict" := ⟨o, ho, hx.1⟩
  have dlt := Heap.lt_size ho
  -- the list that gathers
  have key : ∀ (h2 : Heap) (c : Nat), (∀ b o2, b ≠ s.heap.objs.size → (s.heap.push { cls := .type "list", data := .seq ([] : List Value).toArray }).get? b = some o2 → h2.get? b = some o2) → h2.get? (s.heap.objs.size + 1) = some { cls := .type "dict_keyiterator", data := .fields #[.ref d, .int 0 0, .int es.size 0, .int ep 0] } →
      h2.get? s.heap.objs.size = some { cls := .type "list", data := .seq #[] c } →
      codeAny (model P w) A (.builtin "list.extend.loop" ⟨[.ref s.heap.objs.size, .ref (s.heap.objs.size + 1), .ref s.heap.objs.size], []⟩)
        (fun (q : Result) (s2 : Shared) => q = .ok (.ret (.ref s.heap.objs.size)) ∧ ∃ (h' : Heap) (tk c2 : Nat), s2 = { s with heap := h', toks := tk } ∧ Stands s.heap h' ∧ h'.get? s.heap.objs.size = some { cls := .type "list", data := .seq #[] c2 }) { s with heap := h2 } := by
    intro h2 c k2 hI hS
    have old : Stands s.heap h2 := fun b o2 e => k2 b o2 (Nat.ne_of_lt (Heap.lt_size e)) (Heap.get?_push_of_some _ e)
    have W := walks_keysH (A := A.in1) (P := P) (w := w) (x1 := x1) (d := d) (I := s.heap.objs.size + 1) hotA hd hx h0
    refine codeAny_extend_loopS W.toS (Nat.zero_le _) s.heap.objs.size (fun z => ?_) _ 0 0 _ #[] c rfl (Nat.le_refl _) ⟨⟨_, hI, rfl, rfl⟩, old d o ho, old x1 ox hox⟩ hS (ItemsOf.nil _) fun s2 acc c2 hm hS2 hacc => ?_
    · simp only [List.mem_cons, List.not_mem_nil, or_false] at z
      rcases z with z | z | z
      · exact absurd z (Nat.ne_of_lt (Nat.lt_succ_self _))
      · exact absurd z (Nat.ne_of_gt dlt)
      · exact absurd z (Nat.ne_of_gt (Heap.lt_size hox))
    · obtain rfl : acc = #[] := Array.eq_empty_of_size_eq_zero hacc.1
      refine ⟨rfl, s2.heap, s2.toks, c2, (by have z := Moved.eq_with hm; exact z), fun b o2 e => hm.heap b o2 (fun z => ?_) (old b o2 e), hS2⟩
      have lt := Heap.lt_size e
      rcases List.mem_cons.mp z with z | z
      · exact absurd z (Nat.ne_of_lt lt)
      · exact absurd (List.mem_singleton.mp z) (Nat.ne_of_lt (Nat.lt_succ_of_lt lt))
  unfold collect
  refine wpAny_bind (wpAny_runValue (codeAny_builtin entry_proto_collect' ?_))
  rw [Around.under_plainId PySem.F.plain_proto_collect _]
  show wpAny _ A.in1 (newList [] >>= fun l => again (.builtin "list.__iadd__" ⟨[l, .ref d], []⟩)) _ _ s
  refine wpAny_bind (wpAny_newObj_type (wpAny_pure ⟨plainId_quiet PySem.F.plain_list_iadd _, codeAny_builtin entry_list_iadd' ?_⟩))
  rw [Around.under_plainId PySem.F.plain_list_iadd _]
  have hS : (s.heap.push { cls := .type "list", data := .seq ([] : List Value).toArray }).get? s.heap.objs.size = some { cls := .type "list", data := .seq #[] } := Heap.get?_push_size _ rfl
  have hd1 : (s.heap.push { cls := .type "list", data := .seq ([] : List Value).toArray }).get? d = some o := Heap.get?_push_of_some _ ho
  show wpAny _ _ (Builtin.List.listExtendWith (.ref s.heap.objs.size) (.ref d) (.ref s.heap.objs.size)) _ _ _
  unfold Builtin.List.listExtendWith
  refine wpAny_bind (wpAny_typeOf (T := "dict") ⟨o, hd1, hx.1⟩ ?_)
  have n1 : Builtin.List.listSameRef (.ref s.heap.objs.size) (.ref d) = false := by
    have := Nat.ne_of_gt dlt
    simp [Builtin.List.listSameRef, this]
  have n2 : (Value.type "dict" == Value.type "list") = false := by decide
  have n3 : (Value.type "dict" == Value.type "tuple") = false := by decide
  simp only [n1, n2, n3, Bool.or_false, if_false, Bool.false_eq_true]
  refine wpAny_bind (iter_keys lo hd1 hx hd ?_)
  refine wpAny_bind (wpAny_holding (PySem.W.kdl_hint_dict (s := { s with heap := _ }) ⟨o, Heap.get?_push_of_some _ hd1, hx.1⟩ ?_))
  have hS1 : ((s.heap.push { cls := .type "list", data := .seq ([] : List Value).toArray }).push { cls := .type "dict_keyiterator", data := .fields #[.ref d, .int 0 0, .int es.size 0, .int ep 0] }).get? s.heap.objs.size = some { cls := .type "list", data := .seq #[] } := Heap.get?_push_of_some _ hS
  have hI1 : ((s.heap.push { cls := .type "list", data := .seq ([] : List Value).toArray }).push { cls := .type "dict_keyiterator", data := .fields #[.ref d, .int 0 0, .int es.size 0, .int ep 0] }).get? (s.heap.objs.size + 1) = some { cls := .type "dict_keyiterator", data := .fields #[.ref d, .int 0 0, .int es.size 0, .int ep 0] } := by
    have z := Heap.get?_push_size (s.heap.push { cls := .type "list", data := .seq ([] : List Value).toArray }) (o := { cls := .type "dict_keyiterator", data := .fields #[.ref d, .int 0 0, .int es.size 0, .int ep 0] }) rfl
    rw [Heap.size_push] at z
    exact z
  have sz : (s.heap.push { cls := .type "list", data := .seq ([] : List Value).toArray }).objs.size = s.heap.objs.size + 1 := Heap.size_push ..
  have k1 : ∀ b o2, (s.heap.push { cls := .type "list", data := .seq ([] : List Value).toArray }).get? b = some o2 → ((s.heap.push { cls := .type "list", data := .seq ([] : List Value).toArray }).push { cls := .type "dict_keyiterator", data := .fields #[.ref d, .int 0 0, .int es.size 0, .int ep 0] }).get? b = some o2 := fun b o2 e => Heap.get?_push_of_some _ e
  show wpAny _ _ (if _ then _ else again (.builtin "list.extend.loop" ⟨[.ref s.heap.objs.size, .ref (s.heap.push { cls := .type "list", data := .seq ([] : List Value).toArray }).objs.size, .ref s.heap.objs.size], []⟩)) _ _ _
  rw [sz]
  generalize ((s.heap.push { cls := .type "list", data := .seq ([] : List Value).toArray }).push { cls := .type "dict_keyiterator", data := .fields #[.ref d, .int 0 0, .int es.size 0, .int ep 0] }) = h1 at hS1 hI1 k1 ⊢
  generalize s.heap.objs.size = S at *
  refine wpAny_ite_split (fun _ => ?_) (fun _ => wpAny_pure ⟨plainId_quiet PySem.F.plain_extend_loop _, ?_⟩)
  · refine wpAny_bind (wpAny_rule (wpAny_bind ?_))
    show wpAny _ _ (updateSeq S (·.push .none) >>= fun _ => updateSeq S (·.pop)) _ _ _
    refine wpAny_bind (wpAny_updateSeq hS1 rfl ?_)
    have hS2 := Heap.get?_update_self (Obj.mapSeq (·.push Value.none)) hS1 rfl
    refine wpAny_updateSeq (hz := by seq_fits) hS2 rfl ?_
    have hS3 := Heap.get?_update_self (Obj.mapSeq (·.pop)) hS2 rfl
    have oth : ∀ (b : Addr) (o2 : Obj), b ≠ S → h1.get? b = some o2 → ((h1.update S (Obj.mapSeq (·.push Value.none))).update S (Obj.mapSeq (·.pop))).get? b = some o2 := fun b o2 hb e => by
      rw [Heap.get?_update_other _ _ (Ne.symm hb), Heap.get?_update_other _ _ (Ne.symm hb)]
      exact e
    refine wpAny_pure ⟨plainId_quiet PySem.F.plain_extend_loop _, ?_⟩
    have K := key ((h1.update S (Obj.mapSeq (·.push Value.none))).update S (Obj.mapSeq (·.pop))) _ (fun b o2 hb e => oth b o2 hb (k1 b o2 e)) (oth _ _ (Nat.ne_of_gt (Nat.lt_succ_self _)) hI1) hS3
    refine codeAny_mono K fun q s2 y => ?_
    obtain ⟨rfl, h2, tk, c2, rfl, st, hl⟩ := y
    show wpAny _ A (load S >>= _) _ _ _
    exact wpAny_bind (wpAny_load hl (wpAny_pure (h h2 tk st)))
  · have K := key h1 _ (fun b o2 hb e => k1 b o2 e) hI1 hS1
    refine codeAny_mono K fun q s2 y => ?_
    obtain ⟨rfl, h2, tk, c2, rfl, st, hl⟩ := y
    show wpAny _ A (load S >>= _) _ _ _
    exact wpAny_bind (wpAny_load hl (wpAny_pure (h h2 tk st)))
/-- sorted of an empty dict of tuple keys -/
theorem cr_sorted0H (hot : HotC X) : CallR X (.builtin "sorted") (fun vs H Q => ∃ d, vs = [V.ref d] ∧ H d = some (.dT []) ∧ ∀ l, H l = none → Q (.ref l) (upd H l (.lst []))) := by
  intro ps st0 st H xs us Q I r h
  obtain ⟨d, rfl, hd, q⟩ := h
  obtain ⟨u, rfl, rx⟩ := vals1 r
  cases rx
  obtain ⟨z, nsys, ys, pr, o, es, ep, ho, hx, hdat, hes, hkeys, hnd⟩ := dt_of I.hok hd
  cases pr
  have l1 : es.size = 0 := size_of_entries hes
  obtain ⟨x1, ht⟩ := hot.at I
  refine Calls.call_function_entry PyProof.Rows.kind_sorted PyProof.Rows.plain_sorted PyProof.Rows.entry_sorted (PyProof.Rows.args_sorted1 _) ?_
  unfold Builtin.«sorted»
  refine wpAny_bind (m := checkCount "sorted" 1 1 _) (wpAny_pure (wpAny_bind (collect0H (A := X.A.in1) ht nsys ho hx hdat l1 fun h1 tk keep => ?_)))
  have I1 : Inv X ps st H { st0 with heap := h1, toks := tk } := I.kept keep
  have le0 : ([] : List Value).length ≤ sizeLine := Nat.zero_le _
  refine wpAny_bind (wpAny_newList ?_ le0)
  have hoL : (h1.push (seqObj "list" ([] : List Value).toArray 0)).get? h1.objs.size = some (seqObj "list" ([] : List Value).toArray 0) := Heap.get?_push_size _ rfl
  show wpAny _ _ _ _ _ { st0 with heap := h1.push (seqObj "list" ([] : List Value).toArray 0), toks := tk }
  refine wpAny_bind (wpAny_holding (wpAny_call_entry PyProof.Rows.slot_list_sort ⟨_, hoL, rfl⟩ PyProof.Rows.entry_list_sort
    (G.list_sort_tups (s := { st0 with heap := h1.push (seqObj "list" ([] : List Value).toArray 0), toks := tk }) (shape := shT) hoL .nil ?_ le0 fun so hp hs _ => ⟨_, rfl, ?_⟩)
    (PyProof.Rows.args_list_sort _)))
  · intro v hv
    exact absurd hv List.not_mem_nil
  · have out : ((arrOf so).map (·.2)).toList = [] := by
      have e := Array.perm_iff_toList_perm.mp hp
      rw [pairsOf_toList] at e
      have e2 : (arrOf so).toList = [] := e.eq_nil
      rw [Array.toList_map, e2]
      rfl
    obtain ⟨ep2, he2⟩ := PyProof.Rows.sortedHeap_at (vs := ([] : List Value)) (out := (arrOf so).map (·.2)) hoL
    refine wpAny_pure ⟨_, rfl, .ref h1.objs.size, upd H h1.objs.size (.lst []), I1.laid (t' := tk) (fun b u e => ?_) (Nat.le_refl _)
      (show ObjOk X.prog X.w _ _ _ (.lst []) from ⟨Nat.zero_le _, ((arrOf so).map (·.2)).toList, ep2, by rw [out]; exact .nil, by rw [Array.toArray_toList]; exact he2⟩), rfl,
      q _ (I1.hok.fresh (Nat.le_refl _))⟩
    have lt := Heap.lt_size e
    rw [PyProof.Rows.sortedHeap_old (Nat.ne_of_lt lt) (by rw [size_push']; exact Nat.lt_succ_of_lt lt)]
    exact Heap.get?_push_of_some _ e
end
end Gk
namespace Lw
open PySem PySem.Spec PyProof.Rows L2 L2H Gk
/-- of nothing, while an exception is handled -/
def spFewest0 (K : PySem.W.Frag) : Sp := fun vs H Q _ => ∃ a : Addr, vs = [.ref a] ∧ (SqL K H a [] ∨ SqT K H a []) ∧ ∀ H2 R, Kp T0 H H2 → H R = none → H2 R = some (.lst []) → Q (.ref R) H2
def spInit0 (K : PySem.W.Frag) (C : Addr) : Sp := fun vs H Q _ => ∃ x dx a : Addr, vs = [.ref x, .ref a] ∧ H x = some (.ins C dx []) ∧ (SqL K H a [] ∨ SqT K H a []) ∧
  ∀ H2 r, Kp (fun b => b = x) H H2 → H2 x = some (.ins C dx [("rows", .ref r)]) → H2 r = some (.tup []) → Q .non H2
def spPaths0 (C : Addr) : Sp := fun vs H Q _ => ∃ x dx r : Addr, vs = [.ref x] ∧ H x = some (.ins C dx [("rows", .ref r)]) ∧ H r = some (.tup []) ∧ ∀ l, H l = none → Q (.ref l) (upd H l (.lst []))
section
variable {P : Program} {w : World} {K : PySem.W.Frag} {mg : Str → Option Value} {base : Heap} {C : Addr}
theorem ok_fewestH {f : Addr} {fd : FuncData} (F : Fun K "fewest" "fewest" sFewest f fd) (T : TxtF mg) : FnH P w K mg base CX0 1 f fd ["paths"] (spFewest0 K) := by
  refine fun_okH F scFewest (fun vs H Q E h => ?_) (fun cdv A outer s H vs Q E p hot hr h => ?_)
  · obtain ⟨a, rfl, _⟩ := h
    rfl
  · obtain ⟨a, rfl, hsq, k⟩ := h
    have un : (A.deeper (envOfC "fewest" (defScope sFewest) s.heap.objs.size f cdv)).units < cLine := by
      have := hr.un
      omega
    refine ⟨_, pss_cons (ps_set (i := 1) scFewest.nd rfl (Or.inr rfl) (pe_callB (cr_sorted0H hot) (by rfl) T.z_sorted (by decide +kernel) (pa_cons (pe_dc0 (new := .dT []) (t := stT) (own := [("path", 2)])
        (storeT un) scFewest.nd (pi_0 hot (pv 0)) (blkOk_by (N := ["paths", "some", "path", "front"]) (sc := defScope sFewest) (by decide +kernel))) pa_nil)))
      (pss_one (ps_ret (pe_lc0 (own := [("path", 2)]) scFewest.nd (pi_0 hot (pv 1)) (blkOk_by (N := ["paths", "some", "path", "front"]) (sc := defScope sFewest) (by decide +kernel))))), ?_⟩
    refine ⟨_, rfl, a, rfl, hsq, fun D hD => ⟨D, rfl, upd_same, fun l hl => ⟨_, rfl, l, rfl, .inl (SqL.of upd_same), fun R hR => ?_⟩⟩⟩
    have k1 : Kp T0 H (upd H D (.dT [])) := (Kp.refl H).new hD
    have k2 := k1.new (o := .lst []) hl
    exact k _ R (k2.new hR) (k2.free hR) upd_same
theorem ok_initH {f : Addr} {fd : FuncData} {dvs : List V} (F : FunD K "__init__" "Mask.__init__" (defArgs sInit) (defBody sInit) (defScope sInit) dvs [] f fd) (T : TxtM K mg C) (DF : DfH P w K mg base 1 "fewest" ["paths"] (spFewest0 K)) :
    FnH P w K mg base CX0 2 f fd ["self", "paths"] (spInit0 K C) := by
  refine fund_okH F scInit (fun vs H Q E h => ?_) (fun cdv A outer s H vs Q E p hot hr h => ?_)
  · obtain ⟨x, dx, a, rfl, _⟩ := h
    rfl
  · obtain ⟨x, dx, a, rfl, hx, hsq, k⟩ := h
    refine ⟨_, pss_cons (ps_for0 PassesOwn.never (pi_0 hot (pv 1)))
      (pss_one (ps_fld (pv 0) (pe_callTy call_tuple_of (by rfl) T.z_tuple boot_tuple (pa_cons (pe_dfH DF hr hot (by rfl) (pa_cons (pv 1) pa_nil)) pa_nil)) rfl)), ?_⟩
    refine ⟨_, rfl, a, rfl, hsq, _, rfl, a, rfl, hsq, fun H2 R k2 hR eR => ?_⟩
    refine ⟨R, [], rfl, .inl ⟨SqL.of eR, fun r hr0 => ?_⟩⟩
    have k4 : Kp T0 H (upd H2 r (.tup [])) := k2.new hr0
    refine ⟨_, rfl, x, C, dx, [], rfl, k4.at0 hx, T.cl, T.nR, (by show 0 < 1000; decide), ?_⟩
    rw [putF_nil]
    have nrx : r ≠ x := fun z => by
      have q := k2.at0 hx
      rw [← z, hr0] at q
      cases q
    exact k _ r (k4.wide.put rfl) upd_same (by rw [upd_ne nrx, upd_same])
theorem ok_pathsH {f : Addr} {fd : FuncData} (F : Fun K "paths" "Mask.paths" sPaths f fd) (T : TxtM K mg C) (zl : mg "list" = none) : FnH P w K mg base CX0 1 f fd ["self"] (spPaths0 C) := by
  refine fun_okH F scPaths (fun vs H Q E h => ?_) (fun cdv A outer s H vs Q E p hot hr h => ?_)
  · obtain ⟨x, dx, r, rfl, _⟩ := h
    rfl
  · obtain ⟨x, dx, r, rfl, hx, hr1, k⟩ := h
    refine ⟨_, pss_one (ps_ret (pe_callTy call_list_of (by rfl) zl boot_list (pa_cons (pe_fld (pv 0) rfl) pa_nil))), ?_⟩
    exact ⟨_, rfl, x, C, dx, _, _, rfl, hx, T.cl, T.nR, rfl, r, [], rfl, .inr (SqT.of hr1), k⟩
end
end Lw
/-! Gk29: an own exception (below ValueError) whose __init__ says super().__init__(a text) and keeps its argument: what such an __init__ promises. -/
namespace Gk
open PySem PySem.Spec PyProof.Rows L2
/-- the scope of such an __init__ -/
structure SupScope (prm : Str) (sc : Scope) : Prop where
  kind : sc.kind = .function
  co : sc.isCoroutine = false
  gen : sc.isGenerator = false
  sup : sc.names.lookup ("super" : Str) = some .globalImplicit
  cls : sc.names.lookup ("__class__" : Str) = some .free
  lself : sc.names.lookup ("self" : Str) = some .local
  lprm : sc.names.lookup prm = some .local
  nocell : ∀ x ∈ sc.names, x.2 ≠ .cell
  one : ∀ x ∈ sc.names, x.2 = .free → x.1 = ("__class__" : Str)
  ne : prm ≠ ("self" : Str)
/-- the context of its body -/
def cxS (CX : CXT) (P : Program) (w : World) (K : PySem.W.Frag) (mg : Str → Option Value) (base : Heap) (prm : Str) (env : Env) (A : Around) (outer : List Env) (s : Shared) (H : Hp) (E : XK) : Cx where
  prog := P
  w := w
  K := K
  mg := mg
  base := base
  A := A.deeper env
  N := ["self", prm]
  s_0 := s
  H_0 := H
  env := env
  outer := outer
  stack := env :: outer
  ex := []
  calm := true
  fn := fun _ => false
  pn := []
  xe := fun e s' => wpAny (model P w) (A.deeper env) (leaving env e) (fun _ s'' => CX outer H s E e s'') (fun e' s'' => CX outer H s E e' s'') s'
theorem one_cell {cc c : Addr} {x : Str} (h : ([("__class__", cc)] : List (Str × Addr)).lookup x = some c) : x = ("__class__" : Str) ∧ c = cc := by
  rw [List.lookup_cons] at h
  cases e : x == ("__class__" : Str) with
  | true =>
    rw [e] at h
    exact ⟨beq_iff_eq.mp e, (Option.some.inj h).symm⟩
  | false =>
    rw [e] at h
    cases h
section
variable {CX : CXT} {P : Program} {w : World} {K : PySem.W.Frag} {mg : Str → Option Value} {base : Heap} {prm qual : Str} {sc : Scope} {f cc D : Addr} {cd : Value} {A : Around} {outer : List Env} {s : Shared} {H : Hp} {E : XK} {e : Addr} {u : Value} {v : V} {h0 : Heap} {tk : Nat}
theorem inv_sup (S : SupScope prm sc) (hd : A.handled = none) (e0 : Env0 P w K mg base A outer s H) {oc : Obj} (hc : K.lookup cc = some oc) (hoc : oc.data = .cell (some (.ref D)))
    (hns : h0.Ns s.heap.objs.size (fun x => ([(("self" : Str), Value.ref e), (prm, u)] : List (Str × Value)).reverse.lookup x)) (hk : ∀ b o, s.heap.get? b = some o → h0.get? b = some o) (rv : RelV v u) :
    Inv (cxS CX P w K mg base prm (PySem.W.ksEnv qual sc s.heap.objs.size f cd cc) A outer s H E) [] [some (.ref e), some v] H { s with heap := h0, toks := tk } := by
  have hbase := e0.mod.kin _ _ hc
  obtain ⟨hheap, hH⟩ := e0.bs _ _ hbase
  refine ⟨⟨e0.mod, S.kind, rfl, rfl, Nat.le_refl _, fun x y c h1 h2 => ?_, fun x hx => ?_, (fun x c h _ => nomatch h), fun _ => hd, Around.frames_deeper e0.frames, .inr ⟨rfl, rfl⟩, (fun b z => nomatch z), e0.bs, e0.bsz, (fun b _ _ z => nomatch z), (fun b z => nomatch z), e0.funs, e0.frf⟩,
    rfl, e0.bare, Un.kept hk, ⟨_, hns, fun i x v' h1 h2 h3 => ?_⟩, fun x c h => ?_, e0.hok.fresh (Nat.le_refl _), fun x c h => ?_, (fun p hp => nomatch hp), e0.hok.kept hk, rfl⟩
  · rw [(one_cell h1).1, (one_cell h2).1]
  · have hx : sc.names.lookup x = some .cell ∨ sc.names.lookup x = some .free := hx
    rcases hx with hx | hx
    · exact absurd rfl (S.nocell _ (PySem.mem_of_lookup hx))
    · have z := S.one _ (PySem.mem_of_lookup hx) rfl
      have z : x = ("__class__" : Str) := z
      subst z
      exact ⟨cc, by show ([("__class__", cc)] : List (Str × Addr)).lookup _ = _; rw [List.lookup_cons, beq_self_eq_true]⟩
  · match i, h1, h2 with
    | 0, h1, h2 =>
      cases Option.some.inj h1
      cases Option.some.inj (Option.some.inj h2)
      refine ⟨.ref e, rfl, .inl ⟨S.lself, ?_⟩⟩
      show ([(prm, u), (("self" : Str), Value.ref e)] : List (Str × Value)).lookup ("self" : Str) = _
      rw [List.lookup_cons, beq_eq_false_iff_ne.mpr (fun z => S.ne z.symm), List.lookup_cons, beq_self_eq_true]
    | 1, h1, h2 =>
      cases Option.some.inj h1
      cases Option.some.inj (Option.some.inj h2)
      refine ⟨u, rv, .inl ⟨S.lprm, ?_⟩⟩
      show ([(prm, u), (("self" : Str), Value.ref e)] : List (Str × Value)).lookup prm = _
      rw [List.lookup_cons, beq_self_eq_true]
    | n + 2, h1, h2 => cases h1
  · obtain ⟨rfl, rfl⟩ := one_cell h
    exact ⟨_, _, hk _ _ hheap, hoc⟩
  · obtain ⟨rfl, rfl⟩ := one_cell h
    exact hH
end
/-- what such an __init__ promises: the exception at e gets its dict with the one field -/
def spErr (C : Addr) (fld : Str) : Sp := fun vs H Q _ => ∃ (e : Addr) (v : V), vs = [.ref e, v] ∧ H e = some (exo e C none) ∧ ∀ d, H d = none → d ≠ e → Q .non (upd (upd H d (exd d [(fld, v)])) e (exo e C (some d)))
section
variable {CX : CXT} {P : Program} {w : World} {K : PySem.W.Frag} {mg : Str → Option Value} {base : Heap} {prm name qual fld tx file : Str} {params : Arguments} {body : List Stmt} {sc : Scope} {f cc C cda : Addr} {dV kV doc pm ct oc : Value} {an od : Option Addr}
  {osl ccs csl : Array (Option Value)} {ccl cl : Value} {cdd cld : Option Addr} {vs : Array Value} {tf : Tok} {k jj : Nat} {p0 p1 p2 p3 p4 pc q1 q2 q3 q4 : Pos} {ar : Arg}
/-- what the text's places give -/
structure SupText (qual prm fld tx : Str) (sc : Scope) (jj : Nat) (p0 p1 p2 p3 p4 pc q1 q2 q3 q4 : Pos) : Prop where
  inter : ∀ (L a : Addr) (cd : Value) (cc : Addr), interactive (PySem.W.ksEnv qual sc L a cd cc) = false
  sw1 : ∀ (L a : Addr) (cd : Value) (cc : Addr), swapsWith (.Call (.Attribute (.Call (.Name "super" p0) [] [] p1) "__init__" p2) [.Constant (.str tx) jj pc] [] p3) none p4.line (PySem.W.ksEnv qual sc L a cd cc) = pure false
  ev : ∀ (L a : Addr) (cd : Value) (cc : Addr), ∃ pl : Sem Bool, eval (.Call (.Attribute (.Call (.Name "super" p0) [] [] p1) "__init__" p2) [.Constant (.str tx) jj pc] [] p3) (PySem.W.ksEnv qual sc L a cd cc) = (do
      let ov ← attributeBase (.Call (.Name "super" p0) [] [] p1) "__init__" (PySem.W.ksEnv qual sc L a cd cc) (eval (.Call (.Name "super" p0) [] [] p1) (PySem.W.ksEnv qual sc L a cd cc))
      standAt p2.atName
      let (f, first) ← holding [ov] (getMethod ov "__init__" pl)
      callWith p3 f first (backTo p3 (starEach [.Constant (.str tx) jj pc] (PySem.W.ksEnv qual sc L a cd cc))) [])
  st : ∀ (L a : Addr) (cd : Value) (cc : Addr), starEach [.Constant (.str tx) jj pc] (PySem.W.ksEnv qual sc L a cd cc) = (false, eval (.Constant (.str tx) jj pc) (PySem.W.ksEnv qual sc L a cd cc)) :: starEach [] (PySem.W.ksEnv qual sc L a cd cc)
  sw2 : ∀ (L a : Addr) (cd : Value) (cc : Addr), swapsWith (.Name prm q3) (some (.Attribute (.Name "self" q1) fld q2)) q4.line (PySem.W.ksEnv qual sc L a cd cc) = pure false
theorem call_mw {prog : Program} {w : World} {A : Around} {E : Value → Shared → Prop} {h : Heap} {g : Array GenState} {d : _root_.PySem.Drawn} {t : Nat} {os : OsState} {nm q : Str} {C N : Addr} {bs bm : List Value} {hdct : Bool} {sn : List Str} {sub : List Value} {ab : Bool} {col : Option Bool}
    {dd : Option Addr} {k0 k1 k2 k3 k5 : Option Value} {u e t0 : Addr} {rest : List Value} {Q : Value → Shared → Prop}
    (hC : h.get? C = some (excClassObj nm q C N bs bm hdct sn sub ab col dd k0 k1 k2 k3 k5 "ValueError.__new__")) (he : h.get? e = some (HandSPX.excO C t0)) (hu : h.get? u = some (PySem.W.kxs_mw "ValueError.__init__" e)) (hrest : rest.length ≤ sizeLine)
    (hq : ∀ h' t1, (∀ b o, b ≠ e → h.get? b = some o → h'.get? b = some o) → h'.get? e = some (HandSPX.excO C t1) → Q .none ⟨h', g, d, t, os⟩) :
    wpAny (model prog w) A (call (.ref u) rest) Q E ⟨h, g, d, t, os⟩ := by
  refine wpAny_call (codeAny_of_tree ?_)
  show wpAny _ A.in1 (callAny (.ref u) ⟨rest, []⟩) _ _ _
  simp only [callAny]
  refine wpAny_bind (wpAny_load hu ?_)
  simp only [PySem.W.kxs_mw, show (Value.type "method-wrapper" == Value.type "method" || Value.type "method-wrapper" == Value.type "builtin_function_or_method" || Value.type "method-wrapper" == Value.type "method-wrapper") = true by decide, if_true]
  refine W.KFB.if_so (by decide) ?_
  refine wpAny_bind (ESX.check_bound F.excBase_ValueError hC he rfl ?_)
  refine wpAny_bind (wpAny_pure (wpAny_pure ?_))
  refine ⟨Code.quiet_builtin _ (by decide +kernel), codeAny_builtin F.excBase_ValueError.initEntry ?_⟩
  rw [Around.under_plainId F.excBase_ValueError.init.plain _]
  wp_walk
  refine hq _ h.objs.size (fun b o hb ho => ?_) ?_
  · rw [Heap.get?_update_other _ _ (Ne.symm hb)]
    exact Heap.get?_push_of_some _ ho
  · rw [Heap.get?_update_self _ (Heap.get?_push_of_some _ he) rfl]
    rfl
theorem fn_sup (lk : K.lookup f = some ⟨oc, od, .func (PySem.W.ksFn name qual params body sc dV kV doc pm an (.ref cda) ct cc), osl⟩) (hcd : PySem.W.codeIn K (.ref cda) qual = true) (S : SupScope prm sc)
    (hp : (params.posonlyargs ++ params.args).head? = some ar) (har : ar.arg = ("self" : Str)) (hcode : K.lookup cda = some ⟨ccl, cdd, .fields vs, ccs⟩) (hvs : vs[2]? = some (.str file tf)) (hfile : ((P.main.file : Str) == file) = true)
    (htop : (P.main.scope.names.lookup ("super" : Str)).isSome = false) (hcell : K.lookup cc = some ⟨cl, cld, .cell (some (.ref C)), csl⟩) (hsup : mg "super" = none) (hop : PySem.W.nsIn K cStatics "thirdparty.any" = some none)
    (hsi : PySem.W.ks_superIn K C C "__init__" = some (some (.builtin "ValueError.__init__"))) (T : OexC K C) (hno : PySem.W.findIn K (.ref C) fld = some none)
    (hbody : body = [.Expr (.Call (.Attribute (.Call (.Name "super" p0) [] [] p1) "__init__" p2) [.Constant (.str tx) jj pc] [] p3) p4, .Assign [.Attribute (.Name "self" q1) fld q2] (.Name prm q3) q4])
    (hx : SupText qual prm fld tx sc jj p0 p1 p2 p3 p4 pc q1 q2 q3 q4) (hnd : (prm == ("__debug__" : Str)) = false) (hncd : (prm == ("__classdict__" : Str)) = false) :
    FnOk P w K mg base CX (k + 1) f (PySem.W.ksFn name qual params body sc dV kV doc pm an (.ref cda) ct cc) ["self", prm] (spErr C fld) := by
  have len : ∀ vs H Q E, spErr C fld vs H Q E → vs.length = (["self", prm] : List Str).length := fun vs H Q E h => by
    obtain ⟨e, v, rfl, _⟩ := h
    rfl
  refine ⟨len, fun A outer s H args us vs' Q E hr e0 hb r hsp => ?_⟩
  obtain ⟨e, v, rfl, he, kq⟩ := hsp
  obtain ⟨u1, u, rfl, ru1, ru⟩ := r.two
  obtain rfl : u1 = Value.ref e := ru1
  have KX : K.In s.heap := e0.mod.kin.keeps fun b o e => (e0.bs b o e).1
  have lim : s.heap.NoLimit := e0.mod.nolimit.keeps fun b o e => (e0.bs b o e).1
  refine PySem.ks_codeAny_call_defAt (fd := PySem.W.ksFn name qual params body sc dV kV doc pm an (.ref cda) ct cc) (body := body) (binds := [(("self" : Str), Value.ref e), (prm, u)]) hr.depth (KX _ _ lk) rfl lim (PySem.W.codeRec_of KX hcd) rfl hb S.nocell (fun x hm => ?_) (fun h0 hns hk => ?_) S.co S.gen S.kind
  · rcases List.mem_cons.mp hm with rfl | hm
    · exact S.lself
    · rw [List.mem_singleton.mp hm]
      exact S.lprm
  subst hbody
  have I := inv_sup (CX := CX) (E := E) (qual := qual) (f := f) (cd := .ref cda) (tk := s.toks + 2) S hr.hd e0 hcell rfl hns hk ru
  change PySem.wpAt (model P w) (A.deeper (PySem.W.ksEnv qual sc s.heap.objs.size f (.ref cda) cc)) (.func _ (PySem.W.ksEnv qual sc s.heap.objs.size f (.ref cda) cc)) (execs _ (PySem.W.ksEnv qual sc s.heap.objs.size f (.ref cda) cc)) _ _ _
  have K0 : K.In h0 := KX.keeps hk
  obtain ⟨nm, qn, N, bs, bm, sn, sub, ab, col, dd, k0, k1, k2, k3, k5, hC, hbm⟩ := T.cls
  have hcl : PySem.W.clsIn K C = some { name := nm, bases := bs, mro := .ref C :: bm, ns := N, qualname := qn, hasDict := true, slotNames := sn, subclasses := sub, abstract := ab, collection := col, hasDel := false } := by unfold PySem.W.clsIn; rw [hC] <;> rfl
  obtain ⟨t1, hoe⟩ := exo_at I.hok he
  obtain ⟨pl, hev⟩ := hx.ev s.heap.objs.size f (.ref cda) cc
  refine PySem.ks_wpAt_execs_cons (PySem.ks_wpAt_Expr_any (PySem.ks_wpAt_MethodCall (pl := pl) (PySem.ks_wpAt_super_base S.sup S.cls (by decide) rfl (K0 _ _ lk) rfl hp rfl (K0 _ _ hcode) rfl hvs hfile htop ?_) hev) (hx.inter _ _ _ _) (hx.sw1 _ _ _ _))
  obtain ⟨mb, b1, b2⟩ := I.mod.blt
  refine PySem.W.ks_loadName_global S.kind S.sup (Calls.loadGlobal_builtin (I.mod.glob.keeps I.bk) hsup (b1.keeps I.bk) ((b2 _ (by decide)).trans (show bootBuiltins "super" = some (.type "super") by decide +kernel)) ⟨rfl, ?_⟩)
  refine wpAny_loadName_free S.kind S.cls rfl ⟨_, K0 _ _ hcell, rfl⟩ ?_
  simp only [har]
  refine wpAny_loadName_local S.kind S.lself hns (show ([(prm, u), (("self" : Str), Value.ref e)] : List (Str × Value)).lookup ("self" : Str) = some (.ref e) by rw [List.lookup_cons, beq_eq_false_iff_ne.mpr (fun z => S.ne z.symm), List.lookup_cons, beq_self_eq_true]) ?_
  refine PySem.ks_wpAny_isType_cls (K0 _ _ hC) rfl ⟨rfl, ?_⟩
  have hmC : PySem.W.mroIn K C (.ref C) = some true := by
    unfold PySem.W.mroIn
    rw [hcl, Option.bind_some, if_neg (show ¬ (List.isEmpty (Value.ref C :: bm) = true) from Bool.false_ne_true), List.contains_cons, beq_self_eq_true, Bool.true_or]
  have hmV : PySem.W.mroIn K C (.type "ValueError") = some true := by
    unfold PySem.W.mroIn
    rw [hcl, Option.bind_some, if_neg (show ¬ (List.isEmpty (Value.ref C :: bm) = true) from Bool.false_ne_true), List.contains_cons, PySem.HandSPX.refsVE_contains "ValueError" bm hbm, show PySem.HandSPX.veTail.contains (Value.type "ValueError") = true by decide +kernel, Bool.or_true]
  refine PySem.ks_wpAny_call_super (K0 _ _ hC) rfl hoe rfl (fun c z => nomatch z) (PySem.W.looks_mroIn K0 hmC) (fun h1 e1 k1 => ?_)
  have K1 := K0.keeps k1
  have IA : PySem.W.InstAt h1 e ({ cls := .ref C, dict := none, data := .fields #[.ref t1, .none, .none, .none, .bool false, .none] } : Obj) C none := ⟨k1 _ _ hoe, rfl, rfl, trivial⟩
  have hsi' : PySem.W.alongIn K "__init__" (((Value.ref C :: bm).dropWhile (· != .ref C)).drop 1) = some (some (.builtin "ValueError.__init__")) := by
    unfold PySem.W.ks_superIn at hsi
    rw [hcl] at hsi
    exact hsi
  refine PySem.W.kxs_getMethod PySem.W.kxs_ValueError e1 (PySem.W.looks_opaque K1 hop) (l₀ := .ref C :: bm) (fun A Q E s k q => wpAny_bind ((PySem.W.looks_clsIn K1 hcl) A _ E s k (wpAny_pure q))) rfl K1 hsi' (IA.type.andThen (PySem.W.looks_mroIn K1 hmV)) (PySem.W.ks_ne K1 IA hcl) (by decide) ?_
  have kp : ∀ b o, h1.get? b = some o → (h1.push (PySem.W.kxs_mw "ValueError.__init__" e)).get? b = some o := fun b o z => Heap.get?_push_of_some _ z
  rw [hx.st]
  refine PySem.W.kxs_callWith (i := "ValueError.__init__") (x := e) rfl (Calls.evalArgs_plain ?_)
  show wpAny _ _ (spliced [(false, eval (.Constant (.str tx) jj pc) (PySem.W.ksEnv qual sc s.heap.objs.size f (.ref cda) cc))]) _ _ _
  refine Calls.spliced_cons (Calls.Constant_str (Calls.spliced_nil ⟨Heap.get?_push_at rfl rfl, ?_⟩))
  refine call_mw (kp _ _ (K1 _ _ hC)) (t0 := t1) (kp _ _ (k1 _ _ hoe)) (Heap.get?_push_at rfl rfl) (by rw [sizeLine_eq]; show 1 ≤ 16777216; decide) (fun h2 t2 k2 hx2 => ?_)
  refine PySem.wpAt_of_wpAny ?_
  have J1 := I.kept (h' := h1.push (PySem.W.kxs_mw "ValueError.__init__" e)) (t' := 0) fun b o z => kp b o (k1 b o z)
  have J2 := J1.write (t' := s.toks + 4) (x := e) (e := e) (o := exo e C none) (by rw [he]; exact True.intro) (.inl rfl) k2 ⟨_, hx2⟩ (exo_ok hx2)
  have eu : upd H e (exo e C none) = H := by
    funext b
    by_cases hb : b = e
    · rw [hb, upd_same, he]
    · rw [upd_ne hb]
  rw [eu] at J2
  have oN : (["self", prm] : List Str)[0]? = some ("self" : Str) := rfl
  have ht : PSs (cxS CX P w K mg base prm (PySem.W.ksEnv qual sc s.heap.objs.size f (.ref cda) cc) A outer s H E) [.Assign [.Attribute (.Name "self" q1) fld q2] (.Name prm q3) q4] _ :=
    pss_one (ps_ost (pe_var (i := 0) rfl (Or.inl S.lself) (by decide) (by decide)) (pe_var (i := 1) rfl (Or.inl S.lprm) hnd hncd) (hx.sw2 _ _ _ _))
  refine wpAny_mono (ht.run [] _ _ H { nx := fun _ H' => Q .non H', rt := Q } J2 ⟨v, rfl, .ref e, rfl, e, C, rfl, T, hno, .inl ⟨he, fun dx hdx ne => kq dx hdx ne⟩⟩) (fun fl s' hs => ?_) fun e s' hs => hs
  cases fl with
  | ret u =>
    obtain ⟨v, σ', H', J, rv, q⟩ := hs
    exact ⟨v, H', J.os, J.bare, J.base, J.hok, rv, q⟩
  | next =>
    obtain ⟨σ', H', J, q⟩ := hs
    exact ⟨V.non, H', J.os, J.bare, J.base, J.hok, rfl, q⟩
  | brk =>
    obtain ⟨_, _, _, q⟩ := hs
    exact False.elim q
  | cont =>
    obtain ⟨_, _, _, q⟩ := hs
    exact False.elim q
end
end Gk
/-! Gk30: own exceptions as values: C(e), C(k = e). -/
namespace Gk
open PySem PySem.Spec PyProof.Rows L2
section
variable {M : Model} {prog : Program} {w : World} {A : Around} {E : Value → Shared → Prop} {R : Result → Shared → Prop} {h : Heap} {g : Array GenState} {d : _root_.PySem.Drawn} {t : Nat} {os : OsState}
variable {nm q : Str} {C N : Addr} {bs bm bmB : List Value} {hdct : Bool} {sn : List Str} {sub : List Value} {ab : Bool} {col : Option Bool} {dd : Option Addr} {k0 k1 k2 k3 k5 : Option Value} {B newId initId : String} {n : Str} {u : Value}
theorem check_new_kw (F : ExcBaseFacts B newId initId bmB) (hT : ∀ X : String, bm.contains (.type X) = bmB.contains (.type X)) {Q : Unit → Shared → Prop}
    (hC : h.get? C = some (excClassObj nm q C N bs bm hdct sn sub ab col dd k0 k1 k2 k3 k5 newId)) (hq : Q () ⟨h, g, d, t, os⟩) : wpAny M A (checkBuiltinCall newId ⟨[.ref C], [(n, u)]⟩) Q E ⟨h, g, d, t, os⟩ := by
  have hcont : (Value.ref C :: bm).contains (.type B) = true := by rw [List.contains_cons, hT, F.hasB, Bool.or_true]
  have hstar := F.noStar
  simp only [checkBuiltinCall, F.newKind, F.newSplit, F.newRow]
  repeat (first | refine wpAny_loadPart_at hC ?_ | (refine wpAny_isSubtype_exc hC ?_; rw [hcont]) | refine wpAny_staticBase_exc hC ?_ | refine wpAny_madeBy_exc hC ?_ | simp only [bne_self_eq_false, Bool.false_eq_true, if_false] | wp_step)
  exact hq
theorem new_kw (F : ExcBaseFacts B newId initId bmB) (hT : ∀ X : String, bm.contains (.type X) = bmB.contains (.type X))
    (hC : h.get? C = some (excClassObj nm q C N bs bm hdct sn sub ab col dd k0 k1 k2 k3 k5 newId))
    (hq : R (.ok (.ret (.ref (h.objs.size + 1)))) ⟨(h.push { cls := .type "tuple", data := .seq #[] }).push
      { cls := .ref C, data := .fields #[.ref h.objs.size, .none, .none, .none, .bool false, .none] }, g, d, t, os⟩) :
    codeAny (model prog w) A (.builtin newId ⟨[.ref C], [(n, u)]⟩) R ⟨h, g, d, t, os⟩ := by
  have hends := F.ends
  have hcB : (Value.ref C :: bm).contains (.type B) = true := by rw [List.contains_cons, hT, F.hasB, Bool.or_true]
  have hcA : (Value.ref C :: bm).contains (.type "AttributeError") = false := by rw [List.contains_cons, hT, F.noAttr]; rfl
  have hcN : (Value.ref C :: bm).contains (.type "NameError") = false := by rw [List.contains_cons, hT, F.noName]; rfl
  have hrest : ([] : List Value).length ≤ sizeLine := Nat.zero_le _
  refine codeAny_builtinAt F.entry ?_
  unfold Builtin.«BaseException.__new__»
  refine PySem.wpAt_bind ?_
  show PySem.wpAt _ _ _ (stack >>= _) _ _ _
  refine PySem.wpAt_bind (PySem.wpAt_stack fun p below => PySem.wpAt_of_wpAny ?_)
  wp_walk
  refine PySem.wpAt_of_wpAny ?_
  rw [F.owner]
  repeat (first | with_reducible refine HandSPX.wpAny_madeHere_exc F.canon hC ?_ | with_reducible refine wpAny_madeHere_exc F.canon hC ?_ | with_reducible refine wpAny_loadPart_at hC ?_ | (with_reducible refine wpAny_isSubtype_exc hC ?_; first | rw [hcB] | rw [hcA] | rw [hcN]) | wp_step)
  show R _ _
  rw [Heap.size_push]
  exact hq
theorem check_call_kw {Q : Unit → Shared → Prop} (hC : h.get? C = some (excClassObj nm q C N bs bm hdct sn sub ab col dd k0 k1 k2 k3 k5 newId))
    (hq : Q () ⟨h, g, d, t, os⟩) : wpAny M A (checkBuiltinCall "type.__call__" ⟨[.ref C], [(n, u)]⟩) Q E ⟨h, g, d, t, os⟩ := by
  have f3 := tc_sub
  have hT : (⟨h, g, d, t, os⟩ : Shared).TypeIs (.ref C) "type" := ⟨_, hC, rfl⟩
  simp only [checkBuiltinCall, tc_kind, tc_split]
  repeat (any_goals (first | assumption | with_reducible refine wpAny_loadPart_at hC ?_ | with_reducible refine wpAny_onRaise ?_ | with_reducible refine wpAny_map ?_ | wp_step))
theorem type_call_kw (F : ExcBaseFacts B newId initId bmB) (hT : ∀ X : String, bm.contains (.type X) = bmB.contains (.type X)) {fI : Addr} {Q : Fin → Shared → Prop}
    (hC : h.get? C = some (excClassObj nm q C N bs bm hdct sn sub ab col dd k0 k1 k2 k3 k5 newId))
    (hi : W.Looks (model prog w) h (typeLookup (.ref C) "__init__") (some (.ref fI))) (hb : ∀ self, W.Looks (model prog w) h (bindSpecial (.ref fI) self) (.ref fI, [self]))
    (hq : codeAny (model prog w) A (.call (.ref fI) ⟨[.ref (h.objs.size + 1)], [(n, u)]⟩)
      (fun r s' => match r with | .ok (.ret v) => v = .none ∧ Q (.done (.ret (.ref (h.objs.size + 1)))) s' | .ok _ => False | .error e => E e s')
      ⟨(h.push (W.kdv_tup [])).push (HandSPX.excO C h.objs.size), g, d, t, os⟩) :
    wpAny (model prog w) A (Builtin.«type.__call__» ⟨[.ref C], [(n, u)]⟩) Q E ⟨h, g, d, t, os⟩ := by
  repeat (first | with_reducible refine wpAny_loadPart_at hC ?_ | with_reducible refine wpAny_madeBy_exc hC ?_ | wp_step)
  refine codeAny_call_builtin_code (Code.quiet_builtin _ F.quiet) (check_new_kw F hT hC ?_)
  refine new_kw F hT hC ?_
  show wpAny _ _ _ _ _ _
  have k : ∀ b o, h.get? b = some o → ((h.push (W.kdv_tup [])).push (HandSPX.excO C h.objs.size)).get? b = some o := fun b o e => Heap.get?_push_of_some _ (Heap.get?_push_of_some _ e)
  have hC₁ := k _ _ hC
  have hget : ((h.push (W.kdv_tup [])).push (HandSPX.excO C h.objs.size)).get? (h.objs.size + 1) = some (HandSPX.excO C h.objs.size) := by heap_get
  have hcC : (Value.ref C :: bm).contains (.ref C) = true := by simp
  have i1 := hi.keeps k
  have b1 := (hb (.ref (h.objs.size + 1))).keeps k
  unfold isInstance
  repeat (first | with_reducible refine wpAny_loadPart_at hget ?_ | (with_reducible refine wpAny_isSubtype_exc hC₁ ?_; rw [hcC]) | wp_step)
  show wpAny _ _ (typeLookup (.ref C) _) _ _ _
  refine i1.at ?_
  refine wpAny_holding (wpAny_bind (b1.at ?_))
  refine wpAny_bind (wpAny_call (codeAny_mono hq fun r s' z => ?_))
  rcases r with e | (v | _ | _ | _) <;> first | exact z | exact z.elim | skip
  obtain ⟨rfl, z⟩ := z
  first
    | exact wpAny_pure (wpAny_pure z)
    | (wp_walk; exact z)
theorem call_kw (F : ExcBaseFacts B newId initId bmB) (hT : ∀ X : String, bm.contains (.type X) = bmB.contains (.type X)) {fI : Addr}
    (hC : h.get? C = some (excClassObj nm q C N bs bm hdct sn sub ab col dd k0 k1 k2 k3 k5 newId))
    (hi : W.Looks (model prog w) h (typeLookup (.ref C) "__init__") (some (.ref fI))) (hb : ∀ self, W.Looks (model prog w) h (bindSpecial (.ref fI) self) (.ref fI, [self]))
    (hq : codeAny (model prog w) (A.under (.builtin "type.__call__" ⟨[.ref C], [(n, u)]⟩)) (.call (.ref fI) ⟨[.ref (h.objs.size + 1)], [(n, u)]⟩) (W.InitBack (h.objs.size + 1) R)
      ⟨(h.push (W.kdv_tup [])).push (HandSPX.excO C h.objs.size), g, d, t, os⟩) :
    codeAny (model prog w) A (.call (.ref C) ⟨[], [(n, u)]⟩) R ⟨h, g, d, t, os⟩ := by
  have f1 := tc_lookup
  have f2 := tc_bind (.ref C)
  have hTy : (⟨h, g, d, t, os⟩ : Shared).TypeIs (.ref C) "type" := ⟨_, hC, rfl⟩
  refine codeAny_of_tree ?_
  show wpAny _ _ (callAny (.ref C) _) _ _ _
  repeat (any_goals (first | assumption | with_reducible refine wpAny_loadPart_at hC ?_ | wp_step))
  refine ⟨rfl, ?_⟩
  refine codeAny_call_builtin_at (Code.quiet_builtin _ (by decide +kernel)) _root_.PySem.entry_typeCall (check_call_kw hC (type_call_kw F hT hC hi hb ?_))
  refine codeAny_mono hq fun r s' z => ?_
  rcases r with e | (v | _ | _ | _) <;> exact z
end
/-- an exception class of the program's own and its __init__ -/
structure ErC (P : Program) (w : World) (K : PySem.W.Frag) (mg : Str → Option Value) (base : Heap) (k : Nat) (x : Str) (C : Addr) (prm fld : Str) : Prop where
  T : OexC K C
  gl : mg x = some (.ref C)
  ex : ∃ (fI : Addr) (fd : FuncData), PySem.W.findIn K (.ref C) "__init__" = some (some (.ref fI)) ∧ PySem.W.typeIn K (.ref fI) = some (.type "function") ∧ FnOk P w K mg base CX0 k fI fd ["self", prm] (spErr C fld) ∧
    (∀ s u v, BindsTo s fd ⟨[u, v], []⟩ [(("self" : Str), u), (prm, v)]) ∧ ∀ s u v, BindsTo s fd ⟨[u], [(prm, v)]⟩ [(("self" : Str), u), (prm, v)]
/-- C(e): the exception at a, its dict at d -/
def tMkV (C : Addr) (fld : Str) (te : TE) : TE := fun σ H Q => te σ H fun v H1 => ∀ H2 a d, Kp T0 H1 H2 → H1 a = none → H2 a = some (exo a C (some d)) → H2 d = some (exd d [(fld, v)]) → Q (.ref a) H2
section
variable {X : Cx} {C : Addr} {k : Nat} {x prm fld : Str} {p pos kpos : Pos} {e : Expr} {te : TE}
theorem run_exc {pins : List (Addr × Obj)} {σ : L2.St} {H1 : Hp} {s1 : Shared} {Q : VK} {v : V} {u : Value} {args : Args} (T : ErC X.prog X.w X.K X.mg X.base k x C prm fld) (hr : Room (k + 1) X.A) (I1 : Inv X pins σ H1 s1) (ru : RelV v u)
    (ha : args = ⟨[u], []⟩ ∨ args = ⟨[], [(prm, u)]⟩) (q : ∀ H2 a d, Kp T0 H1 H2 → H1 a = none → H2 a = some (exo a C (some d)) → H2 d = some (exd d [(fld, v)]) → Q (.ref a) H2) :
    wpAny (model X.prog X.w) X.A (call (.ref C) args.pos args.kw) (EP X pins σ Q) X.xe s1 := by
  obtain ⟨nm, qn, N, bs, bm, sn, sub, ab, col, dd, k0, k1, k2, k3, k5, hC, hbm⟩ := T.T.cls
  obtain ⟨fI, fd, iC, tI, F1, hb1, hb2⟩ := T.ex
  obtain ⟨hp, g, dr, tk, os⟩ := s1
  have hsz : hp.objs.size ≤ hp.objs.size + 1 := Nat.le_succ _
  have hn : H1 (hp.objs.size + 1) = none := I1.hok.fresh hsz
  have main : ∀ (ts : List Value), ∃ I2 : Inv X pins σ (upd H1 (hp.objs.size + 1) (exo (hp.objs.size + 1) C none)) ⟨(hp.push (PySem.W.kdv_tup ts)).push (PySem.HandSPX.excO C hp.objs.size), g, dr, tk, os⟩, True := fun ts => by
    have kk : ∀ b o, hp.get? b = some o → ((hp.push (PySem.W.kdv_tup ts)).push (PySem.HandSPX.excO C hp.objs.size)).get? b = some o := fun b o e => Heap.get?_push_of_some _ (Heap.get?_push_of_some _ e)
    have hget : ((hp.push (PySem.W.kdv_tup ts)).push (PySem.HandSPX.excO C hp.objs.size)).get? (hp.objs.size + 1) = some (PySem.HandSPX.excO C hp.objs.size) := by heap_get
    exact ⟨I1.laid (t' := tk) (a := hp.objs.size + 1) (o := exo (hp.objs.size + 1) C none) (h' := (hp.push (PySem.W.kdv_tup ts)).push (PySem.HandSPX.excO C hp.objs.size)) kk hsz (exo_ok hget), trivial⟩
  have sp : spErr C fld [.ref (hp.objs.size + 1), v] (upd H1 (hp.objs.size + 1) (exo (hp.objs.size + 1) C none)) (fun v2 H2 => v2 = .non ∧ Q (.ref (hp.objs.size + 1)) H2) E0 := by
    refine ⟨_, v, rfl, upd_same, fun d hd ne => ⟨rfl, q _ _ d ?_ hn upd_same (by rw [upd_ne ne]; exact upd_same)⟩⟩
    have hd1 : H1 d = none := by rw [upd_ne ne] at hd; exact hd
    exact (((Kp.refl (T := T0) H1).over hn).over hd1).over hn
  have r2 : Vals [V.ref (hp.objs.size + 1), v] [Value.ref (hp.objs.size + 1), u] := .cons rfl (.cons ru .nil)
  have fin : ∀ (ts : List Value) (I2 : Inv X pins σ (upd H1 (hp.objs.size + 1) (exo (hp.objs.size + 1) C none)) ⟨(hp.push (PySem.W.kdv_tup ts)).push (PySem.HandSPX.excO C hp.objs.size), g, dr, tk, os⟩) (r : Result) (s' : Shared),
      CR CX0 X.stack X.prog X.w (upd H1 (hp.objs.size + 1) (exo (hp.objs.size + 1) C none)) ⟨(hp.push (PySem.W.kdv_tup ts)).push (PySem.HandSPX.excO C hp.objs.size), g, dr, tk, os⟩ (fun v2 H2 => v2 = .non ∧ Q (.ref (hp.objs.size + 1)) H2) E0 r s' →
      PySem.W.InitBack (hp.objs.size + 1) (fun r s' => match r with | .ok (.ret v) => EP X pins σ Q v s' | .ok _ => False | .error e => X.xe e s') r s' := fun ts I2 r s' hq' => by
    cases r with
    | error er => exact pass0 pins σ _ _ er s' I2 hq'
    | ok fl =>
      cases fl with
      | ret u2 =>
        obtain ⟨v2, H', I3, rv, ev, q3⟩ := I2.after hq'
        subst ev
        exact ⟨rv, ⟨V.ref (hp.objs.size + 1), H', I3, rfl, q3⟩⟩
      | next => exact False.elim hq'
      | brk => exact False.elim hq'
      | cont => exact False.elim hq'
  rcases ha with rfl | rfl
  · obtain ⟨I2, _⟩ := main [u]
    refine wpAny_call (PySem.HandSPX.call_own F.excBase_ValueError (fun Y => PySem.HandSPX.refsVE_contains Y bm hbm) (I1.kIn _ _ hC) (PySem.W.looks_findIn I1.kIn iC) (fun self => PySem.W.bind_fn I1.kIn self tI) (by rw [sizeLine_eq]; show 1 ≤ 16777216; decide) ?_)
    refine codeAny_mono (F1.run _ X.stack _ _ ⟨[Value.ref (hp.objs.size + 1), u], []⟩ [Value.ref (hp.objs.size + 1), u] _ _ E0 (hr.make C [u] []) (I2.env0.make C [u] []) (hb1 _ _ _) r2 sp) fun r s' hq' => fin [u] I2 r s' hq'
  · obtain ⟨I2, _⟩ := main []
    refine wpAny_call (call_kw F.excBase_ValueError (fun Y => PySem.HandSPX.refsVE_contains Y bm hbm) (I1.kIn _ _ hC) (PySem.W.looks_findIn I1.kIn iC) (fun self => PySem.W.bind_fn I1.kIn self tI) ?_)
    refine codeAny_mono (F1.run _ X.stack _ _ ⟨[Value.ref (hp.objs.size + 1)], [(prm, u)]⟩ [Value.ref (hp.objs.size + 1), u] _ _ E0 (hr.make C [] [(prm, u)]) (I2.env0.make C [] [(prm, u)]) (hb2 _ _ _) r2 sp) fun r s' hq' => fin [] I2 r s' hq'
/-- one value -/
def One (Q : V → Hp → Prop) (vs : List V) (H : Hp) : Prop := match vs with
  | [v] => Q v H
  | _ => False
theorem one_of {Q : V → Hp → Prop} {vs : List V} {us : List Value} {H : Hp} (r : Vals vs us) (h : One Q vs H) : ∃ v u, vs = [v] ∧ us = [u] ∧ RelV v u ∧ Q v H := by
  match vs, us, r, h with
  | [], _, _, h => exact False.elim h
  | _ :: _ :: _, _, _, h => exact False.elim h
  | [v], _, r, h =>
    cases r with
    | cons ru rn =>
      cases rn
      exact ⟨v, _, rfl, rfl, ru, h⟩
theorem pe_exc (T : ErC X.prog X.w X.K X.mg X.base k x C prm fld) (hr : Room (k + 1) X.A) (hg : Gl X x) (he : PE X e te) (hdb : (x == ("__debug__" : Str)) = false := by decide)
    (hst : starEach [e] X.env = (false, eval e X.env) :: starEach [] X.env := by rfl) (hpl : (backTo pos (starEach [] X.env)).any (·.1) = false := by rfl) : PE X (.Call (.Name x p) [e] [] pos) (tMkV C fld te) := by
  refine ⟨fun pins s σ H Q I h => ?_⟩
  refine wpAny_Call_Name_kw (ld_glob I hg T.gl ?_ hdb)
  refine PySem.W.callWith_K (h₀ := X.base) I.ok.mod.kin T.T.kC (thn ((pa_cons he pa_nil (hs := hst)).run pos pins s σ H (One fun v H1 => ∀ H2 a d, Kp T0 H1 H2 → H1 a = none → H2 a = some (exo a C (some d)) → H2 d = some (exd d [(fld, v)]) → Q (.ref a) H2) I h) fun us s1 ⟨vs, H1, I1, r1, q1⟩ => ⟨I1.kIn, ?_⟩) hst hpl
  obtain ⟨v, u, rfl, rfl, ru, q⟩ := one_of r1 q1
  exact run_exc T hr I1 ru (.inl rfl) q
theorem pe_excK (T : ErC X.prog X.w X.K X.mg X.base k x C prm fld) (hr : Room (k + 1) X.A) (hg : Gl X x) (he : PE X e te) (hdb : (x == ("__debug__" : Str)) = false := by decide)
    (hall : (backToKw pos (keywordEach [⟨some prm, e, kpos⟩] X.env)).all (·.1.isSome) = true := by rfl) (hks : (backToKw pos (keywordEach [⟨some prm, e, kpos⟩] X.env)).filterMap (·.1) = [prm] := by rfl)
    (hpl : ((backTo pos (starEach [] X.env)).any (·.1) || (backToKw pos (keywordEach [⟨some prm, e, kpos⟩] X.env)).any (·.1.isNone)) = false := by rfl) : PE X (.Call (.Name x p) [] [⟨some prm, e, kpos⟩] pos) (tMkV C fld te) := by
  refine ⟨fun pins s σ H Q I h => ?_⟩
  refine wpAny_Call_Name_kw (ld_glob I hg T.gl ?_ hdb)
  refine PySem.W.callWith_KW0 (first := []) (h₀ := X.base) I.ok.mod.kin T.T.kC hall ?_ hpl
  refine thn ((pk_cons he pk_nil).run pos pins s σ H (One fun v H1 => ∀ H2 a d, Kp T0 H1 H2 → H1 a = none → H2 a = some (exo a C (some d)) → H2 d = some (exd d [(fld, v)]) → Q (.ref a) H2) I h) fun us s1 ⟨vs, H1, I1, r1, q1⟩ => ⟨I1.kIn, ?_⟩
  obtain ⟨v, u, rfl, rfl, ru, q⟩ := one_of r1 q1
  rw [hks]
  exact run_exc T hr I1 ru (.inr rfl) q
/-- o.f of an exception that is a value -/
def tExf (K : PySem.W.Frag) (n : Str) (te : TE) : TE := fun σ H Q => te σ H fun x H1 => ∃ (a C d : Addr) (fs : List (Str × V)) (v : V), x = .ref a ∧ H1 a = some (exo a C (some d)) ∧ H1 d = some (exd d fs) ∧ fs.lookup n = some v ∧ XfC K C ∧ PySem.W.findIn K (.ref C) n = some none ∧ Q v H1
theorem pe_exf {n : Str} (he : PE X e te) (hb : attributeBase e n X.env (eval e X.env) = eval e X.env := by rfl) : PE X (.Attribute e n pos) (tExf X.K n te) := by
  refine ⟨fun pins s σ H Q I h => ?_⟩
  refine attr_of hb (thn (he.run pins s σ H _ I h) fun u s1 hh => ?_)
  obtain ⟨x, H1, I1, rx, a, C, d, fs, v, ex, ea, ed, l, T, hno, q⟩ := hh
  subst ex
  obtain rfl : u = Value.ref a := rx
  obtain ⟨t1, ha⟩ := exo_at I1.hok ea
  obtain ⟨mA, hns, hr⟩ := exd_at I1.hok ed
  obtain ⟨od, ho, hl⟩ := lookIn_ns hns
  obtain ⟨u, hu, ru⟩ := RelO.some_of (v := v) (o := mA n) (by rw [← l]; exact hr n)
  have J : PySem.W.InstAt s1.heap a ({ cls := .ref C, dict := some d, data := .fields #[.ref t1, .none, .none, .none, .bool false, .none] } : Obj) C (some od) := ⟨ha, rfl, rfl, ho⟩
  exact HandSPX.exc_get I1.kIn J T.ga T.gg T.exC (PySem.W.findObj_own T.hdC hno rfl (by rw [hl, hu])) (handed_of ru) ⟨v, H1, I1.tok _, ru, q⟩
/-- what isinstance asks of an own exception class -/
structure IsC (K : PySem.W.Frag) (C : Addr) : Prop where
  xf : XfC K C
  ca : PySem.W.findIn K (.ref C) "__class__" = some (some (.builtin "object.__class__"))
  cn : PySem.W.specialIn K (.builtin "object.__class__") "__get__" = some (some (.builtin "getset_descriptor.__get__"))
  ct : PySem.W.takesIn K (.builtin "object.__class__") = some true
  cm : PySem.W.mroIn K C (.type "object") = some true
/-- isinstance(e, c) of an exception that is a value -/
def rIsX (K : PySem.W.Frag) : List V → Hp → VK → Prop := fun xs H Q => ∃ (a C d : Addr) (fs : List (Str × V)) (c : V) (u : Value) (b : Bool), xs = [.ref a, c] ∧ ClsV c u ∧ H a = some (exo a C (some d)) ∧ H d = some (exd d fs) ∧ OexC K C ∧ IsC K C ∧ PySem.W.kitOne K (.ref C) u = some b ∧ Q (.bl b) H
theorem call_isX : CallR X (.builtin "isinstance") (rIsX X.K) := by
  intro pins s σ H xs us Q I r h
  obtain ⟨a, C, d, fs, c, u, b, rfl, k, ea, ed, T, Z, e, q⟩ := h
  obtain ⟨u1, u2, rfl, r1, r2⟩ := vals2 r
  obtain rfl := k.eq r2
  obtain rfl : u1 = Value.ref a := r1
  obtain ⟨t1, ha⟩ := exo_at I.hok ea
  obtain ⟨mA, hns, hr⟩ := exd_at I.hok ed
  obtain ⟨od, ho, hl⟩ := lookIn_ns hns
  have J : PySem.W.InstAt s.heap a ({ cls := .ref C, dict := some d, data := .fields #[.ref t1, .none, .none, .none, .bool false, .none] } : Obj) C (some od) := ⟨ha, rfl, rfl, ho⟩
  have hcl : (PySem.W.clsIn X.K C).isSome = true := by
    obtain ⟨nm, q, N, bs, bm, sn, sub, ab, col, dd, k0, k1, k2, k3, k5, hC, hbm⟩ := T.cls
    unfold PySem.W.clsIn
    rw [hC]
    rfl
  exact PySem.W.kia_one (PySem.W.kitx_exc hcl Z.xf.ga Z.xf.gg Z.xf.exC Z.ca Z.cn Z.ct Z.cm) I.kIn J e (fun z => nomatch z) fun tk => ⟨.bl b, H, I.tok tk, rfl, q⟩
end
end Gk
/-! Gk37: raise C(e), C's __init__ its own: the exception's context is None. -/
namespace Gk
open PySem PySem.Spec PyProof.Rows L2
theorem pmk_oexN {X : Cx} {x : Str} {e : Expr} {es : List Expr} {ta : TA} {p pos : Pos} {C fI : Addr} {k : Nat} {fd : FuncData} {ps : List Str} {sp : Sp} (T : OexC X.K C) (iC : PySem.W.findIn X.K (.ref C) "__init__" = some (some (.ref fI))) (tI : PySem.W.typeIn X.K (.ref fI) = some (.type "function"))
    (F1 : FnOk X.prog X.w X.K X.mg X.base CX0 k fI fd ps sp) (hr : Room (k + 1) X.A) (hb : Binds X.K fd ps []) (hg : Gl X x) (hm : X.mg x = some (.ref C)) (ha : PA X (e :: es) ta)
    (hdb : (x == ("__debug__" : Str)) = false := by decide) (he : starEach (e :: es) X.env = (false, eval e X.env) :: starEach es X.env := by rfl) (hpl : (backTo pos (starEach es X.env)).any (·.1) = false := by rfl) :
    L2N.PMk X (.Call (.Name x p) (e :: es) [] pos) (tMkO C sp [] ta) := by
  intro pins s σ H Q I h
  obtain ⟨nm, q, N, bs, bm, sn, sub, ab, col, dd, k0, k1, k2, k3, k5, hC, hbm⟩ := T.cls
  refine wpAny_Call_Name_kw (ld_glob I hg hm ?_ hdb)
  refine PySem.W.callWith_K (h₀ := X.base) I.ok.mod.kin T.kC (thn (ha.run pos pins s σ H _ I h) fun us s1 q1 => ?_) he hpl
  obtain ⟨vs, H1, I1, r1, small, want⟩ := q1
  refine ⟨I1.kIn, ?_⟩
  show wpAny _ _ (call (.ref C) us) _ _ _
  obtain ⟨hp, g, dr, tk, os⟩ := s1
  -- the object's place
  have le : hp.objs.size ≤ hp.objs.size + 1 := Nat.le_succ _
  have hn : H1 (hp.objs.size + 1) = none := I1.hok.fresh le
  have hq := want _ hn
  have keep : ∀ b o, hp.get? b = some o → ((hp.push (PySem.W.kdv_tup us)).push (PySem.HandSPX.excO C hp.objs.size)).get? b = some o := fun b o z => Heap.get?_push_of_some _ (Heap.get?_push_of_some _ z)
  have at1 : ((hp.push (PySem.W.kdv_tup us)).push (PySem.HandSPX.excO C hp.objs.size)).get? (hp.objs.size + 1) = some (PySem.HandSPX.excO C hp.objs.size) := by heap_get
  have I2 : Inv X pins σ (upd H1 (hp.objs.size + 1) (exo (hp.objs.size + 1) C none)) ⟨(hp.push (PySem.W.kdv_tup us)).push (PySem.HandSPX.excO C hp.objs.size), g, dr, tk, os⟩ :=
    I1.laid (t' := tk) (o := exo (hp.objs.size + 1) C none) keep le (exo_ok at1)
  have r2 : Vals (V.ref (hp.objs.size + 1) :: (vs ++ [])) (Value.ref (hp.objs.size + 1) :: (us ++ [])) := .cons rfl (r1.append .nil)
  have ll : (Value.ref (hp.objs.size + 1) :: (us ++ [])).length = ps.length := r2.length ▸ F1.len _ _ _ _ hq
  have lus : us.length ≤ sizeLine := by
    have := Paired.length r1
    rw [sizeLine_eq]
    omega
  have go := F1.run _ X.stack _ _ ⟨Value.ref (hp.objs.size + 1) :: us, []⟩ _ _ _ (fun _ _ _ => False) (hr.make C us []) (I2.env0.make C us []) (hb _ (Value.ref (hp.objs.size + 1) :: us) I2.kIn ll) r2 hq
  refine wpAny_call (PySem.HandSPX.call_own F.excBase_ValueError (fun Y => PySem.HandSPX.refsVE_contains Y bm hbm) (I1.kIn _ _ hC) (PySem.W.looks_findIn I1.kIn iC) (fun self => PySem.W.bind_fn I1.kIn self tI) lus (codeAny_mono go fun r s' hq' => ?_))
  match r, hq' with
  | .ok (.ret u), hq' =>
    obtain ⟨v, H2, os2, bare2, un2, hok2, rv, rfl, d, fs, ea, ed, hd1, q2⟩ := hq'
    obtain ⟨h2, g2, d2, t2, os'⟩ := s'
    obtain ⟨t0, G, J, kG, ge, hoe, na⟩ := mk_end0 (d2 := d2) (t2 := t2) I1 le keep un2 hok2 os2 bare2 ea ed hd1
    refine ⟨rv, hp.objs.size + 1, _, _, ⟨G, g2, d2, t2, os'⟩, _, .ref C, some d, rfl, J, kG, ge, hoe, ⟨rfl, rfl, fun zs hz => ?_⟩, rfl, rfl, na, rfl, bare2, raises_own T.exC T.tyC, q2⟩
    cases hz
    rfl
  | .ok .next, hq' => exact False.elim hq'
  | .ok .brk, hq' => exact False.elim hq'
  | .ok .cont, hq' => exact False.elim hq'
  | .error e, hq' => exact False.elim hq'
end Gk
namespace Lw
open PySem L2 Gk
/-- Mask.__init__: as spInit, or the first value that is no path raises BadMask with it -/
def spInitX (K : PySem.W.Frag) (C CB : Addr) : Sp := fun vs H Q E => spInit K C vs H Q E ∨ ∃ (x dx a : Addr) (xs : List V) (i : Nat) (v : V) (ps : List Pth), vs = [.ref x, .ref a] ∧ H x = some (.ins C dx []) ∧ (SqL K H a xs ∨ SqT K H a xs) ∧ xs[i]? = some v ∧ Ps H (xs.take i) ps ∧ (∀ p ∈ ps, OkP p ∧ p ≠ []) ∧ OddV K H v ∧
  ∀ H2 d, Kp T0 H H2 → H2 d = some (.xd [("value", v)]) → E (.ref CB) (some d) H2
theorem row_odd {K : PySem.W.Frag} {H : Hp} {v : V} {Q : VK} {E : XK} (o : OddV K H v) (k : ∀ H2, Kp T0 H H2 → Q (.bl false) H2) : spIsRow K [v] H Q E := by
  rcases o with ⟨a, xs, rs, ds, e, ha, hp, hd, c, l, b⟩ | o
  · exact ⟨v, false, rfl, .inl ⟨a, xs, rs, ds, e, ha, hp, hd, c, l, b⟩, k⟩
  · exact ⟨v, false, rfl, .inr ⟨o, rfl⟩, k⟩
theorem kp_raise {H3 : Hp} {a d C : Addr} {fs : List (Str × V)} {o1 o2 o3 : HO} (ha : H3 a = none) (hd : upd H3 a o1 d = none) (ne : d ≠ a) : Kp T0 H3 (upd (del (upd (upd (upd H3 a o1) d o2) a o3) a) d (.xd fs)) := by
  intro b o _ e
  have ba : b ≠ a := ne_of_none e ha
  have hd1 : H3 d = none := by rw [upd_ne ne] at hd; exact hd
  have bd : b ≠ d := ne_of_none e hd1
  rw [upd_ne bd, del_ne ba, upd_ne ba, upd_ne bd, upd_ne ba]
  exact e
section
variable {P : Program} {w : World} {K : PySem.W.Frag} {mg : Str → Option Value} {base : Heap} {C CB : Addr}
theorem ok_initX {f fR fF : Addr} {fd : FuncData} {dvs : List V} (F : FunD K "__init__" "Mask.__init__" (defArgs sInit) (defBody sInit) (defScope sInit) dvs [] f fd) (T : TxtM K mg C) (TX : ErC P w K mg base 1 "BadMask" CB "value" "value")
    (DR : Df P w K mg base 3 fR "is_row" ["value"] (spIsRow K)) (DF : Df P w K mg base 2 fF "fewest" ["paths"] (spFewest K)) : FnOk P w K mg base (L2N.CX P w) 4 f fd ["self", "paths"] (spInitX K C CB) := by
  refine F.ok scInit (fun vs H Q E h => ?_) (fun cdv A outer s H vs Q E hr h => ?_)
  · obtain ⟨x, dx, a, xs, ps, rfl, _⟩ | ⟨x, dx, a, xs, i, v, ps, rfl, _⟩ := h
    · rfl
    · rfl
  · obtain ⟨fI, fd2, iC, tI, F1, hb1, hb2⟩ := TX.ex
    have hbd : Binds K fd2 ["self", "value"] [] := fun s us _ hl => by
      match us, hl with
      | [u, v], _ => exact hb1 s u v
    refine ⟨_, pss_cons (ps_for (passes_of rfl) rfl (pi_or (pi_list (pv 1)) (pi_tup (pv 1))) (pg_name (i := 2) scInit.nd rfl (Or.inl rfl))
        (pss_one (ps_if (pt_not (pt_val (pe_df DR hr (by rfl) (pa_cons (pv 2) pa_nil)))) (pss_one (L2N.ps_raise rfl (L2N.takes_of rfl rfl rfl rfl) (pmk_oexN TX.T iC tI F1 (hr.mono (by decide)) hbd (by rfl) TX.gl (pa_cons (pv 2) pa_nil)))) pss_nil)))
      (pss_one (ps_fld (pv 0) (pe_callTy call_tuple_of (by rfl) T.z_tuple boot_tuple (pa_cons (pe_df DF (hr.mono (by decide)) (by rfl) (pa_cons (pv 1) pa_nil)) pa_nil)) rfl)), ?_⟩
    obtain ⟨x, dx, a, xs, ps, rfl, hx, hsq, lx, k⟩ | ⟨x, dx, a, xs, i0, v0, ps, rfl, hx, hsq, h0, hp0, ok0, odd, k⟩ := h
    · have mm : xs.length < sizeLine := Nat.lt_of_le_of_lt lx most_line
      refine for_seq (T := T0) rfl hsq.1 id (fun _ st H2 => Kp T0 H H2 ∧ ∃ o : Option V, st = [some (.ref x), some (.ref a), o]) ⟨Kp.refl H, none, rfl⟩ (fun _ _ _ p => p.1) (fun i v st H2 hi p => ?_) (fun st H2 p => ?_)
      · obtain ⟨k2, o, rfl⟩ := p
        obtain ⟨p, hp, ip⟩ := Ps.get hsq.2.1 hi
        obtain ⟨o1, o2⟩ := hsq.2.2 p (List.mem_of_getElem? hp)
        refine ⟨_, rfl, ?_⟩
        dsimp only [tNil]
        refine row_of (ip.keep0 k2) o1 o2 fun H3 k3 => ⟨true, rfl, ?_⟩
        exact iteF ⟨k2.trans k3, some v, rfl⟩
      · obtain ⟨k2, o, rfl⟩ := p
        refine ⟨_, rfl, a, xs, ps, rfl, hsq.keep0 k2, mm, fun H3 l ys qs k3 hl dl hys ly c => ?_⟩
        refine ⟨l, ys, rfl, .inl ⟨SqL.of dl, fun r hr0 => ?_⟩⟩
        have k4 : Kp T0 H (upd H3 r (.tup ys)) := (k2.trans k3).new hr0
        refine ⟨_, rfl, x, C, dx, [], rfl, k4.at0 hx, T.cl, T.nR, (by show 0 < 1000; decide), ?_⟩
        rw [putF_nil]
        have nrx : r ≠ x := fun z => by
          have q := (k2.trans k3).at0 hx
          rw [← z, hr0] at q
          cases q
        refine k _ qs (k4.wide.put rfl) ⟨x, dx, r, ys, rfl, upd_same, ?_, ?_, by omega, fun q hq => hsq.2.2 q (c.sub hq), ps, c⟩ ?_ c
        · rw [upd_ne nrx, upd_same]
        · refine hys.keep (T := fun b => b = x) ((Kp.refl H3).new hr0 |>.put rfl) fun b o e q z => ?_
          subst e
          rw [(k2.trans k3).at0 hx] at q
          cases q
          exact fun e => nomatch e
        · rw [← Paired.length hys]
          exact ly
    · refine for_seq (T := T0) rfl hsq id (fun j st H2 => Kp T0 H H2 ∧ j ≤ i0 ∧ ∃ o : Option V, st = [some (.ref x), some (.ref a), o]) ⟨Kp.refl H, Nat.zero_le _, none, rfl⟩ (fun _ _ _ p => p.1) (fun i v st H2 hi p => ?_) (fun st H2 p => ?_)
      · obtain ⟨k2, le, o, rfl⟩ := p
        refine ⟨_, rfl, ?_⟩
        dsimp only [tNil]
        by_cases c : i = i0
        · subst c
          rw [h0] at hi
          obtain rfl := Option.some.inj hi
          refine row_odd (odd.keep0 k2) fun H3 k3 => ⟨false, rfl, ?_⟩
          refine iteT ?_
          refine ⟨_, rfl, (by show 1 ≤ 1000; decide), fun b hb => ?_⟩
          refine ⟨b, v0, rfl, upd_same, fun d hd ne => ⟨rfl, d, [("value", v0)], upd_same, by rw [upd_ne ne]; exact upd_same, by rw [upd_ne ne] at hd; exact hd, ?_⟩⟩
          exact k _ d ((k2.trans k3).trans (kp_raise (C := CB) hb hd ne)) upd_same
        · have lt : i < i0 := by omega
          have hi2 : (xs.take i0)[i]? = some v := by rw [List.getElem?_take_of_lt lt]; exact hi
          obtain ⟨p, hp, ip⟩ := Ps.get hp0 hi2
          obtain ⟨o1, o2⟩ := ok0 p (List.mem_of_getElem? hp)
          refine row_of (ip.keep0 k2) o1 o2 fun H3 k3 => ⟨true, rfl, ?_⟩
          exact iteF ⟨k2.trans k3, by omega, some v, rfl⟩
      · obtain ⟨k2, le, o, rfl⟩ := p
        have := (List.getElem?_eq_some_iff.mp h0).1
        omega
end
end Lw
namespace Lw
open PySem L2 Gk
theorem takes0N {X : Cx} : L2N.Takes X (fun _ _ _ _ => False) := fun _ _ x => by
  obtain ⟨_, _, _, _, _, _, _, _, _, _, _, _, _, _, _, _, z⟩ := x
  exact False.elim z
abbrev sCaught : Stmt := topS 25
/-- the first value that is no path, in a new list -/
def spCaught (K : PySem.W.Frag) : Sp := fun vs H Q _ => ∃ (a : Addr) (xs : List V) (i : Nat) (v : V) (ps : List Pth), vs = [.ref a] ∧ (SqL K H a xs ∨ SqT K H a xs) ∧ xs[i]? = some v ∧ Ps H (xs.take i) ps ∧ (∀ p ∈ ps, OkP p ∧ p ≠ []) ∧ OddV K H v ∧
  ∀ H2 l, Kp T0 H H2 → H l = none → H2 l = some (.lst [v]) → Q (.ref l) H2
/-- Mask's own __init__, that may raise -/
def MkX (P : Program) (w : World) (K : PySem.W.Frag) (mg : Str → Option Value) (base : Heap) (C CB : Addr) : Prop := ∃ (f : Addr) (fd : FuncData), Mk K C f ∧ FnOk P w K mg base (L2N.CX P w) 4 f fd ["self", "paths"] (spInitX K C CB) ∧ Binds K fd ["self", "paths"] []
section
variable {P : Program} {w : World} {K : PySem.W.Frag} {mg : Str → Option Value} {base : Heap} {C CB : Addr}
theorem scCt : FnScope ["paths", "error"] ["paths"] (defScope sCaught) := ⟨rfl, rfl, rfl, by decide +kernel, rfl, by decide +kernel, by decide +kernel⟩
theorem ok_caught {f : Addr} {fd : FuncData} (F : Fun K "_law_caught" "_law_caught" sCaught f fd) (T : TxtM K mg C) (gB : mg "BadMask" = some (.ref CB)) (xf : XfC K CB) (no : PySem.W.findIn K (.ref CB) "value" = some none) (ex1 : PySem.W.exmOne K (.ref CB) (.ref CB) = some true) (M : MkX P w K mg base C CB) :
    FnOk P w K mg base CX0 6 f fd ["paths"] (spCaught K) := by
  refine F.ok scCt (fun vs H Q E h => ?_) (fun cdv A outer s H vs Q E hr h => ?_)
  · obtain ⟨a, xs, i, v, ps, rfl, _⟩ := h
    rfl
  · obtain ⟨a, xs, i, v, ps, rfl, hsq, hi, hp, ok, odd, k⟩ := h
    obtain ⟨fM, fdM, mkM, FM, bM⟩ := M
    have hz : (16777216 : Nat) = PySem.sizeLine := PySem.sizeLine_eq.symm
    refine ⟨_, pss_cons (L2N.ps_try_as rfl rfl scCt.nd (i := 1) rfl rfl (⟨by rfl, by decide, .inl gB⟩ : Names _ "BadMask" (.ref CB)) takes0N
        (fun W pn xe tk ps => pss_one (ps_expr (pe_makeS mkM FM hr (by rfl) T.mgC bM (fun σ => L2N.passAt tk σ) (pa_cons (pv 0) pa_nil))))
        (fun a oe cls d pn hz hf => pss_one (ps_ret (pe_lst (pa_cons (pe_xf xf no hz.zc hf (pv 1)) pa_nil)))))
      (pss_one (ps_ret (pe_lst pa_nil))), ?_⟩
    refine ⟨_, rfl, fun x dx hx hdx ne => ?_⟩
    have g1 := (Kp.refl (T := T0) H).new (o := .own x) hdx
    have nx : (upd H dx (.own x)) x = none := by rw [upd_ne (fun z => ne z.symm)]; exact hx
    have g2 := g1.new (o := .ins C dx []) nx
    refine .inr ⟨x, dx, a, xs, i, v, ps, rfl, upd_same, ?_, hi, hp.keep0 g2, ok, odd.keep0 g2, fun H2 d k2 hd => ?_⟩
    · rcases hsq with h | h
      · exact .inl (sqL_at h g2 id)
      · exact .inr (sqT_at h g2 id)
    refine ⟨true, ex1, fun _ a2 ha2 => ?_, fun z => nomatch z⟩
    refine ⟨_, rfl, rfl, rfl, d, _, v, rfl, hd, rfl, (by show 1 ≤ sizeLine; omega), fun l hl => ?_⟩
    have kk := g2.trans k2
    exact k _ l (kk.new hl) (kk.free hl) upd_same
end
end Lw
namespace Lw
open PySem L2 Gk
abbrev sOdd : Stmt := topS 24
/-- data of which many can be told at once -/
structure Small (d : PyData) : Prop where
  sw : d.showable = true
  dd : d.depth ≤ 8
  sz : d.shown.length ≤ 200
/-- a drawn value, apart from T -/
def Th (T : Addr → Prop) (H : Hp) (v : V) : Prop := ∃ d, Dd T H v d ∧ Small d ∧ ∀ x, v = .str x → x.length ≤ 1000
theorem Th.keep {T : Addr → Prop} {H H2 : Hp} {v : V} (h : Th T H v) (k : Kp T H H2) : Th T H2 v := by
  obtain ⟨d, a, b, c⟩ := h
  exact ⟨d, a.keep k, b, c⟩
def spOdd (K : PySem.W.Frag) : Sp := fun vs H Q _ => ∃ t, vs = [.ref t] ∧ TapeAt H t ∧ ∀ H2 v, Kp (At t) H H2 → TapeAt H2 t → (∀ H3, Kp (At t) H2 H3 → OddV K H3 v ∧ Th (At t) H3 v) → Q v H2
section
variable {P : Program} {w : World} {K : PySem.W.Frag} {mg : Str → Option Value} {base : Heap}
theorem scOdd : FnScope ["tape", "some"] ["tape"] (defScope sOdd) := ⟨rfl, rfl, rfl, by decide +kernel, rfl, by decide +kernel, by decide +kernel⟩
theorem ok_odd {f fC : Addr} {fd : FuncData} (F : Fun K "_law_odd" "_law_odd" sOdd f fd) (DC : Df P w K mg base 2 fC "_law_one_of" ["tape", "items"] (spOneOf K)) : FnOk P w K mg base CX0 3 f fd ["tape"] (spOdd K) := by
  refine F.ok scOdd (fun vs H Q E h => ?_) (fun cdv A outer s H vs Q E hr h => ?_)
  · obtain ⟨t, rfl, _⟩ := h
    rfl
  · obtain ⟨t, rfl, ta, k⟩ := h
    have hz : (16777216 : Nat) = PySem.sizeLine := PySem.sizeLine_eq.symm
    refine ⟨_, pss_cons (ps_set (i := 1) scOdd.nd rfl (Or.inl rfl) (pe_lst (pa_cons (pe_tup pa_nil) (pa_cons (pe_lst pa_nil) (pa_cons (pe_lst (pa_cons pe_str pa_nil)) (pa_cons pe_str (pa_cons pe_non (pa_cons pe_int (pa_cons (pe_tup (pa_cons pe_str (pa_cons pe_str pa_nil))) (pa_cons (pe_tup (pa_cons pe_str pa_nil)) (pa_cons (pe_tup (pa_cons pe_str (pa_cons pe_int pa_nil))) (pa_cons (pe_tup (pa_cons pe_str pa_nil)) pa_nil))))))))))))
      (pss_one (ps_ret (pe_df DC hr (by rfl) (pa_cons (pv 0) (pa_cons (pe_op op_cat (pv 1) (pe_lst (pa_cons (pe_tup (pa_cons (pe_tup (pa_cons pe_str pa_nil)) pa_nil)) (pa_cons pe_dnewK (pa_cons pe_bl (pa_cons (pe_tup (pa_cons pe_str pa_nil)) (pa_cons (pe_tup (pa_cons pe_str (pa_cons pe_non pa_nil))) (pa_cons (pe_tup (pa_cons pe_str pa_nil)) pa_nil)))))))) pa_nil))))), ?_⟩
    have t0 : TapeAt H t := ta
    refine ⟨Nat.zero_le _, fun q1 h1 => ?_⟩
    have n1 : q1 ≠ t := tape_fresh t0 h1
    have g1 := (Kp.refl (T := T0) H).new (o := .tup []) h1
    have e1 : (upd H q1 (.tup [])) q1 = some (.tup []) := upd_same
    have t1 := t0.keep g1
    generalize upd H q1 (.tup []) = G1 at g1 e1 t1 ⊢
    refine ⟨Nat.zero_le _, fun q2 h2 => ?_⟩
    have n2 : q2 ≠ t := tape_fresh t1 h2
    have g2 := (Kp.refl (T := T0) G1).new (o := .lst []) h2
    have e2 : (upd G1 q2 (.lst [])) q2 = some (.lst []) := upd_same
    have t2 := t1.keep g2
    generalize upd G1 q2 (.lst []) = G2 at g2 e2 t2 ⊢
    refine ⟨(by show 1 ≤ sizeLine; omega), fun q3 h3 => ?_⟩
    have n3 : q3 ≠ t := tape_fresh t2 h3
    have g3 := (Kp.refl (T := T0) G2).new (o := .lst [.str "a"]) h3
    have e3 : (upd G2 q3 (.lst [.str "a"])) q3 = some (.lst [.str "a"]) := upd_same
    have t3 := t2.keep g3
    generalize upd G2 q3 (.lst [.str "a"]) = G3 at g3 e3 t3 ⊢
    refine ⟨(by show 2 ≤ sizeLine; omega), fun q4 h4 => ?_⟩
    have n4 : q4 ≠ t := tape_fresh t3 h4
    have g4 := (Kp.refl (T := T0) G3).new (o := .tup [.str "a", .str ""]) h4
    have e4 : (upd G3 q4 (.tup [.str "a", .str ""])) q4 = some (.tup [.str "a", .str ""]) := upd_same
    have t4 := t3.keep g4
    generalize upd G3 q4 (.tup [.str "a", .str ""]) = G4 at g4 e4 t4 ⊢
    refine ⟨(by show 1 ≤ sizeLine; omega), fun q5 h5 => ?_⟩
    have n5 : q5 ≠ t := tape_fresh t4 h5
    have g5 := (Kp.refl (T := T0) G4).new (o := .tup [.str "A"]) h5
    have e5 : (upd G4 q5 (.tup [.str "A"])) q5 = some (.tup [.str "A"]) := upd_same
    have t5 := t4.keep g5
    generalize upd G4 q5 (.tup [.str "A"]) = G5 at g5 e5 t5 ⊢
    refine ⟨(by show 2 ≤ sizeLine; omega), fun q6 h6 => ?_⟩
    have n6 : q6 ≠ t := tape_fresh t5 h6
    have g6 := (Kp.refl (T := T0) G5).new (o := .tup [.str "a", .int 5]) h6
    have e6 : (upd G5 q6 (.tup [.str "a", .int 5])) q6 = some (.tup [.str "a", .int 5]) := upd_same
    have t6 := t5.keep g6
    generalize upd G5 q6 (.tup [.str "a", .int 5]) = G6 at g6 e6 t6 ⊢
    refine ⟨(by show 1 ≤ sizeLine; omega), fun q7 h7 => ?_⟩
    have n7 : q7 ≠ t := tape_fresh t6 h7
    have g7 := (Kp.refl (T := T0) G6).new (o := .tup [.str "abcdefghi"]) h7
    have e7 : (upd G6 q7 (.tup [.str "abcdefghi"])) q7 = some (.tup [.str "abcdefghi"]) := upd_same
    have t7 := t6.keep g7
    generalize upd G6 q7 (.tup [.str "abcdefghi"]) = G7 at g7 e7 t7 ⊢
    refine ⟨(by show 10 ≤ sizeLine; omega), fun b1 hb1 => ?_⟩
    have gb1 := (Kp.refl (T := T0) G7).new (o := .lst [.ref q1, .ref q2, .ref q3, .str "a", .non, .int 5, .ref q4, .ref q5, .ref q6, .ref q7]) hb1
    have eb1 : (upd G7 b1 (.lst [.ref q1, .ref q2, .ref q3, .str "a", .non, .int 5, .ref q4, .ref q5, .ref q6, .ref q7])) b1 = some (.lst [.ref q1, .ref q2, .ref q3, .str "a", .non, .int 5, .ref q4, .ref q5, .ref q6, .ref q7]) := upd_same
    have tb1 := t7.keep gb1
    generalize upd G7 b1 (.lst [.ref q1, .ref q2, .ref q3, .str "a", .non, .int 5, .ref q4, .ref q5, .ref q6, .ref q7]) = B1 at gb1 eb1 tb1 ⊢
    refine ⟨_, rfl, _, rfl, ?_⟩
    refine ⟨(by show 1 ≤ sizeLine; omega), fun q8 h8 => ?_⟩
    have n8 : q8 ≠ t := tape_fresh tb1 h8
    have g8 := (Kp.refl (T := T0) B1).new (o := .tup [.str "a"]) h8
    have e8 : (upd B1 q8 (.tup [.str "a"])) q8 = some (.tup [.str "a"]) := upd_same
    have t8 := tb1.keep g8
    generalize upd B1 q8 (.tup [.str "a"]) = G8 at g8 e8 t8 ⊢
    refine ⟨(by show 1 ≤ sizeLine; omega), fun q9 h9 => ?_⟩
    have n9 : q9 ≠ t := tape_fresh t8 h9
    have g9 := (Kp.refl (T := T0) G8).new (o := .tup [.ref q8]) h9
    have e9 : (upd G8 q9 (.tup [.ref q8])) q9 = some (.tup [.ref q8]) := upd_same
    have t9 := t8.keep g9
    generalize upd G8 q9 (.tup [.ref q8]) = G9 at g9 e9 t9 ⊢
    refine fun q10 h10 => ?_
    have n10 : q10 ≠ t := tape_fresh t9 h10
    have g10 := (Kp.refl (T := T0) G9).new (o := .dK []) h10
    have e10 : (upd G9 q10 (.dK [])) q10 = some (.dK []) := upd_same
    have t10 := t9.keep g10
    generalize upd G9 q10 (.dK []) = G10 at g10 e10 t10 ⊢
    refine ⟨(by show 1 ≤ sizeLine; omega), fun q11 h11 => ?_⟩
    have n11 : q11 ≠ t := tape_fresh t10 h11
    have g11 := (Kp.refl (T := T0) G10).new (o := .tup [.str "a b"]) h11
    have e11 : (upd G10 q11 (.tup [.str "a b"])) q11 = some (.tup [.str "a b"]) := upd_same
    have t11 := t10.keep g11
    generalize upd G10 q11 (.tup [.str "a b"]) = G11 at g11 e11 t11 ⊢
    refine ⟨(by show 2 ≤ sizeLine; omega), fun q12 h12 => ?_⟩
    have n12 : q12 ≠ t := tape_fresh t11 h12
    have g12 := (Kp.refl (T := T0) G11).new (o := .tup [.str "a", .non]) h12
    have e12 : (upd G11 q12 (.tup [.str "a", .non])) q12 = some (.tup [.str "a", .non]) := upd_same
    have t12 := t11.keep g12
    generalize upd G11 q12 (.tup [.str "a", .non]) = G12 at g12 e12 t12 ⊢
    refine ⟨(by show 1 ≤ sizeLine; omega), fun q13 h13 => ?_⟩
    have n13 : q13 ≠ t := tape_fresh t12 h13
    have g13 := (Kp.refl (T := T0) G12).new (o := .tup [.str "1"]) h13
    have e13 : (upd G12 q13 (.tup [.str "1"])) q13 = some (.tup [.str "1"]) := upd_same
    have t13 := t12.keep g13
    generalize upd G12 q13 (.tup [.str "1"]) = G13 at g13 e13 t13 ⊢
    refine ⟨(by show 6 ≤ sizeLine; omega), fun b2 hb2 => ?_⟩
    have gb2 := (Kp.refl (T := T0) G13).new (o := .lst [.ref q9, .ref q10, .bl true, .ref q11, .ref q12, .ref q13]) hb2
    have f13 := gb2
    have f12 := g13.trans f13
    have f11 := g12.trans f12
    have f10 := g11.trans f11
    have f9 := g10.trans f10
    have f8 := g9.trans f9
    have fb1 := g8.trans f8
    have f7 := gb1.trans fb1
    have f6 := g7.trans f7
    have f5 := g6.trans f6
    have f4 := g5.trans f5
    have f3 := g4.trans f4
    have f2 := g3.trans f3
    have f1 := g2.trans f2
    have f0 := g1.trans f1
    refine ⟨b1, b2, [.ref q1, .ref q2, .ref q3, .str "a", .non, .int 5, .ref q4, .ref q5, .ref q6, .ref q7], [.ref q9, .ref q10, .bl true, .ref q11, .ref q12, .ref q13], rfl, rfl, fb1.at0 eb1, upd_same, (by show 10 + 6 ≤ sizeLine; omega), fun p hp => ?_⟩
    have gp := (Kp.refl (T := T0) (upd G13 b2 (.lst [.ref q9, .ref q10, .bl true, .ref q11, .ref q12, .ref q13]))).new (o := .lst ([.ref q1, .ref q2, .ref q3, .str "a", .non, .int 5, .ref q4, .ref q5, .ref q6, .ref q7] ++ [.ref q9, .ref q10, .bl true, .ref q11, .ref q12, .ref q13])) hp
    have tp := ((t13.keep gb2).keep gp)
    refine ⟨t, p, [.ref q1, .ref q2, .ref q3, .str "a", .non, .int 5, .ref q4, .ref q5, .ref q6, .ref q7] ++ [.ref q9, .ref q10, .bl true, .ref q11, .ref q12, .ref q13], rfl, tp, SqL.of upd_same, (by show 1 ≤ 10 + 6; decide), (by show 10 + 6 ≤ 1048576; decide), fun H3 x k3 ta3 mx => ?_⟩
    have no : ∀ {v : V}, (∀ x : Str, v ≠ .str x) → ∀ x, v = .str x → x.length ≤ 1000 := fun h x e => absurd e (h x)
    refine k H3 x ((f0.trans gp).wide.trans k3) ta3 fun H4 k4 => ?_
    replace e1 : H4 q1 = some _ := k4 q1 _ n1 (k3 q1 _ n1 (gp.at0 (f1.at0 e1)))
    replace e2 : H4 q2 = some _ := k4 q2 _ n2 (k3 q2 _ n2 (gp.at0 (f2.at0 e2)))
    replace e3 : H4 q3 = some _ := k4 q3 _ n3 (k3 q3 _ n3 (gp.at0 (f3.at0 e3)))
    replace e4 : H4 q4 = some _ := k4 q4 _ n4 (k3 q4 _ n4 (gp.at0 (f4.at0 e4)))
    replace e5 : H4 q5 = some _ := k4 q5 _ n5 (k3 q5 _ n5 (gp.at0 (f5.at0 e5)))
    replace e6 : H4 q6 = some _ := k4 q6 _ n6 (k3 q6 _ n6 (gp.at0 (f6.at0 e6)))
    replace e7 : H4 q7 = some _ := k4 q7 _ n7 (k3 q7 _ n7 (gp.at0 (f7.at0 e7)))
    replace e8 : H4 q8 = some _ := k4 q8 _ n8 (k3 q8 _ n8 (gp.at0 (f8.at0 e8)))
    replace e9 : H4 q9 = some _ := k4 q9 _ n9 (k3 q9 _ n9 (gp.at0 (f9.at0 e9)))
    replace e10 : H4 q10 = some _ := k4 q10 _ n10 (k3 q10 _ n10 (gp.at0 (f10.at0 e10)))
    replace e11 : H4 q11 = some _ := k4 q11 _ n11 (k3 q11 _ n11 (gp.at0 (f11.at0 e11)))
    replace e12 : H4 q12 = some _ := k4 q12 _ n12 (k3 q12 _ n12 (gp.at0 (f12.at0 e12)))
    replace e13 : H4 q13 = some _ := k4 q13 _ n13 (k3 q13 _ n13 (gp.at0 (f13.at0 e13)))
    have w : ∀ (q : Addr) (z : HO), q ≠ t → H4 q = some z → H4 q = some z := fun _ _ _ h => h
    simp only [List.cons_append, List.nil_append, List.mem_cons, List.not_mem_nil, or_false] at mx
    rcases mx with rfl | rfl | rfl | rfl | rfl | rfl | rfl | rfl | rfl | rfl | rfl | rfl | rfl | rfl | rfl | rfl
    · exact ⟨.inl ⟨q1, [], [], [], rfl, w _ _ n1 e1, .nil, .nil, by decide +kernel, (by show 0 < sizeLine; omega), rfl⟩, ⟨.tuple [], .tup n1 (w _ _ n1 e1) (.nil), ⟨by decide +kernel, by decide +kernel, by decide +kernel⟩, no fun x e => nomatch e⟩⟩
    · exact ⟨.inr ⟨.type "list", .base (.lst (w _ _ n2 e2)), kit_ty (by decide +kernel)⟩, ⟨.list [], .lst n2 (w _ _ n2 e2) (.nil), ⟨by decide +kernel, by decide +kernel, by decide +kernel⟩, no fun x e => nomatch e⟩⟩
    · exact ⟨.inr ⟨.type "list", .base (.lst (w _ _ n3 e3)), kit_ty (by decide +kernel)⟩, ⟨.list [.str "a"], .lst n3 (w _ _ n3 e3) (.cons (.sc (.str _)) (.nil)), ⟨by decide +kernel, by decide +kernel, by decide +kernel⟩, no fun x e => nomatch e⟩⟩
    · exact ⟨.inr ⟨.type "str", .base (.str _), kit_ty (by decide +kernel)⟩, ⟨_, .sc (.str _), ⟨by decide +kernel, by decide +kernel, by decide +kernel⟩, fun x e => by injection e with e; rw [← e]; decide⟩⟩
    · exact ⟨.inr ⟨.type "NoneType", .base .non, kit_ty (by decide +kernel)⟩, ⟨_, .sc .non, ⟨by decide +kernel, by decide +kernel, by decide +kernel⟩, no fun x e => nomatch e⟩⟩
    · exact ⟨.inr ⟨.type "int", .base (.int 5), kit_ty (by decide +kernel)⟩, ⟨_, .sc (.int _), ⟨by decide +kernel, by decide +kernel, by decide +kernel⟩, no fun x e => nomatch e⟩⟩
    · exact ⟨.inl ⟨q4, [.str "a", .str ""], [true, false], [.str "a", .str ""], rfl, w _ _ n4 e4, .cons (.inl ⟨"a", rfl, (by show 1 < sizeLine; omega), by decide +kernel⟩) (.cons (.inl ⟨"", rfl, (by show 0 < sizeLine; omega), by decide +kernel⟩) (.nil)), .cons (.str _) (.cons (.str _) (.nil)), by decide +kernel, (by show 2 < sizeLine; omega), rfl⟩, ⟨.tuple [.str "a", .str ""], .tup n4 (w _ _ n4 e4) (.cons (.sc (.str _)) (.cons (.sc (.str _)) (.nil))), ⟨by decide +kernel, by decide +kernel, by decide +kernel⟩, no fun x e => nomatch e⟩⟩
    · exact ⟨.inl ⟨q5, [.str "A"], [false], [.str "A"], rfl, w _ _ n5 e5, .cons (.inl ⟨"A", rfl, (by show 1 < sizeLine; omega), by decide +kernel⟩) (.nil), .cons (.str _) (.nil), by decide +kernel, (by show 1 < sizeLine; omega), rfl⟩, ⟨.tuple [.str "A"], .tup n5 (w _ _ n5 e5) (.cons (.sc (.str _)) (.nil)), ⟨by decide +kernel, by decide +kernel, by decide +kernel⟩, no fun x e => nomatch e⟩⟩
    · exact ⟨.inl ⟨q6, [.str "a", .int 5], [true, false], [.str "a", .int 5], rfl, w _ _ n6 e6, .cons (.inl ⟨"a", rfl, (by show 1 < sizeLine; omega), by decide +kernel⟩) (.cons (.inr ⟨⟨.type "int", .base (.int 5), kit_ty (by decide +kernel)⟩, rfl⟩) (.nil)), .cons (.str _) (.cons (.int _) (.nil)), by decide +kernel, (by show 2 < sizeLine; omega), rfl⟩, ⟨.tuple [.str "a", .int 5], .tup n6 (w _ _ n6 e6) (.cons (.sc (.str _)) (.cons (.sc (.int _)) (.nil))), ⟨by decide +kernel, by decide +kernel, by decide +kernel⟩, no fun x e => nomatch e⟩⟩
    · exact ⟨.inl ⟨q7, [.str "abcdefghi"], [false], [.str "abcdefghi"], rfl, w _ _ n7 e7, .cons (.inl ⟨"abcdefghi", rfl, (by show 9 < sizeLine; omega), by decide +kernel⟩) (.nil), .cons (.str _) (.nil), by decide +kernel, (by show 1 < sizeLine; omega), rfl⟩, ⟨.tuple [.str "abcdefghi"], .tup n7 (w _ _ n7 e7) (.cons (.sc (.str _)) (.nil)), ⟨by decide +kernel, by decide +kernel, by decide +kernel⟩, no fun x e => nomatch e⟩⟩
    · exact ⟨.inl ⟨q9, [.ref q8], [false], [.tuple [.str "a"]], rfl, w _ _ n9 e9, .cons (.inr ⟨⟨.type "tuple", .base (.tup (w _ _ n8 e8)), kit_ty (by decide +kernel)⟩, rfl⟩) .nil, .cons (.tup (SqT.of (w _ _ n8 e8)) (.cons (.str _) (.nil))) .nil, by decide +kernel, (by show 1 < sizeLine; omega), rfl⟩, ⟨.tuple [.tuple [.str "a"]], .tup n9 (w _ _ n9 e9) (.cons (.tup n8 (w _ _ n8 e8) (.cons (.sc (.str _)) (.nil))) .nil), ⟨by decide +kernel, by decide +kernel, by decide +kernel⟩, no fun x e => nomatch e⟩⟩
    · exact ⟨.inr ⟨.type "dict", .base (.dK (w _ _ n10 e10)), kit_ty (by decide +kernel)⟩, ⟨_, .dict n10 (w _ _ n10 e10) .nil, ⟨by decide +kernel, by decide +kernel, by decide +kernel⟩, no fun x e => nomatch e⟩⟩
    · exact ⟨.inr ⟨.type "bool", .base (.bl _), kit_ty (by decide +kernel)⟩, ⟨_, .sc (.bl _), ⟨by decide +kernel, by decide +kernel, by decide +kernel⟩, no fun x e => nomatch e⟩⟩
    · exact ⟨.inl ⟨q11, [.str "a b"], [false], [.str "a b"], rfl, w _ _ n11 e11, .cons (.inl ⟨"a b", rfl, (by show 3 < sizeLine; omega), by decide +kernel⟩) (.nil), .cons (.str _) (.nil), by decide +kernel, (by show 1 < sizeLine; omega), rfl⟩, ⟨.tuple [.str "a b"], .tup n11 (w _ _ n11 e11) (.cons (.sc (.str _)) (.nil)), ⟨by decide +kernel, by decide +kernel, by decide +kernel⟩, no fun x e => nomatch e⟩⟩
    · exact ⟨.inl ⟨q12, [.str "a", .non], [true, false], [.str "a", .none], rfl, w _ _ n12 e12, .cons (.inl ⟨"a", rfl, (by show 1 < sizeLine; omega), by decide +kernel⟩) (.cons (.inr ⟨⟨.type "NoneType", .base .non, kit_ty (by decide +kernel)⟩, rfl⟩) (.nil)), .cons (.str _) (.cons (.non) (.nil)), by decide +kernel, (by show 2 < sizeLine; omega), rfl⟩, ⟨.tuple [.str "a", .none], .tup n12 (w _ _ n12 e12) (.cons (.sc (.str _)) (.cons (.sc .non) (.nil))), ⟨by decide +kernel, by decide +kernel, by decide +kernel⟩, no fun x e => nomatch e⟩⟩
    · exact ⟨.inl ⟨q13, [.str "1"], [false], [.str "1"], rfl, w _ _ n13 e13, .cons (.inl ⟨"1", rfl, (by show 1 < sizeLine; omega), by decide +kernel⟩) (.nil), .cons (.str _) (.nil), by decide +kernel, (by show 1 < sizeLine; omega), rfl⟩, ⟨.tuple [.str "1"], .tup n13 (w _ _ n13 e13) (.cons (.sc (.str _)) (.nil)), ⟨by decide +kernel, by decide +kernel, by decide +kernel⟩, no fun x e => nomatch e⟩⟩
end
end Lw
namespace Lw
open PySem PySem.Spec PyProof.Rows L2 L2H Gk
abbrev sLaw : Stmt := topS 26
structure TxtL (mg : Str → Option Value) : Prop where
  z_len : mg "len" = none
  z_max : mg "max" = none
  z_min : mg "min" = none
  z_range : mg "range" = none
  z_repr : mg "repr" = none
  z_list : mg "list" = none
theorem boot_max : bootBuiltins "max" = some (.builtin "max") := by decide +kernel
theorem boot_min : bootBuiltins "min" = some (.builtin "min") := by decide +kernel
theorem boot_repr : bootBuiltins "repr" = some (.builtin "repr") := by decide +kernel
theorem rd_few {K : PySem.W.Frag} {H : Hp} {a : Addr} {ys : List V} {ps : List Pth} {Q : VK} {E : XK} (d : SqL K H a ys) (hp : Ps H ys ps) (ok : ∀ p ∈ ps, OkP p ∧ p ≠ []) (few : ys.length < 64)
    (k : ∀ H2 l zs qs, Kp T0 H H2 → H l = none → H2 l = some (.lst zs) → Ps H2 zs qs → Canon ps qs → Q (.ref l) H2) : spLFew K [.ref a] H Q E := by
  obtain ⟨bs, rfl, rfl, hb⟩ := hp.rows
  exact ⟨a, bs, rfl, d, hb, fun b m => ok b.2 (List.mem_map_of_mem m), by simpa using few, fun H2 l zs qs k2 hl d2 h2 cn _ => k H2 l zs qs k2 hl d2 h2 cn⟩
theorem rd_neL {K : PySem.W.Frag} {H : Hp} {l m : Addr} {ys zs : List V} {ps qs : List Pth} {Q : VK} (d : H l = some (.lst ys)) (hp : Ps H ys ps) (dm : H m = some (.lst zs)) (hq : Ps H zs qs) (op : ∀ p ∈ ps, OkP p) (oq : ∀ p ∈ qs, OkP p) (e : ps = qs) (k : Q (.bl false) H) : rNeD K (.ref l) (.ref m) H Q := by
  refine ⟨dL ps, dL qs, .lst (SqL.of d) hp.dp, .lst (SqL.of dm) hq.dp, shaped_dL op, shaped_dL oq, ?_⟩
  rw [eqv_dL, decide_eq_true e]
  exact k
theorem ps_take {H : Hp} : ∀ {vs : List V} {ps : List Pth} (n : Nat), Ps H vs ps → Ps H (vs.take n) (ps.take n)
  | _, _, 0, _ => .nil
  | _, _, _ + 1, .nil => .nil
  | _, _, n + 1, .cons a r => .cons a (ps_take n r)
theorem free_T {T : Addr → Prop} {H H2 : Hp} {p : Addr} (k : Kp T H H2) (n : ¬ T p) (h : H2 p = none) : H p = none := by
  cases e : H p with
  | none => rfl
  | some o => rw [k p o n e] at h; cases h
theorem ok_lit : OkP ["a"] := ⟨fun x m => by rw [List.mem_singleton.mp m]; decide +kernel, by decide⟩
/-- places of lists -/
theorem loose_at {H : Hp} {l : Addr} {xs : List V} (d : H l = some (.lst xs)) : Loose (fun b => b = l) H := fun b o e q => by
  subst e
  rw [d] at q
  cases q
  exact ⟨(fun _ z => nomatch z), (fun _ _ _ z => nomatch z)⟩
theorem th_rep {T : Addr → Prop} {H : Hp} {l : Addr} {v : V} {d : PyData} {Q : VK} (e : H l = some (.lst [v])) (h : Dd T H v d) (s : Small d) (k : Q (.str (PyData.list [d]).shown) H) : rReprL [.ref l] H Q := by
  refine ⟨l, [v], [d], T, rfl, e, .cons h .nil, by simp [PyData.showableAll, s.sw], ?_, ?_, k⟩
  · have := s.dd
    simp [PyData.depthAll]
    omega
  · simp only [PyData.shown, PyData.shownAll]
    have z := listText_le (ts := [d.shown]) (m := 200) fun t m => by rw [List.mem_singleton.mp m]; exact s.sz
    rw [sizeLine_eq]
    simp only [List.length_cons, List.length_nil] at z
    omega
abbrev NL : List Str := ["script", "start", "tape", "turn", "paths", "kept", "due", "mask", "told", "first", "second", "wrong", "own", "error"]
section
variable {P : Program} {w : World} {K : PySem.W.Frag} {mg : Str → Option Value} {base : Heap} {C CB : Addr}
theorem scLaw : FnScope NL ["script"] (defScope sLaw) := ⟨rfl, rfl, rfl, by decide +kernel, rfl, by decide +kernel, by decide +kernel⟩
theorem hot_suite {X : Cx} {a : Addr} {oe : Obj} {cls : Value} {d : Option Addr} {pn : List (Addr × Obj)} (hz : L2N.Zn cls d oe) (hf : ∃ vs, oe.data = .fields vs) : HotC (X.suite a ((a, oe) :: pn)) := by
  obtain ⟨vs, e⟩ := hf
  exact ⟨(a, oe), ⟨rfl, vs, e, hz.2.2 vs e⟩, List.mem_cons_self⟩
theorem pss_imp {X : Cx} {st : List Stmt} {t u : TS} (h : PSs X st t) (i : ∀ D σ H, u D σ H → t D σ H) : PSs X st u := ⟨fun pins s σ H D I q => h.run pins s σ H D I (i D σ H q)⟩
theorem eq_txt2 {K : PySem.W.Frag} {H : Hp} {a b : Addr} {Q : VK} {xs : List V} {ds : List PyData} (e1 : H a = some (.lst xs)) (e2 : H b = some (.lst xs)) (d : ∀ H2 : Hp, DpAll K H2 xs ds) (s : SeqAt.shaped (.list ds) = true) (v : PyData.eqv (.list ds) (.list ds) = true) (k : Q (.bl true) H) : rEqD K (.ref a) (.ref b) H Q :=
  ⟨.list ds, .list ds, .lst (SqL.of e1) (d H), .lst (SqL.of e2) (d H), s, s, by rw [v]; exact k⟩
/-- Mask() and its paths, hot -/
theorem rd_mask0 {K : PySem.W.Frag} {C : Addr} {H : Hp} {a : Addr} {Q : VK} {E : XK} (hs : SqL K H a [] ∨ SqT K H a []) (k : ∀ H2 l, Kp T0 H H2 → H2 l = some (.lst []) → Q (.ref l) H2) :
    ∀ x dx, H x = none → H dx = none → dx ≠ x → spInit0 K C [.ref x, .ref a] (upd (upd H dx (.own x)) x (.ins C dx [])) (fun v H2 => v = .non ∧ ∃ a dx fs, V.ref x = .ref a ∧ H2 a = some (.ins C dx fs) ∧ spPaths0 C [.ref a] H2 Q E) E := by
  intro x dx nx nd ne
  have g : Kp T0 H (upd (upd H dx (.own x)) x (.ins C dx [])) := Kp.mk nx nd
  refine ⟨x, dx, a, rfl, upd_same, ?_, fun H2 r k2 e1 e2 => ⟨rfl, x, dx, _, rfl, e1, x, dx, r, rfl, e1, e2, fun l hl => k _ l ?_ upd_same⟩⟩
  · rcases hs with h | h
    · exact .inl (sqL_at h g id)
    · exact .inr (sqT_at h g id)
  · exact (Kp.made nx nd k2).new hl
/-- the suite of the law's own try -/
def tSu (CB a : Addr) (cls : Value) (d : Option Addr) : TS := fun D σ H => ∃ lo dd : Addr, σ[12]? = some (some (.ref lo)) ∧ σ[13]? = some (some (.ref a)) ∧ H lo = some (.lst [.str "a"]) ∧ cls = .ref CB ∧ d = some dd ∧ H dd = some (.xd [("value", .ref lo)]) ∧ ∀ H2, D.rt (.bl true) H2
/-- Mask and its paths, while an exception is handled -/
structure HotM (P : Program) (w : World) (K : PySem.W.Frag) (mg : Str → Option Value) (base : Heap) (C : Addr) : Prop where
  ini : ∃ fI fd e0 ds, Mk K C fI ∧ FnH P w K mg base CX0 2 fI fd ["self", "paths"] (spInit0 K C) ∧ Binds K fd ["self", "paths"] [] ∧ Binds K fd ["self", "paths"] ds ∧ Vals [V.ref e0] ds ∧ ∀ H : Hp, SqT K H e0 []
  pth : ∃ pa g fd, PropOf K C "paths" pa g ∧ FnH P w K mg base CX0 1 g fd ["self"] (spPaths0 C) ∧ Binds K fd ["self"] []
theorem ok_law {f fT fD fO fPi fOd fCt fF : Addr} {fd : FuncData} (F : Fun K "law" "law" sLaw f fd) (T : TxtM K mg C) (TL : TxtL mg) (gB : mg "BadMask" = some (.ref CB)) (xf : XfC K CB) (noV : PySem.W.findIn K (.ref CB) "value" = some none) (ex1 : PySem.W.exmOne K (.ref CB) (.ref CB) = some true)
    (DT : Df P w K mg base 1 fT "_law_tape" ["script", "start"] (spTape K)) (DD : Df P w K mg base 4 fD "_law_drawn" ["tape"] (spDrawn NM)) (DPi : Df P w K mg base 1 fPi "_law_pick" ["tape", "many"] spPick) (DOo : Df P w K mg base 2 fO "_law_one_of" ["tape", "items"] (spOneOf K))
    (DOd : Df P w K mg base 3 fOd "_law_odd" ["tape"] (spOdd K)) (DCt : Df P w K mg base 6 fCt "_law_caught" ["paths"] (spCaught K)) (M : MkM P w K mg base C) (MX : MkX P w K mg base C CB) (MH : HotM P w K mg base C)
    (DP : Pr P w K mg base C 1 "paths" (spPathsM C)) (DF : Df P w K mg base 3 fF "_law_fewest" ["paths"] (spLFew K)) : FnG P w K mg base 8 f fd ["script"] (spLaw K) := by
  refine fnG_by F scLaw (fun vs H Q E h => ?_) (fun cdv A outer s H vs Q E hf hr h => ?_)
  · obtain ⟨a, ns, rfl, _⟩ := h
    rfl
  · obtain ⟨a, ns, rfl, hs, hl, hb, k⟩ := h
    have un : (A.deeper (PyProof.Rows.envOfC "law" (defScope sLaw) s.heap.objs.size f cdv)).units + 64 < cLine := hr.units
    have hu : (A.deeper (PyProof.Rows.envOfC "law" (defScope sLaw) s.heap.objs.size f cdv)).units + 70 < cLine := by have := hr.un; omega
    have r6 : Room 6 _ := hr.mono (by decide)
    have r5 : Room 5 _ := hr.mono (by decide)
    have r4 : Room 4 _ := hr.mono (by decide)
    have r3 : Room 3 _ := hr.mono (by decide)
    have r2 : Room 2 _ := hr.mono (by decide)
    have r1 : Room 1 _ := hr.mono (by decide)
    have rH : ∀ v, RoomH 3 ((A.deeper (PyProof.Rows.envOfC "law" (defScope sLaw) s.heap.objs.size f cdv)).mark v) := fun v => roomH_mark (hr.mono (by decide)) v
    obtain ⟨fX, fdX, mkX, FX, bX⟩ := MX
    obtain ⟨fI, fdI, e0, ds0, mkH, FI, b2, b0, v0, q0⟩ := MH.ini
    obtain ⟨pa, gP, fdP, hpP, FP, bP⟩ := MH.pth
    refine ⟨_, (pss_cons (ps_for PassesOwn.never rfl (pi_range1 (by rfl) TL.z_range (pa_cons (pe_callB (call_max2 rfl) (by rfl) TL.z_max boot_max (pa_cons pe_int (pa_cons (pe_callB (call_min2 rfl) (by rfl) TL.z_min boot_min (pa_cons pe_int (pa_cons (pe_callB call_len (by rfl) TL.z_len PySem.boot_len (pa_cons (pv 0) pa_nil)) pa_nil))) pa_nil))) pa_nil)) (pg_name (i := 1) scLaw.nd rfl (Or.inl rfl))
      (pss_cons (ps_set (i := 2) scLaw.nd rfl (Or.inl rfl) (pe_df DT r1 (by rfl) (pa_cons (pv 0) (pa_cons (pv 1) pa_nil))))
      (pss_one (ps_for PassesOwn.never rfl (pi_range1 (by rfl) TL.z_range (pa_cons pe_int pa_nil)) (pg_name (i := 3) scLaw.nd rfl (Or.inl rfl))
      (pss_cons (ps_set (i := 4) scLaw.nd rfl (Or.inl rfl) (pe_df DD r4 (by rfl) (pa_cons (pv 2) pa_nil)))
      (pss_cons (ps_set (i := 4) scLaw.nd rfl (Or.inl rfl) (pe_op op_cat (pv 4) (pe_slice sl_list (pv 4) po_none (po_some (pe_df DPi r1 (by rfl) (pa_cons (pv 2) (pa_cons pe_int pa_nil)))))))
      (pss_cons (ps_par (i := 5) (j := 6) (by rfl) scLaw.nd rfl rfl (by decide) rfl rfl (pa_cons (pe_callTy call_list_of (by rfl) TL.z_list boot_list (pa_cons (pv 4) pa_nil)) (pa_cons (pe_df DF r3 (by rfl) (pa_cons (pv 4) pa_nil)) pa_nil)) (by rfl))
      (pss_cons (ps_set (i := 7) scLaw.nd rfl (Or.inl rfl) (pe_mask M r5 (by rfl) T.mgC (pa_cons (pe_df DOo r2 (by rfl) (pa_cons (pv 2) (pa_cons (pe_lst (pa_cons (pv 4) (pa_cons (pe_callTy call_tuple_of (by rfl) T.z_tuple boot_tuple (pa_cons (pv 4) pa_nil)) pa_nil))) pa_nil))) pa_nil)))
      (pss_cons (ps_if (PW.pt (pw_or (pt_cmpR (op_neD hr.units) (pe_pr (pv 7) T.cl DP r2) (pv 6) (nomark _)) (pw_or1 (pt_cmpR (op_neD hr.units) (pv 4) (pv 5) (nomark _))))) (pss_one (ps_ret pe_bl)) pss_nil)
      (pss_cons (ps_expr (pe_bm (r := rAppend) PySem.F.plainAttrs_list PySem.F.slot_list_append PySem.F.type_list_append mt_append (pv 4) (pa_cons (pe_tup (pa_cons pe_str pa_nil)) pa_nil)))
      (pss_cons (ps_set (i := 8) scLaw.nd rfl (Or.inl rfl) (pe_pr (pv 7) T.cl DP r2))
      (pss_cons (ps_expr (pe_bm (r := rAppend) PySem.F.plainAttrs_list PySem.F.slot_list_append PySem.F.type_list_append mt_append (pv 8) (pa_cons (pe_tup (pa_cons pe_str pa_nil)) pa_nil)))
      (pss_cons (ps_if (pt_cmpR (op_neD hr.units) (pe_pr (pv 7) T.cl DP r2) (pv 6) (nomark _)) (pss_one (ps_ret pe_bl)) pss_nil)
      (pss_cons (ps_par (i := 9) (j := 10) (by rfl) scLaw.nd rfl rfl (by decide) rfl rfl (pa_cons (pe_df DOd r3 (by rfl) (pa_cons (pv 2) pa_nil)) (pa_cons (pe_df DOd r3 (by rfl) (pa_cons (pv 2) pa_nil)) pa_nil)) (by rfl))
      (pss_cons (ps_set (i := 11) scLaw.nd rfl (Or.inl rfl) (pe_callTy call_list_of (by rfl) TL.z_list boot_list (pa_cons (pv 5) pa_nil)))
      (pss_cons (ps_expr (pe_bm PySem.F.plainAttrs_list PySem.F.slot_list_insert PySem.F.type_list_insert mt_insert (pv 11) (pa_cons (pe_df DPi r1 (by rfl) (pa_cons (pv 2) (pa_cons (pe_op op_add (pe_callB call_len (by rfl) TL.z_len PySem.boot_len (pa_cons (pv 11) pa_nil)) pe_int) pa_nil))) (pa_cons (pv 9) pa_nil))))
      (pss_one (ps_if (pt_cmpR op_ne (pe_callB (call_reprL hf hu) (by rfl) TL.z_repr boot_repr (pa_cons (pe_df DCt r6 (by rfl) (pa_cons (pe_op op_cat (pv 11) (pe_lst (pa_cons (pv 10) pa_nil))) pa_nil)) pa_nil)) (pe_callB (call_reprL hf hu) (by rfl) TL.z_repr boot_repr (pa_cons (pe_lst (pa_cons (pv 9) pa_nil)) pa_nil)) (nomark _)) (pss_one (ps_ret pe_bl)) pss_nil))))))))))))))))))
      (pss_cons (ps_set (i := 12) scLaw.nd rfl (Or.inl rfl) (pe_lst (pa_cons pe_str pa_nil)))
      (pss_cons (L2N.ps_try_as (ts := fun a cls d => tSu CB a cls d) rfl rfl scLaw.nd (i := 13) rfl rfl (⟨by rfl, by decide, .inl gB⟩ : Names _ "BadMask" (.ref CB)) takes0N
        (fun W pn xe tk ps => pss_one (ps_expr (pe_makeS mkX FX r5 (by rfl) T.mgC bX (fun σ => L2N.passAt tk σ) (pa_cons (pe_lst (pa_cons (pe_tup (pa_cons pe_str pa_nil)) (pa_cons (pv 12) pa_nil))) pa_nil))))
        (fun a oe cls d pn hz hff => pss_imp (pss_cons (ps_expr (pe_bm (r := rAppend) PySem.F.plainAttrs_list PySem.F.slot_list_append PySem.F.type_list_append mt_append (pv 12) (pa_cons pe_str pa_nil)))
      (pss_one (ps_ret (pe_and (pe_cmpR (r := rEqD K) (op_eqD un) (pe_xf xf noV hz.zc hff (pv 13)) (pe_lst (pa_cons pe_str (pa_cons pe_str pa_nil))) (nomark _)) (pe_and (pe_cmpR (r := rEqD K) (op_eqD un) (pe_propH (pe_makeH0 mkH FI (rH _) (hot_suite hz hff) (by rfl) T.mgC b0 v0) T.cl hpP FP ((rH _).mono (by decide)) (hot_suite hz hff) bP) (pe_lst pa_nil) (nomark _)) (pe_one (pe_cmpR (r := rEqD K) (op_eqD un) (pe_propH (pe_makeH mkH FI (rH _) (hot_suite hz hff) (by rfl) T.mgC b2 .nil (pa_cons (pe_lst pa_nil) pa_nil)) T.cl hpP FP ((rH _).mono (by decide)) (hot_suite hz hff) bP) (pe_lst pa_nil) (nomark _)))))))) (fun D σ H q => by
          obtain ⟨lo, dd, h12, h13, hl, rfl, rfl, hd, q⟩ := q
          have nd : dd ≠ lo := fun z => by
            rw [z, hl] at hd
            cases hd
          have hz : (16777216 : Nat) = PySem.sizeLine := PySem.sizeLine_eq.symm
          refine ⟨_, h12, .inl ⟨rfl, _, SqL.of hl⟩, lo, _, _, rfl, rfl, hl, (by show 1 < sizeLine; omega), ?_⟩
          refine ⟨_, h13, rfl, rfl, dd, _, _, rfl, by rw [upd_ne nd]; exact hd, rfl, (by show 2 ≤ sizeLine; omega), fun p hp => ?_⟩
          have np : p ≠ lo := fun z => by
            rw [z, upd_same] at hp
            cases hp
          refine eq_txt2 (xs := [.str "a", .str "b"]) (ds := [.str "a", .str "b"]) (by rw [upd_ne (Ne.symm np)]; exact upd_same) upd_same (fun _ => .cons (.str _) (.cons (.str _) .nil)) (by decide +kernel) (by decide +kernel) ?_
          refine ⟨_, rfl, iteT ?_⟩
          refine rd_mask0 (.inr (q0 _)) fun H3 l3 k3 e3 => ?_
          refine ⟨Nat.zero_le _, fun p4 h4 => ?_⟩
          refine eq_txt2 (xs := []) (ds := []) (((Kp.refl (T := T0) H3).new h4).at0 e3) upd_same (fun _ => .nil) (by decide +kernel) (by decide +kernel) ?_
          refine ⟨_, rfl, iteT ?_⟩
          refine ⟨Nat.zero_le _, fun p5 h5 => ?_⟩
          refine rd_mask0 (.inl (SqL.of upd_same)) fun H6 l6 k6 e6 => ?_
          refine ⟨Nat.zero_le _, fun p7 h7 => ?_⟩
          refine eq_txt2 (xs := []) (ds := []) (((Kp.refl (T := T0) H6).new h7).at0 e6) upd_same (fun _ => .nil) (by decide +kernel) (by decide +kernel) ?_
          exact q _)))
      (pss_one (ps_ret pe_bl))))), ?_⟩
    have em := clamp (lo := 2) (hi := 4) (by decide) ns.length
    refine ⟨_, rfl, _, ns.length, rfl, .inl ⟨_, hs, by rw [List.length_map]⟩, _, _, rfl, _, _, rfl, _, rfl, ?_, ?_, ?_⟩
    · omega
    · omega
    revert em
    generalize (if (if (ns.length : Int) < 4 then (ns.length : Int) else 4) > 2 then (if (ns.length : Int) < 4 then (ns.length : Int) else 4) else 2) = top
    intro em
    have hz : (16777216 : Nat) = PySem.sizeLine := PySem.sizeLine_eq.symm
    have l1 : 1 ≤ PySem.sizeLine := by omega
    refine for_range (lo := 0) (n := top.toNat) (fun _ st H1 => Kp T0 H H1 ∧ ∃ o1 o2 o3 o4 o5 o6 o7 o8 o9 o10 o11 o12 o13 : Option V, st = [some (.ref a), o1, o2, o3, o4, o5, o6, o7, o8, o9, o10, o11, o12, o13])
      ⟨Kp.refl H, none, none, none, none, none, none, none, none, none, none, none, none, none, rfl⟩ (fun i st H1 hi p => ?_) (fun st H1 p => ?_)
    rotate_left
    · obtain ⟨k1, o1, o2, o3, o4, o5, o6, o7, o8, o9, o10, o11, o12, o13, rfl⟩ := p
      refine ⟨(by show 1 ≤ sizeLine; omega), fun lo hlo => ?_⟩
      refine ⟨(by show 1 ≤ sizeLine; omega), fun p1 h1 => ⟨_, rfl, (by show 2 ≤ sizeLine; omega), fun b hb1 x dx hx hdx ne => ?_⟩⟩
      have el : (upd H1 lo (.lst [.str "a"])) lo = some (.lst [.str "a"]) := upd_same
      have g1 := (Kp.refl (T := T0) (upd H1 lo (.lst [.str "a"]))).new (o := .tup [.str "a"]) h1
      have ep : (upd (upd H1 lo (.lst [.str "a"])) p1 (.tup [.str "a"])) p1 = some (.tup [.str "a"]) := upd_same
      generalize upd (upd H1 lo (.lst [.str "a"])) p1 (.tup [.str "a"]) = G1 at g1 ep hb1 hx hdx ⊢
      have g2 := (Kp.refl (T := T0) G1).new (o := .lst [.ref p1, .ref lo]) hb1
      have eb : (upd G1 b (.lst [.ref p1, .ref lo])) b = some (.lst [.ref p1, .ref lo]) := upd_same
      generalize upd G1 b (.lst [.ref p1, .ref lo]) = G2 at g2 eb hx hdx ⊢
      have g3 : Kp T0 G2 (upd (upd G2 dx (.own x)) x (.ins C dx [])) := Kp.mk hx hdx
      have all := (g1.trans g2).trans g3
      refine .inr ⟨x, dx, b, [.ref p1, .ref lo], 1, .ref lo, [["a"]], rfl, upd_same, .inl (SqL.of (g3.at0 eb)), rfl, .cons ⟨p1, rfl, (g2.trans g3).at0 ep⟩ .nil, fun p m => ?_, .inr ⟨.type "list", .base (.lst (all.at0 el)), kit_ty (by decide +kernel)⟩, fun H2 d k2 hd => ?_⟩
      · rw [List.mem_singleton.mp m]
        exact ⟨ok_lit, by simp⟩
      refine ⟨true, ex1, fun _ a2 ha2 => ?_, fun z => nomatch z⟩
      exact ⟨lo, d, rfl, rfl, (all.trans k2).at0 el, rfl, rfl, hd, k⟩
    obtain ⟨k1, o1, o2, o3, o4, o5, o6, o7, o8, o9, o10, o11, o12, o13, rfl⟩ := p
    refine ⟨_, rfl, _, rfl, a, ns, _, rfl, sqL_at hs k1 id, hl, hb, by omega, by omega, fun t d m nt ok => ?_⟩
    have ta : TapeAt (upd H1 t (.dK (tapeL d m))) t := TapeAt.put ok
    generalize eH : upd H1 t (.dK (tapeL d m)) = H2 at ta
    have kz : ∀ {H9 : Hp}, Kp (At t) H2 H9 → Kp T0 H H9 := fun k9 => k1.trans (Kp.tape (o := .dK (tapeL d m)) nt (by rw [eH]; exact k9))
    refine ⟨_, rfl, (by decide), (by decide), ?_⟩
    refine for_range (lo := 0) (n := 10) (fun _ st H3 => Kp (At t) H2 H3 ∧ TapeAt H3 t ∧ ∃ o1 o3 o4 o5 o6 o7 o8 o9 o10 o11 o12 o13 : Option V, st = [some (.ref a), o1, some (.ref t), o3, o4, o5, o6, o7, o8, o9, o10, o11, o12, o13])
      ⟨Kp.refl H2, ta, _, _, _, _, _, _, _, _, _, _, _, _, rfl⟩ (fun j st H3 hj p => ?_) (fun st H3 p => ?_)
    rotate_left
    · obtain ⟨k3, ta3, o1, o3, o4, o5, o6, o7, o8, o9, o10, o11, o12, o13, rfl⟩ := p
      exact ⟨kz k3, _, _, _, _, _, _, _, _, _, _, _, _, _, rfl⟩
    obtain ⟨k3, ta3, o1, o3, o4, o5, o6, o7, o8, o9, o10, o11, o12, o13, rfl⟩ := p
    -- paths
    refine ⟨_, rfl, t, rfl, ta3, fun H4 la ya pa k4 ta4 n4 d4 hp4 b4 o4 => ?_⟩
    have tA : ¬ At t la := tape_ne ta4 d4
    have gA : ∀ p ∈ pa, OkP p ∧ p ≠ [] := fun p m => drawn_ok (by decide) (o4 p m)
    -- paths + paths[:_law_pick(tape, 3)]
    refine ⟨_, rfl, _, rfl, _, rfl, t, 3, rfl, ta4, (by decide), (by decide), fun H5 r k5 ta5 r0 r3 => ⟨r, rfl, la, ya, rfl, SqL.of (k5 la _ tA d4), fun lp hlp => ?_⟩⟩
    obtain ⟨n, rfl⟩ := Int.eq_ofNat_of_zero_le r0
    rw [cut_take]
    have h5 := hp4.tape k5 ta4
    have g5 := (Kp.refl (T := T0) H5).new (o := .lst (ya.take n)) hlp
    refine ⟨la, lp, ya, ya.take n, rfl, rfl, g5.at0 (k5 la _ tA d4), upd_same, (by rw [List.length_take]; omega), fun lq hlq => ?_⟩
    have g6 := g5.new (o := .lst (ya ++ ya.take n)) hlq
    have dQ : (upd (upd H5 lp (.lst (ya.take n))) lq (.lst (ya ++ ya.take n))) lq = some (.lst (ya ++ ya.take n)) := upd_same
    have hQ : Ps (upd (upd H5 lp (.lst (ya.take n))) lq (.lst (ya ++ ya.take n))) (ya ++ ya.take n) (pa ++ pa.take n) := (h5.app (ps_take n h5)).keep0 g6
    have gQ : ∀ p ∈ pa ++ pa.take n, OkP p ∧ p ≠ [] := fun p m => (List.mem_append.mp m).elim (gA p) fun z => gA p (List.mem_of_mem_take z)
    have lQ : (ya ++ ya.take n).length ≤ 12 := by rw [List.length_append, List.length_take]; omega
    have nq3 : H3 lq = none := free_T (k4.trans (k5.trans g5.wide)) (tape_fresh (ta5.keep g5) hlq) hlq
    have ta6 := ta5.keep g6
    have K6 : Kp (At t) H3 _ := k4.trans (k5.trans g6.wide)
    generalize upd (upd H5 lp (.lst (ya.take n))) lq (.lst (ya ++ ya.take n)) = H6 at dQ hQ ta6 K6 ⊢
    generalize ya ++ ya.take n = yq at dQ hQ lQ ⊢
    generalize pa ++ pa.take n = pq at hQ gQ ⊢
    clear k5 k4 d4 hp4 h5 g5 g6 n4 b4 o4 ta4 ta5 hlq hlp tA
    have lPq : pq.length = yq.length := (Paired.length hQ).symm
    -- kept, due
    refine ⟨_, rfl, lq, yq, rfl, .inl (SqL.of dQ), fun lk hk => ?_⟩
    have g7 := (Kp.refl (T := T0) H6).new (o := .lst yq) hk
    have dK : (upd H6 lk (.lst yq)) lk = some (.lst yq) := upd_same
    have nkq : lk ≠ lq := fun z => by
      rw [z, dQ] at hk
      cases hk
    have nk3 : H3 lk = none := free_T K6 (tape_fresh ta6 hk) hk
    replace dQ := g7.at0 dQ
    replace hQ := hQ.keep0 g7
    have ta7 := ta6.keep g7
    replace K6 := K6.trans g7.wide
    generalize upd H6 lk (.lst yq) = G7 at dQ hQ dK K6 ta7 ⊢
    clear g7 ta6 hk
    refine ⟨_, rfl, ?_⟩
    try dsimp only [tNil]
    refine rd_few (SqL.of dQ) hQ gQ (by omega) fun H7 ld zd qd k7 nd dd hd cd => ?_
    refine ⟨_, _, rfl, ?_⟩
    try dsimp only
    have ndq : ld ≠ lq := fun z => by
      rw [z, dQ] at nd
      cases nd
    have nd3 : H3 ld = none := free_T K6 (tape_fresh ta7 nd) nd
    replace dQ := k7.at0 dQ
    replace dK := k7.at0 dK
    replace hQ := hQ.keep0 k7
    replace K6 := K6.trans k7.wide
    have ta8 := ta7.keep k7
    clear k7 ta7 nd
    -- mask = Mask(_law_one_of(tape, [paths, tuple(paths)]))
    refine ⟨_, rfl, _, rfl, _, rfl, lq, yq, rfl, .inl ⟨SqL.of dQ, fun lt hlt => ⟨(by show 2 ≤ sizeLine; omega), fun lb hlb => ?_⟩⟩⟩
    have g8 := (Kp.refl (T := T0) H7).new (o := .tup yq) hlt
    have dT : (upd H7 lt (.tup yq)) lt = some (.tup yq) := upd_same
    replace g8 := g8.new (o := .lst [.ref lq, .ref lt]) hlb
    have dT : (upd (upd H7 lt (.tup yq)) lb (.lst [.ref lq, .ref lt])) lt = some (.tup yq) := ((Kp.refl (T := T0) (upd H7 lt (.tup yq))).new hlb).at0 dT
    have dB : (upd (upd H7 lt (.tup yq)) lb (.lst [.ref lq, .ref lt])) lb = some (.lst [.ref lq, .ref lt]) := upd_same
    have ta9 := ta8.keep g8
    generalize upd (upd H7 lt (.tup yq)) lb (.lst [.ref lq, .ref lt]) = G8 at g8 dT dB ta9 ⊢
    refine ⟨t, lb, [.ref lq, .ref lt], rfl, ta9, SqL.of dB, (by show 1 ≤ 2; decide), (by show 2 ≤ 1048576; decide), fun H8 x k8 ta10 mx => ?_⟩
    have kx : Kp (At t) H7 H8 := g8.wide.trans k8
    have tQ : ¬ At t lq := tape_ne ta8 dQ
    have tK : ¬ At t lk := tape_ne ta8 dK
    have tD : ¬ At t ld := tape_ne ta8 dd
    have tT : ¬ At t lt := fun z => by
      obtain ⟨d9, m9, e9, _⟩ := ta9
      rw [show lt = t from z, e9] at dT
      cases dT
    replace dT := k8 lt _ tT dT
    replace dQ := kx lq _ tQ dQ
    replace dK := kx lk _ tK dK
    replace dd := kx ld _ tD dd
    replace hQ := hQ.tape kx ta8
    replace hd := hd.tape kx ta8
    replace K6 := K6.trans kx
    clear k8 kx g8 dB ta8 ta9 hlt hlb
    obtain ⟨b, rfl, hs8⟩ : ∃ b : Addr, x = .ref b ∧ SqP K H8 b yq pq := by
      simp only [List.mem_cons, List.not_mem_nil, or_false] at mx
      rcases mx with rfl | rfl
      · exact ⟨_, rfl, .inl (SqL.of dQ), hQ, gQ⟩
      · exact ⟨_, rfl, .inr (SqT.of dT), hQ, gQ⟩
    have hM : MOST = 100000 := rfl
    refine mask_new hs8 (by omega) fun H9 x1 q1 k9 i1 n1 c1 => ?_
    obtain rfl := canon_one c1 cd
    replace dQ := k9.at0 dQ
    replace dK := k9.at0 dK
    replace dd := k9.at0 dd
    replace hQ := hQ.keep0 k9
    replace hd := hd.keep0 k9
    replace K6 := K6.trans k9.wide
    have ta := ta10.keep k9
    clear k9 ta10 hs8 mx dT tT tQ tK tD
    have o1 : ∀ q ∈ q1, OkP q := fun q m => (i1.ok q m).1
    have oq : ∀ q ∈ pq, OkP q := fun q m => (gQ q m).1
    -- mask.paths != due or paths != kept
    try dsimp only
    refine ⟨_, rfl, rd_paths i1 fun l3 z3 m3 h3 => ?_⟩
    have kk := (Kp.refl (T := T0) H9).new (o := .lst z3) m3
    refine ⟨_, rfl, rd_neL upd_same (h3.keep0 kk) (kk.at0 dd) (hd.keep0 kk) o1 o1 rfl ⟨_, rfl, iteF ?_⟩⟩
    replace dQ := kk.at0 dQ
    replace dK := kk.at0 dK
    replace dd := kk.at0 dd
    replace hQ := hQ.keep0 kk
    replace hd := hd.keep0 kk
    replace i1 := i1.keep0 kk
    replace ta := ta.keep kk
    replace K6 := K6.trans kk.wide
    clear kk h3
    generalize upd H9 l3 (.lst z3) = G9 at dQ dK dd hQ hd i1 ta K6 ⊢
    refine ⟨_, rfl, _, rfl, rd_neL dQ hQ dK hQ oq oq rfl ⟨_, rfl, iteF ?_⟩⟩
    -- paths.append(("z",))
    try dsimp only
    refine ⟨_, rfl, .inl ⟨rfl, _, SqL.of dQ⟩, (by show 1 ≤ sizeLine; omega), fun pz hpz => ?_⟩
    have gz := (Kp.refl (T := T0) G9).new (o := .tup [.str "z"]) hpz
    refine ⟨lq, yq, .ref pz, rfl, rfl, gz.at0 dQ, (by omega), ?_⟩
    have wz : Kp (fun c => c = lq) G9 (upd (upd G9 pz (.tup [.str "z"])) lq (.lst (yq ++ [.ref pz]))) := gz.wide.put rfl
    have lo1 := loose_at dQ
    replace hQ := hQ.keep wz fun c o e q => (lo1 c o e q).1
    replace hd := hd.keep wz fun c o e q => (lo1 c o e q).1
    replace i1 := i1.keep wz lo1
    replace dK := wz lk _ nkq dK
    replace dd := wz ld _ ndq dd
    have tQ : ¬ At t lq := tape_ne ta dQ
    replace ta := (ta.keep gz).over (o := .lst (yq ++ [.ref pz])) tQ
    replace K6 := (K6.trans gz.wide).over (o := .lst (yq ++ [.ref pz])) nq3
    clear wz gz lo1
    generalize upd (upd G9 pz (.tup [.str "z"])) lq (.lst (yq ++ [.ref pz])) = F1 at dK dd hQ hd i1 ta K6 ⊢
    clear dQ
    -- told = mask.paths; told.append(("y",))
    try dsimp only
    refine ⟨_, rfl, rd_paths i1 fun lt zt mt ht => ?_⟩
    have gt := (Kp.refl (T := T0) F1).new (o := .lst zt) mt
    have nt3 : H3 lt = none := free_T K6 (tape_fresh ta mt) mt
    have nkt : lk ≠ lt := ne_of_none dK mt
    have ndt : ld ≠ lt := ne_of_none dd mt
    have dt : (upd F1 lt (.lst zt)) lt = some (.lst zt) := upd_same
    have lz : zt.length = q1.length := Paired.length ht
    replace dK := gt.at0 dK
    replace dd := gt.at0 dd
    replace hQ := hQ.keep0 gt
    replace hd := hd.keep0 gt
    replace i1 := i1.keep0 gt
    replace ta := ta.keep gt
    replace K6 := K6.trans gt.wide
    clear gt ht mt
    generalize upd F1 lt (.lst zt) = F2 at dt dK dd hQ hd i1 ta K6 ⊢
    try dsimp only
    refine ⟨_, rfl, .inl ⟨rfl, _, SqL.of dt⟩, (by show 1 ≤ sizeLine; omega), fun py hpy => ?_⟩
    have gz := (Kp.refl (T := T0) F2).new (o := .tup [.str "y"]) hpy
    refine ⟨lt, zt, .ref py, rfl, rfl, gz.at0 dt, (by omega), ?_⟩
    have wz : Kp (fun c => c = lt) F2 (upd (upd F2 py (.tup [.str "y"])) lt (.lst (zt ++ [.ref py]))) := gz.wide.put rfl
    have lo1 := loose_at dt
    replace hQ := hQ.keep wz fun c o e q => (lo1 c o e q).1
    replace hd := hd.keep wz fun c o e q => (lo1 c o e q).1
    replace i1 := i1.keep wz lo1
    replace dK := wz lk _ nkt dK
    replace dd := wz ld _ ndt dd
    have tt : ¬ At t lt := tape_ne ta dt
    replace ta := (ta.keep gz).over (o := .lst (zt ++ [.ref py])) tt
    replace K6 := (K6.trans gz.wide).over (o := .lst (zt ++ [.ref py])) nt3
    clear wz gz lo1
    generalize upd (upd F2 py (.tup [.str "y"])) lt (.lst (zt ++ [.ref py])) = F3 at dK dd hQ hd i1 ta K6 ⊢
    clear dt
    -- mask.paths != due
    try dsimp only
    refine ⟨_, rfl, rd_paths i1 fun l3 z3 m3 h3 => ?_⟩
    have kk := (Kp.refl (T := T0) F3).new (o := .lst z3) m3
    refine ⟨_, rfl, rd_neL upd_same (h3.keep0 kk) (kk.at0 dd) (hd.keep0 kk) o1 o1 rfl ⟨_, rfl, iteF ?_⟩⟩
    replace dK := kk.at0 dK
    replace hQ := hQ.keep0 kk
    replace ta := ta.keep kk
    replace K6 := K6.trans kk.wide
    clear kk h3
    generalize upd F3 l3 (.lst z3) = F4 at dK hQ ta K6 ⊢
    clear dd hd i1
    -- first, second
    try dsimp only
    refine ⟨_, rfl, t, rfl, ta, fun H11 v k11 ta11 ov => ?_⟩
    refine ⟨_, rfl, t, rfl, ta11, fun H12 u k12 ta12 ou => ?_⟩
    refine ⟨_, _, rfl, ?_⟩
    try dsimp only
    have tK : ¬ At t lk := tape_ne ta dK
    replace dK := k12 lk _ tK (k11 lk _ tK dK)
    replace hQ := hQ.tape (k11.trans k12) ta
    replace K6 := (K6.trans k11).trans k12
    have ov12 : ∀ H3, Kp (At t) H12 H3 → OddV K H3 v ∧ Th (At t) H3 v := fun H9 k9 => ov H9 (k12.trans k9)
    clear ov ou k11 k12 ta ta11
    -- wrong = list(kept)
    refine ⟨_, rfl, lk, yq, rfl, .inl (SqL.of dK), fun lw hlw => ?_⟩
    have gw := (Kp.refl (T := T0) H12).new (o := .lst yq) hlw
    have dW : (upd H12 lw (.lst yq)) lw = some (.lst yq) := upd_same
    have nw3 : H3 lw = none := free_T K6 (tape_fresh ta12 hlw) hlw
    have nw12 : H12 lw = none := hlw
    replace hQ := hQ.keep0 gw
    have taW := ta12.keep gw
    generalize upd H12 lw (.lst yq) = F5 at gw dW hQ taW ⊢
    -- wrong.insert(_law_pick(tape, len(wrong) + 1), first)
    try dsimp only
    have lPq2 : pq.length = yq.length := lPq
    refine ⟨_, rfl, .inl ⟨rfl, _, SqL.of dW⟩, _, rfl, _, rfl, _, yq.length, rfl, .inl ⟨yq, SqL.of dW, rfl⟩, ?_⟩
    refine ⟨_, _, rfl, rfl, t, (yq.length : Int) + 1, rfl, taW, (by omega), (by omega), fun H13 r k13 ta13 r0 r1 => ?_⟩
    obtain ⟨n, rfl⟩ := Int.eq_ofNat_of_zero_le r0
    have tW : ¬ At t lw := tape_ne taW dW
    replace dW := k13 lw _ tW dW
    replace hQ := hQ.tape k13 taW
    have kW : Kp (At t) H12 H13 := gw.wide.trans k13
    have nle : n ≤ yq.length := by omega
    clear gw taW k13
    have lT : (yq.take n).length = n := by rw [List.length_take]; omega
    have nn : (n : Int).toNat = n := Int.toNat_natCast n
    refine ⟨_, rfl, lw, yq, (n : Int), v, rfl, rfl, dW, (by omega), r0, (by omega), ?_⟩
    rw [nn]
    have lo1 := loose_at dW
    have wz : Kp (fun c => c = lw) H13 (upd H13 lw (.lst (yq.take n ++ [v] ++ yq.drop n))) := (Kp.refl _).put rfl
    have dW2 : (upd H13 lw (.lst (yq.take n ++ [v] ++ yq.drop n))) lw = some (.lst (yq.take n ++ [v] ++ yq.drop n)) := upd_same
    replace hQ := hQ.keep wz fun c o e q => (lo1 c o e q).1
    replace ta13 := ta13.over (o := .lst (yq.take n ++ [v] ++ yq.drop n)) tW
    have K13 : Kp (At t) H3 (upd H13 lw (.lst (yq.take n ++ [v] ++ yq.drop n))) := (K6.trans kW).over nw3
    have kW2 : Kp (At t) H12 (upd H13 lw (.lst (yq.take n ++ [v] ++ yq.drop n))) := kW.over nw12
    have lW : (yq.take n ++ [v] ++ yq.drop n).length ≤ 13 := by
      simp only [List.length_append, List.length_take, List.length_drop, List.length_cons, List.length_nil]
      omega
    have eT : (yq.take n ++ [v] ++ yq.drop n)[n]? = some v := by
      rw [List.append_assoc, List.getElem?_append_right (by omega), lT, Nat.sub_self]
      rfl
    have eU : (yq.take n ++ [v] ++ yq.drop n).take n = yq.take n := by
      rw [List.append_assoc, List.take_append_of_le_length (by omega), List.take_of_length_le (by omega)]
    generalize upd H13 lw (.lst (yq.take n ++ [v] ++ yq.drop n)) = F6 at dW2 hQ ta13 K13 kW2 ⊢
    generalize yq.take n ++ [v] ++ yq.drop n = ws at dW2 lW eT eU ⊢
    clear wz lo1 dW kW K6
    -- repr(_law_caught(wrong + [second])) != repr([first])
    try dsimp only
    refine ⟨_, rfl, _, rfl, l1, fun b2 hb2 => ?_⟩
    have g2 := (Kp.refl (T := T0) F6).new (o := .lst [u]) hb2
    have nbw : b2 ≠ lw := fun z => by
      rw [z, dW2] at hb2
      cases hb2
    refine ⟨lw, b2, ws, [u], rfl, rfl, g2.at0 dW2, upd_same, (by show ws.length + 1 ≤ sizeLine; omega), fun b3 hb3 => ?_⟩
    have g3 := g2.new (o := .lst (ws ++ [u])) hb3
    have d3 : (upd (upd F6 b2 (.lst [u])) b3 (.lst (ws ++ [u]))) b3 = some (.lst (ws ++ [u])) := upd_same
    generalize upd (upd F6 b2 (.lst [u])) b3 (.lst (ws ++ [u])) = F7 at g3 d3 ⊢
    have ln : n < ws.length := (List.getElem?_eq_some_iff.mp eT).1
    have kv : Kp (At t) H12 F7 := kW2.trans g3.wide
    refine ⟨b3, ws ++ [u], n, v, pq.take n, rfl, .inl (SqL.of d3), ?_, ?_, fun q m => gQ q (List.mem_of_mem_take m), (ov12 F7 kv).1, fun H14 l k14 hl dl => ?_⟩
    · rw [List.getElem?_append_left ln]
      exact eT
    · rw [List.take_append_of_le_length (Nat.le_of_lt ln), eU]
      exact ps_take n (hQ.keep0 g3)
    obtain ⟨dv, hdv, sm, _⟩ := (ov12 F7 kv).2
    try dsimp only [tNil]
    refine th_rep dl (hdv.keep k14.wide) sm ?_
    refine ⟨_, rfl, l1, fun b4 hb4 => ?_⟩
    try dsimp only [tNil]
    have g4 := (Kp.refl (T := T0) H14).new (o := .lst [v]) hb4
    refine th_rep upd_same ((hdv.keep k14.wide).keep g4.wide) sm ?_
    refine ⟨rfl, _, rfl, ?_⟩
    rw [decide_eq_true rfl]
    refine iteF ?_
    exact ⟨k3.trans ((K13.trans (g3.trans (k14.trans g4)).wide)), (ta13.keep (g3.trans (k14.trans g4))), _, _, _, _, _, _, _, _, _, _, _, _, rfl⟩
end
end Lw
namespace Lw
open PySem L2 Gk
abbrev sIB : Stmt := inClass (topS 3) 0
section
variable {P : Program} {w : World} {K : PySem.W.Frag} {mg : Str → Option Value} {base : Heap} {f cc C cda : Addr} {dV kV doc pm ct oc : Value} {an od : Option Addr} {osl ccs csl : Array (Option Value)} {ccl cl : Value} {cdd cld : Option Addr} {vs : Array Value} {tf : Tok} {file : Str}
theorem ok_errB (lk : K.lookup f = some ⟨oc, od, .func (PySem.W.ksFn "__init__" "BadMask.__init__" (defArgs sIB) (defBody sIB) (defScope sIB) dV kV doc pm an (.ref cda) ct cc), osl⟩) (hcd : PySem.W.codeIn K (.ref cda) "BadMask.__init__" = true)
    (hcode : K.lookup cda = some ⟨ccl, cdd, .fields vs, ccs⟩) (hvs : vs[2]? = some (.str file tf)) (hfile : ((P.main.file : Str) == file) = true)
    (htop : (P.main.scope.names.lookup ("super" : Str)).isSome = false) (hcell : K.lookup cc = some ⟨cl, cld, .cell (some (.ref C)), csl⟩) (hsup : mg "super" = none) (hop : PySem.W.nsIn K cStatics "thirdparty.any" = some none)
    (hsi : PySem.W.ks_superIn K C C "__init__" = some (some (.builtin "ValueError.__init__"))) (T : OexC K C) (hno : PySem.W.findIn K (.ref C) "value" = some none) :
    FnOk P w K mg base CX0 1 f (PySem.W.ksFn "__init__" "BadMask.__init__" (defArgs sIB) (defBody sIB) (defScope sIB) dV kV doc pm an (.ref cda) ct cc) ["self", "value"] (spErr C "value") :=
  fn_sup lk hcd ⟨rfl, rfl, rfl, rfl, rfl, rfl, rfl, by decide +kernel, by decide +kernel, by decide⟩ rfl rfl hcode hvs hfile htop hcell hsup hop hsi T hno rfl ⟨fun _ _ _ _ => rfl, fun _ _ _ _ => rfl, fun _ _ _ _ => ⟨_, rfl⟩, fun _ _ _ _ => rfl, fun _ _ _ _ => rfl⟩ (by decide) (by decide)
end
end Lw
namespace Lw
open PySem L2 L2H Gk
theorem all_mk {l : PySem.W.OpenLaw} {w : World} {K : PySem.W.Frag} {h : Heap} {mg : Str → Option Value} {fa fIl fIn fIr fBe fCo fFe fTa fPi fOo fPa fLB fLC fLF fDr fOd fCt fLaw C fIni TIni eIni fPth pPth : Addr} {otIni : Value} {dtIni deIni : Option Addr} {ntIni neIni : Nat} {stIni seIni : Array (Option Value)} {restPth : List Value} {tLE tMO : Tok} {CM CB fIB cdaB ccB nsB : Addr} {nmB qnB fiB : Str} {bsB subB : List Value} {snB : List Str} {abB : Bool} {colB : Option Bool} {ddB odB anB cddB cldB : Option Addr} {kaB kbB kcB kdB keB : Option Value} {ocB kVB dcB pmB ctB cclB clB : Value} {slB ccsB cslB : Array (Option Value)} {vsB : Array Value} {tfB : Tok} {odIl anIl odIn anIn odIr anIr odBe anBe odCo anCo odFe anFe odTa anTa odPi anPi odOo anOo odPa anPa odLB anLB odLC anLC odLF anLF odDr anDr odOd anOd odCt anCt odLaw anLaw odIni anIni odPth anPth : Option Addr} {slIl slIn slIr slBe slCo slFe slTa slPi slOo slPa slLB slLC slLF slDr slOd slCt slLaw slIni slPth : Array (Option Value)} {ocIl kVIl dcIl pmIl cdIl ctIl ocIn kVIn dcIn pmIn cdIn ctIn ocIr kVIr dcIr pmIr cdIr ctIr ocBe kVBe dcBe pmBe cdBe ctBe ocCo kVCo dcCo pmCo cdCo ctCo ocFe kVFe dcFe pmFe cdFe ctFe ocTa kVTa dcTa pmTa cdTa ctTa ocPi kVPi dcPi pmPi cdPi ctPi ocOo kVOo dcOo pmOo cdOo ctOo ocPa kVPa dcPa pmPa cdPa ctPa ocLB kVLB dcLB pmLB cdLB ctLB ocLC kVLC dcLC pmLC cdLC ctLC ocLF kVLF dcLF pmLF cdLF ctLF ocDr kVDr dcDr pmDr cdDr ctDr ocOd kVOd dcOd pmOd cdOd ctOd ocCt kVCt dcCt pmCt cdCt ctCt ocLaw kVLaw dcLaw pmLaw cdLaw ctLaw ocIni kVIni dcIni pmIni cdIni ctIni ocPth kVPth dcPth pmPth cdPth ctPth : Value} (X : K.In h) (G : h.Ns mainGlobals mg) (hfa : mg "law" = some (.ref fa))
    (aIl : PySem.W.nsIn K mainGlobals "is_letters" = some (some (.ref fIl)))
    (lIl : K.lookup fIl = some ⟨ocIl, odIl, .func (PySem.W.fnOf "is_letters" "is_letters" (defArgs sIsLetters) (defBody sIsLetters) (defScope sIsLetters) .none kVIl dcIl pmIl anIl cdIl ctIl), slIl⟩)
    (cIl : PySem.W.codeIn K cdIl "is_letters" = true)
    (kIl : PySem.W.keepIn K (.ref fIl) = true)
    (aIn : PySem.W.nsIn K mainGlobals "is_name" = some (some (.ref fIn)))
    (lIn : K.lookup fIn = some ⟨ocIn, odIn, .func (PySem.W.fnOf "is_name" "is_name" (defArgs sIsName) (defBody sIsName) (defScope sIsName) .none kVIn dcIn pmIn anIn cdIn ctIn), slIn⟩)
    (cIn : PySem.W.codeIn K cdIn "is_name" = true)
    (kIn : PySem.W.keepIn K (.ref fIn) = true)
    (aIr : PySem.W.nsIn K mainGlobals "is_row" = some (some (.ref fIr)))
    (lIr : K.lookup fIr = some ⟨ocIr, odIr, .func (PySem.W.fnOf "is_row" "is_row" (defArgs sIsRow) (defBody sIsRow) (defScope sIsRow) .none kVIr dcIr pmIr anIr cdIr ctIr), slIr⟩)
    (cIr : PySem.W.codeIn K cdIr "is_row" = true)
    (kIr : PySem.W.keepIn K (.ref fIr) = true)
    (aBe : PySem.W.nsIn K mainGlobals "begins" = some (some (.ref fBe)))
    (lBe : K.lookup fBe = some ⟨ocBe, odBe, .func (PySem.W.fnOf "begins" "begins" (defArgs sBegins) (defBody sBegins) (defScope sBegins) .none kVBe dcBe pmBe anBe cdBe ctBe), slBe⟩)
    (cBe : PySem.W.codeIn K cdBe "begins" = true)
    (kBe : PySem.W.keepIn K (.ref fBe) = true)
    (aCo : PySem.W.nsIn K mainGlobals "covers" = some (some (.ref fCo)))
    (lCo : K.lookup fCo = some ⟨ocCo, odCo, .func (PySem.W.fnOf "covers" "covers" (defArgs sCovers) (defBody sCovers) (defScope sCovers) .none kVCo dcCo pmCo anCo cdCo ctCo), slCo⟩)
    (cCo : PySem.W.codeIn K cdCo "covers" = true)
    (kCo : PySem.W.keepIn K (.ref fCo) = true)
    (aFe : PySem.W.nsIn K mainGlobals "fewest" = some (some (.ref fFe)))
    (lFe : K.lookup fFe = some ⟨ocFe, odFe, .func (PySem.W.fnOf "fewest" "fewest" (defArgs sFewest) (defBody sFewest) (defScope sFewest) .none kVFe dcFe pmFe anFe cdFe ctFe), slFe⟩)
    (cFe : PySem.W.codeIn K cdFe "fewest" = true)
    (kFe : PySem.W.keepIn K (.ref fFe) = true)
    (aTa : PySem.W.nsIn K mainGlobals "_law_tape" = some (some (.ref fTa)))
    (lTa : K.lookup fTa = some ⟨ocTa, odTa, .func (PySem.W.fnOf "_law_tape" "_law_tape" (defArgs sTape) (defBody sTape) (defScope sTape) .none kVTa dcTa pmTa anTa cdTa ctTa), slTa⟩)
    (cTa : PySem.W.codeIn K cdTa "_law_tape" = true)
    (kTa : PySem.W.keepIn K (.ref fTa) = true)
    (aPi : PySem.W.nsIn K mainGlobals "_law_pick" = some (some (.ref fPi)))
    (lPi : K.lookup fPi = some ⟨ocPi, odPi, .func (PySem.W.fnOf "_law_pick" "_law_pick" (defArgs sPick) (defBody sPick) (defScope sPick) .none kVPi dcPi pmPi anPi cdPi ctPi), slPi⟩)
    (cPi : PySem.W.codeIn K cdPi "_law_pick" = true)
    (kPi : PySem.W.keepIn K (.ref fPi) = true)
    (aOo : PySem.W.nsIn K mainGlobals "_law_one_of" = some (some (.ref fOo)))
    (lOo : K.lookup fOo = some ⟨ocOo, odOo, .func (PySem.W.fnOf "_law_one_of" "_law_one_of" (defArgs sOneOf) (defBody sOneOf) (defScope sOneOf) .none kVOo dcOo pmOo anOo cdOo ctOo), slOo⟩)
    (cOo : PySem.W.codeIn K cdOo "_law_one_of" = true)
    (kOo : PySem.W.keepIn K (.ref fOo) = true)
    (aPa : PySem.W.nsIn K mainGlobals "_law_path" = some (some (.ref fPa)))
    (lPa : K.lookup fPa = some ⟨ocPa, odPa, .func (PySem.W.fnOf "_law_path" "_law_path" (defArgs sPath) (defBody sPath) (defScope sPath) .none kVPa dcPa pmPa anPa cdPa ctPa), slPa⟩)
    (cPa : PySem.W.codeIn K cdPa "_law_path" = true)
    (kPa : PySem.W.keepIn K (.ref fPa) = true)
    (aLB : PySem.W.nsIn K mainGlobals "_law_begins" = some (some (.ref fLB)))
    (lLB : K.lookup fLB = some ⟨ocLB, odLB, .func (PySem.W.fnOf "_law_begins" "_law_begins" (defArgs sLBegins) (defBody sLBegins) (defScope sLBegins) .none kVLB dcLB pmLB anLB cdLB ctLB), slLB⟩)
    (cLB : PySem.W.codeIn K cdLB "_law_begins" = true)
    (kLB : PySem.W.keepIn K (.ref fLB) = true)
    (aLC : PySem.W.nsIn K mainGlobals "_law_covers" = some (some (.ref fLC)))
    (lLC : K.lookup fLC = some ⟨ocLC, odLC, .func (PySem.W.fnOf "_law_covers" "_law_covers" (defArgs sLCov) (defBody sLCov) (defScope sLCov) .none kVLC dcLC pmLC anLC cdLC ctLC), slLC⟩)
    (cLC : PySem.W.codeIn K cdLC "_law_covers" = true)
    (kLC : PySem.W.keepIn K (.ref fLC) = true)
    (aLF : PySem.W.nsIn K mainGlobals "_law_fewest" = some (some (.ref fLF)))
    (lLF : K.lookup fLF = some ⟨ocLF, odLF, .func (PySem.W.fnOf "_law_fewest" "_law_fewest" (defArgs sLFew) (defBody sLFew) (defScope sLFew) .none kVLF dcLF pmLF anLF cdLF ctLF), slLF⟩)
    (cLF : PySem.W.codeIn K cdLF "_law_fewest" = true)
    (kLF : PySem.W.keepIn K (.ref fLF) = true)
    (aDr : PySem.W.nsIn K mainGlobals "_law_drawn" = some (some (.ref fDr)))
    (lDr : K.lookup fDr = some ⟨ocDr, odDr, .func (PySem.W.fnOf "_law_drawn" "_law_drawn" (defArgs sDrawn) (defBody sDrawn) (defScope sDrawn) .none kVDr dcDr pmDr anDr cdDr ctDr), slDr⟩)
    (cDr : PySem.W.codeIn K cdDr "_law_drawn" = true)
    (kDr : PySem.W.keepIn K (.ref fDr) = true)
    (aOd : PySem.W.nsIn K mainGlobals "_law_odd" = some (some (.ref fOd)))
    (lOd : K.lookup fOd = some ⟨ocOd, odOd, .func (PySem.W.fnOf "_law_odd" "_law_odd" (defArgs sOdd) (defBody sOdd) (defScope sOdd) .none kVOd dcOd pmOd anOd cdOd ctOd), slOd⟩)
    (cOd : PySem.W.codeIn K cdOd "_law_odd" = true)
    (kOd : PySem.W.keepIn K (.ref fOd) = true)
    (aCt : PySem.W.nsIn K mainGlobals "_law_caught" = some (some (.ref fCt)))
    (lCt : K.lookup fCt = some ⟨ocCt, odCt, .func (PySem.W.fnOf "_law_caught" "_law_caught" (defArgs sCaught) (defBody sCaught) (defScope sCaught) .none kVCt dcCt pmCt anCt cdCt ctCt), slCt⟩)
    (cCt : PySem.W.codeIn K cdCt "_law_caught" = true)
    (kCt : PySem.W.keepIn K (.ref fCt) = true)
    (aLaw : PySem.W.nsIn K mainGlobals "law" = some (some (.ref fLaw)))
    (lLaw : K.lookup fLaw = some ⟨ocLaw, odLaw, .func (PySem.W.fnOf "law" "law" (defArgs sLaw) (defBody sLaw) (defScope sLaw) .none kVLaw dcLaw pmLaw anLaw cdLaw ctLaw), slLaw⟩)
    (cLaw : PySem.W.codeIn K cdLaw "law" = true)
    (kLaw : PySem.W.keepIn K (.ref fLaw) = true)
    (aC : PySem.W.nsIn K mainGlobals "Mask" = some (some (.ref C)))
    (aIni : PySem.W.findIn K (.ref C) "__init__" = some (some (.ref fIni)))
    (iIni : PySem.W.isFn K (.ref fIni) = true)
    (lIni : K.lookup fIni = some ⟨ocIni, odIni, .func (PySem.W.fnOf "__init__" "Mask.__init__" (defArgs sInit) (defBody sInit) (defScope sInit) (.ref TIni) kVIni dcIni pmIni anIni cdIni ctIni), slIni⟩)
    (cIni : PySem.W.codeIn K cdIni "Mask.__init__" = true)
    (kIni : PySem.W.keepIn K (.ref fIni) = true)
    (lTIni : K.lookup TIni = some ⟨otIni, dtIni, .seq #[.ref eIni] ntIni, stIni⟩)
    (lEIni : K.lookup eIni = some ⟨.type "tuple", deIni, .seq #[] neIni, seIni⟩)
    (aPth : PySem.W.findIn K (.ref C) "paths" = some (some (.ref pPth)))
    (gPth : PySem.W.specialIn K (.ref pPth) "__get__" = some (some (.builtin "property.__get__")))
    (tPth : PySem.W.takesIn K (.ref pPth) = some true)
    (rPth : PySem.W.recIn K pPth "property" = some (.ref fPth :: restPth))
    (lPth : K.lookup fPth = some ⟨ocPth, odPth, .func (PySem.W.fnOf "paths" "Mask.paths" (defArgs sPaths) (defBody sPaths) (defScope sPaths) .none kVPth dcPth pmPth anPth cdPth ctPth), slPth⟩)
    (cPth : PySem.W.codeIn K cdPth "Mask.paths" = true)
    (kPth : PySem.W.keepIn K (.ref fPth) = true)
    (pgC : PySem.W.plainGet K C Str.empty = true)
    (hdC : PySem.W.hasDictIn K C = true)
    (poC : PySem.W.plainOver K C = true)
    (saC : PySem.W.findIn K (.ref C) "__setattr__" = some (some (.builtin "object.__setattr__")))
    (mkC : PySem.W.makesIn K C = true)
    (kcC : PySem.W.keepIn K (.ref C) = true)
    (caC : PySem.W.findIn K (.ref C) "__class__" = some (some (.builtin "object.__class__")))
    (cmC : PySem.W.mroIn K C (.type "object") = some true)
    (nrowsC : PySem.W.findIn K (.ref C) "rows" = some none)
    (z_isinstance : PySem.W.nsIn K mainGlobals "isinstance" = some none)
    (z_str : PySem.W.nsIn K mainGlobals "str" = some none)
    (z_len : PySem.W.nsIn K mainGlobals "len" = some none)
    (z_all : PySem.W.nsIn K mainGlobals "all" = some none)
    (z_any : PySem.W.nsIn K mainGlobals "any" = some none)
    (z_tuple : PySem.W.nsIn K mainGlobals "tuple" = some none)
    (z_sorted : PySem.W.nsIn K mainGlobals "sorted" = some none)
    (z_int : PySem.W.nsIn K mainGlobals "int" = some none)
    (z_range : PySem.W.nsIn K mainGlobals "range" = some none)
    (z_max : PySem.W.nsIn K mainGlobals "max" = some none)
    (z_min : PySem.W.nsIn K mainGlobals "min" = some none)
    (z_repr : PySem.W.nsIn K mainGlobals "repr" = some none)
    (z_list : PySem.W.nsIn K mainGlobals "list" = some none)
    (z_set : PySem.W.nsIn K mainGlobals "set" = some none)
    (z_super : PySem.W.nsIn K mainGlobals "super" = some none)
    (vLETTERS : PySem.W.nsIn K mainGlobals "LETTERS" = some (some (.str "abcdefghijklmnopqrstuvwxyz" tLE)))
    (vMOST : PySem.W.nsIn K mainGlobals "MOST_NAME" = some (some (.int 8 tMO)))
    (gn : PySem.W.specialIn K (.builtin "object.__class__") "__get__" = some (some (.builtin "getset_descriptor.__get__")))
    (gt : PySem.W.takesIn K (.builtin "object.__class__") = some true)
    (hop : PySem.W.nsIn K cStatics "thirdparty.any" = some none)
    (htop : (l.prog.main.scope.names.lookup ("super" : Str)).isSome = false)
    (aCB : PySem.W.nsIn K mainGlobals "BadMask" = some (some (.ref CB)))
    (oCB : K.lookup CB = some (excClassObj nmB qnB CB nsB bsB (.ref CM :: PySem.HandSPX.veTail) true snB subB abB colB ddB kaB kbB kcB kdB keB "ValueError.__new__"))
    (saB : PySem.W.findIn K (.ref CB) "__setattr__" = some (some (.builtin "object.__setattr__")))
    (exB : PySem.W.subIn K (.ref CB) (.type "BaseException") = some true)
    (tyB : PySem.W.typeIn K (.ref CB) = some (.type "type"))
    (kCB : PySem.W.keepIn K (.ref CB) = true)
    (gaB : PySem.W.findIn K (.ref CB) "__getattribute__" = some (some (.builtin "BaseException.__getattribute__")))
    (ggB : PySem.W.findIn K (.ref CB) "__getattr__" = some none)
    (hdB : PySem.W.hasDictIn K CB = true)
    (noB : PySem.W.findIn K (.ref CB) "value" = some none)
    (suB : PySem.W.subIn K (.ref CB) (.ref CB) = some true)
    (aIB : PySem.W.findIn K (.ref CB) "__init__" = some (some (.ref fIB)))
    (tIB : PySem.W.typeIn K (.ref fIB) = some (.type "function"))
    (lIB : K.lookup fIB = some ⟨ocB, odB, .func (PySem.W.ksFn "__init__" "BadMask.__init__" (defArgs sIB) (defBody sIB) (defScope sIB) .none kVB dcB pmB anB (.ref cdaB) ctB ccB), slB⟩)
    (cIB : PySem.W.codeIn K (.ref cdaB) "BadMask.__init__" = true)
    (hcB : K.lookup cdaB = some ⟨cclB, cddB, .fields vsB, ccsB⟩)
    (hvB : vsB[2]? = some (.str fiB tfB))
    (hfB : ((l.prog.main.file : Str) == fiB) = true)
    (hlB : K.lookup ccB = some ⟨clB, cldB, .cell (some (.ref CB)), cslB⟩)
    (hsB : PySem.W.ks_superIn K CB CB "__init__" = some (some (.builtin "ValueError.__init__")))
    : ∃ fd : FuncData, (∀ (s : Shared) (v : Value), BindsTo s fd ⟨[v], []⟩ [("script", v)]) ∧ ∀ base : Heap, K.In base → base.Ns mainGlobals mg → FnG l.prog w K mg base 8 fa fd ["script"] (spLaw K) := by
  have e0 := hfa.symm.trans (PySem.W.mg_of X G aLaw)
  cases e0
  refine ⟨PySem.W.fnOf "law" "law" (defArgs sLaw) (defBody sLaw) (defScope sLaw) .none kVLaw dcLaw pmLaw anLaw cdLaw ctLaw, fun s v => .of_eq rfl, fun base _ _ => ?_⟩
  have m_isinstance := PySem.W.mg_none_of X G z_isinstance
  have m_str := PySem.W.mg_none_of X G z_str
  have m_len := PySem.W.mg_none_of X G z_len
  have m_all := PySem.W.mg_none_of X G z_all
  have m_any := PySem.W.mg_none_of X G z_any
  have m_tuple := PySem.W.mg_none_of X G z_tuple
  have m_sorted := PySem.W.mg_none_of X G z_sorted
  have m_int := PySem.W.mg_none_of X G z_int
  have m_range := PySem.W.mg_none_of X G z_range
  have m_max := PySem.W.mg_none_of X G z_max
  have m_min := PySem.W.mg_none_of X G z_min
  have m_repr := PySem.W.mg_none_of X G z_repr
  have m_list := PySem.W.mg_none_of X G z_list
  have m_set := PySem.W.mg_none_of X G z_set
  have m_super := PySem.W.mg_none_of X G z_super
  have m_vLETTERS := PySem.W.mg_of X G vLETTERS
  have m_vMOST := PySem.W.mg_of X G vMOST
  have m_C := PySem.W.mg_of X G aC
  have FIl := fun_mk (st := sIsLetters) lIl cIl kIl
  have bIl := FIl.binds (ps := ["value", "least", "most"]) fun _ _ _ _ _ _ us hl => match us, hl with | [_, _, _], _ => rfl
  have FIn := fun_mk (st := sIsName) lIn cIn kIn
  have bIn := FIn.binds (ps := ["value"]) fun _ _ _ _ _ _ us hl => match us, hl with | [_], _ => rfl
  have FIr := fun_mk (st := sIsRow) lIr cIr kIr
  have bIr := FIr.binds (ps := ["value"]) fun _ _ _ _ _ _ us hl => match us, hl with | [_], _ => rfl
  have FBe := fun_mk (st := sBegins) lBe cBe kBe
  have bBe := FBe.binds (ps := ["path", "front"]) fun _ _ _ _ _ _ us hl => match us, hl with | [_, _], _ => rfl
  have FCo := fun_mk (st := sCovers) lCo cCo kCo
  have bCo := FCo.binds (ps := ["paths", "path"]) fun _ _ _ _ _ _ us hl => match us, hl with | [_, _], _ => rfl
  have FFe := fun_mk (st := sFewest) lFe cFe kFe
  have bFe := FFe.binds (ps := ["paths"]) fun _ _ _ _ _ _ us hl => match us, hl with | [_], _ => rfl
  have FTa := fun_mk (st := sTape) lTa cTa kTa
  have bTa := FTa.binds (ps := ["script", "start"]) fun _ _ _ _ _ _ us hl => match us, hl with | [_, _], _ => rfl
  have FPi := fun_mk (st := sPick) lPi cPi kPi
  have bPi := FPi.binds (ps := ["tape", "many"]) fun _ _ _ _ _ _ us hl => match us, hl with | [_, _], _ => rfl
  have FOo := fun_mk (st := sOneOf) lOo cOo kOo
  have bOo := FOo.binds (ps := ["tape", "items"]) fun _ _ _ _ _ _ us hl => match us, hl with | [_, _], _ => rfl
  have FPa := fun_mk (st := sPath) lPa cPa kPa
  have bPa := FPa.binds (ps := ["tape"]) fun _ _ _ _ _ _ us hl => match us, hl with | [_], _ => rfl
  have FLB := fun_mk (st := sLBegins) lLB cLB kLB
  have bLB := FLB.binds (ps := ["path", "front"]) fun _ _ _ _ _ _ us hl => match us, hl with | [_, _], _ => rfl
  have FLC := fun_mk (st := sLCov) lLC cLC kLC
  have bLC := FLC.binds (ps := ["paths", "path"]) fun _ _ _ _ _ _ us hl => match us, hl with | [_, _], _ => rfl
  have FLF := fun_mk (st := sLFew) lLF cLF kLF
  have bLF := FLF.binds (ps := ["paths"]) fun _ _ _ _ _ _ us hl => match us, hl with | [_], _ => rfl
  have FDr := fun_mk (st := sDrawn) lDr cDr kDr
  have bDr := FDr.binds (ps := ["tape"]) fun _ _ _ _ _ _ us hl => match us, hl with | [_], _ => rfl
  have FOd := fun_mk (st := sOdd) lOd cOd kOd
  have bOd := FOd.binds (ps := ["tape"]) fun _ _ _ _ _ _ us hl => match us, hl with | [_], _ => rfl
  have FCt := fun_mk (st := sCaught) lCt cCt kCt
  have bCt := FCt.binds (ps := ["paths"]) fun _ _ _ _ _ _ us hl => match us, hl with | [_], _ => rfl
  have FLaw := fun_mk (st := sLaw) lLaw cLaw kLaw
  have FIni : FunD K "__init__" "Mask.__init__" (defArgs sInit) (defBody sInit) (defScope sInit) [V.ref eIni] [] fIni _ := ⟨⟨_, _, _, _, _, _, _, _, _, _, rfl, lIni, cIni, .inr ⟨(fun z => nomatch z), TIni, _, [.ref eIni], _, rfl, lTIni, rfl, .cons rfl .nil⟩, .inl rfl⟩, kIni⟩
  have FPth := fun_mk (st := sPaths) lPth cPth kPth
  have bPth := FPth.binds (ps := ["self"]) fun _ _ _ _ _ _ us hl => match us, hl with | [_], _ => rfl
  have TN : TxtN K mg := ⟨m_isinstance, m_str, m_len, m_all, ⟨_, m_vLETTERS⟩, ⟨_, m_vMOST⟩⟩
  have TR : TxtR mg := ⟨m_isinstance, m_tuple, m_len, m_all, m_any⟩
  have TF : TxtF mg := ⟨m_sorted, m_any⟩
  have TT : TxtT mg := ⟨m_int, m_len, m_range, m_tuple⟩
  have T : TxtM K mg C := ⟨m_isinstance, m_tuple, m_all, ⟨pgC, hdC, poC, saC⟩, nrowsC, m_C, caC, gn, gt, cmC⟩
  have DIl : Df l.prog w K mg base 1 fIl "is_letters" ["value", "least", "most"] (spIsLetters K) := ⟨⟨_, ok_is_letters FIl TN, bIl⟩, PySem.W.mg_of X G aIl, kIl⟩
  have DIn : Df l.prog w K mg base 2 fIn "is_name" ["value"] (spIsName K) := ⟨⟨_, ok_is_name FIn TN DIl, bIn⟩, PySem.W.mg_of X G aIn, kIn⟩
  have DIr : Df l.prog w K mg base 3 fIr "is_row" ["value"] (spIsRow K) := ⟨⟨_, ok_is_row FIr TR DIn, bIr⟩, PySem.W.mg_of X G aIr, kIr⟩
  have DBe : Df l.prog w K mg base 1 fBe "begins" ["path", "front"] (spBegins) := ⟨⟨_, ok_begins FBe TR, bBe⟩, PySem.W.mg_of X G aBe, kBe⟩
  have DCo : Df l.prog w K mg base 2 fCo "covers" ["paths", "path"] (spCovers) := ⟨⟨_, ok_covers FCo TR DBe, bCo⟩, PySem.W.mg_of X G aCo, kCo⟩
  have DFe : Df l.prog w K mg base 2 fFe "fewest" ["paths"] (spFewest K) := ⟨⟨_, ok_fewest FFe TF DBe, bFe⟩, PySem.W.mg_of X G aFe, kFe⟩
  have DTa : Df l.prog w K mg base 1 fTa "_law_tape" ["script", "start"] (spTape K) := ⟨⟨_, ok_tape FTa TT, bTa⟩, PySem.W.mg_of X G aTa, kTa⟩
  have DPi : Df l.prog w K mg base 1 fPi "_law_pick" ["tape", "many"] (spPick) := ⟨⟨_, ok_pick FPi TT, bPi⟩, PySem.W.mg_of X G aPi, kPi⟩
  have DOo : Df l.prog w K mg base 2 fOo "_law_one_of" ["tape", "items"] (spOneOf K) := ⟨⟨_, ok_one_of FOo TT DPi, bOo⟩, PySem.W.mg_of X G aOo, kOo⟩
  have DPa : Df l.prog w K mg base 3 fPa "_law_path" ["tape"] (spPath NM) := ⟨⟨_, ok_path FPa TT DPi DOo, bPa⟩, PySem.W.mg_of X G aPa, kPa⟩
  have DDr : Df l.prog w K mg base 4 fDr "_law_drawn" ["tape"] (spDrawn NM) := ⟨⟨_, ok_drawn FDr TT DPi DPa, bDr⟩, PySem.W.mg_of X G aDr, kDr⟩
  obtain ⟨dz2, vz2, bz2⟩ := FIni.binds1 (ps := ["self", "paths"]) 2 1 (fun z => nomatch z) rfl (fun _ _ _ _ _ _ _ us its h1 h2 => match us, its, h1, h2 with | [_, _], [_], _, _ => ⟨_, rfl, rfl⟩)
  cases vz2
  obtain ⟨dz1, vz1, bz1⟩ := FIni.binds1 (ps := ["self", "paths"]) 1 0 (fun z => nomatch z) rfl (fun _ _ _ _ _ _ _ us its h1 h2 => match us, its, h1, h2 with | [_], [_], _, _ => ⟨_, rfl, rfl⟩)
  obtain ⟨iz, kz⟩ := FIni.kbindsD (ps := ["self", "paths"]) 1 ["paths"] (fun us _ ws => us ++ ws) (fun z => nomatch z) (fun r _ z => r.append z) (fun _ _ _ _ _ _ _ us its ws h1 h2 h3 => match us, its, ws, h1, h2, h3 with | [_], [_], [_], _, _, _ => ⟨_, rfl, rfl⟩)
  have oI := ok_init (P := l.prog) (w := w) (mg := mg) (base := base) FIni T DIr DFe
  have mkI : Mk K C fIni := ⟨mkC, aIni, iIni, kcC⟩
  have M : MkM l.prog w K mg base C := ⟨⟨_, _, mkI, oI, bz2⟩⟩
  have M0 : MkD l.prog w K mg base C := ⟨⟨_, _, eIni, _, mkI, oI, bz1, vz1, fun H => .inr ⟨_, #[], _, lEIni, rfl, rfl, Nat.zero_le _, .nil⟩⟩⟩
  have MK : MkK l.prog w K mg base C := ⟨⟨_, _, mkI, oI, kz⟩⟩
  have DPth : Pr l.prog w K mg base C 1 "paths" (spPathsM C) := ⟨⟨_, _, _, ⟨aPth, gPth, tPth, ⟨_, rPth⟩⟩, ok_paths FPth T m_list, bPth⟩⟩
  have DLB : Df l.prog w K mg base 1 fLB "_law_begins" ["path", "front"] spBegins := ⟨⟨_, ok_lbegins FLB TR, bLB⟩, PySem.W.mg_of X G aLB, kLB⟩
  have DLC : Df l.prog w K mg base 2 fLC "_law_covers" ["paths", "path"] (spLCov K) := ⟨⟨_, ok_lcov FLC DLB, bLC⟩, PySem.W.mg_of X G aLC, kLC⟩
  have DLF : Df l.prog w K mg base 3 fLF "_law_fewest" ["paths"] (spLFew K) := ⟨⟨_, ok_lfew FLF ⟨m_sorted, m_set⟩ DLC, bLF⟩, PySem.W.mg_of X G aLF, kLF⟩
  have gB := PySem.W.mg_of X G aCB
  have TB : OexC K CB := ⟨⟨_, _, _, _, _, _, _, _, _, _, _, _, _, _, _,  oCB, rfl⟩, saB, exB, tyB, kCB⟩
  have TX : ErC l.prog w K mg base 1 "BadMask" CB "value" "value" := ⟨TB, gB, fIB, _, aIB, tIB, ok_errB lIB cIB hcB hvB hfB htop hlB m_super hop hsB TB noB, fun _ _ _ => .of_eq rfl, fun _ _ _ => .of_eq rfl⟩
  have ex1 : PySem.W.exmOne K (.ref CB) (.ref CB) = some true := PySem.W.exm_ref exB hdB tyB suB
  have xf : XfC K CB := ⟨gaB, ggB, exB, hdB⟩
  have MX : MkX l.prog w K mg base C CB := ⟨_, _, mkI, ok_initX FIni T TX DIr DFe, bz2⟩
  have DFeH : DfH l.prog w K mg base 1 "fewest" ["paths"] (spFewest0 K) := ⟨⟨_, _, ok_fewestH FFe TF, PySem.W.mg_of X G aFe, kFe, bFe⟩⟩
  have MH : HotM l.prog w K mg base C := ⟨⟨_, _, eIni, _, mkI, ok_initH FIni T DFeH, bz2, bz1, vz1, fun H => .inr ⟨_, #[], _, lEIni, rfl, rfl, Nat.zero_le _, .nil⟩⟩, ⟨_, _, _, ⟨aPth, gPth, tPth, ⟨_, rPth⟩⟩, ok_pathsH FPth T m_list, bPth⟩⟩
  have DCt : Df l.prog w K mg base 6 fCt "_law_caught" ["paths"] (spCaught K) := ⟨⟨_, ok_caught FCt T gB xf noB ex1 MX, bCt⟩, PySem.W.mg_of X G aCt, kCt⟩
  have DOd : Df l.prog w K mg base 3 fOd "_law_odd" ["tape"] (spOdd K) := ⟨⟨_, ok_odd FOd DOo, bOd⟩, PySem.W.mg_of X G aOd, kOd⟩
  exact ok_law FLaw T ⟨m_len, m_max, m_min, m_range, m_repr, m_list⟩ gB xf noB ex1 DTa DDr DPi DOo DOd DCt M MX MH DPth DLF
theorem walk {l : PySem.W.OpenLaw} {q : Program} {loose : List Str} {XP : (Str → Option Value) → Heap → Prop} {YP : World → Heap → Prop} {d : DefRec} {K : Params → PySem.W.Frag} (hn : l.most = some 63) (hdf : d.params.defaults = [])
    (hY : ∀ (w : World) (h : Heap), YP w h → (K w.params).In h)
    (F : ∀ (w : World) (mg : Str → Option Value) (fa : Addr) (h : Heap), (K w.params).In h → h.Ns mainGlobals mg → mg d.name = some (.ref fa) →
      ∃ fd : FuncData, (∀ (s : Shared) (u : Value), BindsTo s fd ⟨[u], []⟩ [("script", u)]) ∧ ∀ base : Heap, (K w.params).In base → base.Ns mainGlobals mg → FnG l.prog w (K w.params) mg base 8 fa fd ["script"] (spLaw (K w.params))) :
    PySem.W.WalkO q loose XP YP l.row.toRowW d [] (fun f vs => PySem.call f vs) :=
  walkG (n := 63) (k := 8) (x := "script") (sp := fun w => spLaw (K w.params)) hn (by decide) hdf ⟨rfl, by decide, by decide⟩ hY F (fun _ _ a ns hl hb _ hS => ⟨a, ns, rfl, hS, hl, hb, fun _ => rfl⟩)
end Lw

open PySem PySem.W PyProof.Rows in
set_option maxRecDepth 100000 in
set_option maxHeartbeats 0 in
theorem PySem.Challenge.cw_maskwrites_k09_masks_made_holds : PySem.Challenge.rw_maskwrites_k09_masks_made.Holds := by
  w_on; o_law; k_head; (case hw => w_witness2)
  k_fill
  refine Lw.walk (l := PySem.Challenge.rw_maskwrites_k09_masks_made) rfl rfl (fun w h Y => PySem.W.kIn_of Y) ?F
  case F =>
    intro w mg fa h KX G hmg
    refine' Lw.all_mk KX G hmg ?aIl ?lIl ?cIl ?kIl ?aIn ?lIn ?cIn ?kIn ?aIr ?lIr ?cIr ?kIr ?aBe ?lBe ?cBe ?kBe ?aCo ?lCo ?cCo ?kCo ?aFe ?lFe ?cFe ?kFe ?aTa ?lTa ?cTa ?kTa ?aPi ?lPi ?cPi ?kPi ?aOo ?lOo ?cOo ?kOo ?aPa ?lPa ?cPa ?kPa ?aLB ?lLB ?cLB ?kLB ?aLC ?lLC ?cLC ?kLC ?aLF ?lLF ?cLF ?kLF ?aDr ?lDr ?cDr ?kDr ?aOd ?lOd ?cOd ?kOd ?aCt ?lCt ?cCt ?kCt ?aLaw ?lLaw ?cLaw ?kLaw ?aC ?aIni ?iIni ?lIni ?cIni ?kIni ?lTIni ?lEIni ?aPth ?gPth ?tPth ?rPth ?lPth ?cPth ?kPth ?pgC ?hdC ?poC ?saC ?mkC ?kcC ?caC ?cmC ?nrowsC ?z_isinstance ?z_str ?z_len ?z_all ?z_any ?z_tuple ?z_sorted ?z_int ?z_range ?z_max ?z_min ?z_repr ?z_list ?z_set ?z_super ?vLETTERS ?vMOST ?gn ?gt ?hop ?htop ?aCB ?oCB ?saB ?exB ?tyB ?kCB ?gaB ?ggB ?hdB ?noB ?suB ?aIB ?tIB ?lIB ?cIB ?hcB ?hvB ?hfB ?hlB ?hsB
    (case aIl => k_is)
    (case lIl => k_is)
    (case cIl => k_is)
    (case kIl => k_is)
    (case aIn => k_is)
    (case lIn => k_is)
    (case cIn => k_is)
    (case kIn => k_is)
    (case aIr => k_is)
    (case lIr => k_is)
    (case cIr => k_is)
    (case kIr => k_is)
    (case aBe => k_is)
    (case lBe => k_is)
    (case cBe => k_is)
    (case kBe => k_is)
    (case aCo => k_is)
    (case lCo => k_is)
    (case cCo => k_is)
    (case kCo => k_is)
    (case aFe => k_is)
    (case lFe => k_is)
    (case cFe => k_is)
    (case kFe => k_is)
    (case aTa => k_is)
    (case lTa => k_is)
    (case cTa => k_is)
    (case kTa => k_is)
    (case aPi => k_is)
    (case lPi => k_is)
    (case cPi => k_is)
    (case kPi => k_is)
    (case aOo => k_is)
    (case lOo => k_is)
    (case cOo => k_is)
    (case kOo => k_is)
    (case aPa => k_is)
    (case lPa => k_is)
    (case cPa => k_is)
    (case kPa => k_is)
    (case aLB => k_is)
    (case lLB => k_is)
    (case cLB => k_is)
    (case kLB => k_is)
    (case aLC => k_is)
    (case lLC => k_is)
    (case cLC => k_is)
    (case kLC => k_is)
    (case aLF => k_is)
    (case lLF => k_is)
    (case cLF => k_is)
    (case kLF => k_is)
    (case aDr => k_is)
    (case lDr => k_is)
    (case cDr => k_is)
    (case kDr => k_is)
    (case aOd => k_is)
    (case lOd => k_is)
    (case cOd => k_is)
    (case kOd => k_is)
    (case aCt => k_is)
    (case lCt => k_is)
    (case cCt => k_is)
    (case kCt => k_is)
    (case aLaw => k_is)
    (case lLaw => k_is)
    (case cLaw => k_is)
    (case kLaw => k_is)
    (case aC => k_is)
    (case aIni => k_is)
    (case iIni => k_is)
    (case lIni => k_is)
    (case cIni => k_is)
    (case kIni => k_is)
    (case lTIni => k_is)
    (case lEIni => k_is)
    (case aPth => k_is)
    (case gPth => k_is)
    (case tPth => k_is)
    (case rPth => k_is)
    (case lPth => k_is)
    (case cPth => k_is)
    (case kPth => k_is)
    (case pgC => k_is)
    (case hdC => k_is)
    (case poC => k_is)
    (case saC => k_is)
    (case mkC => k_is)
    (case kcC => k_is)
    (case caC => k_is)
    (case cmC => k_is)
    (case nrowsC => k_is)
    (case z_isinstance => k_is)
    (case z_str => k_is)
    (case z_len => k_is)
    (case z_all => k_is)
    (case z_any => k_is)
    (case z_tuple => k_is)
    (case z_sorted => k_is)
    (case z_int => k_is)
    (case z_range => k_is)
    (case z_max => k_is)
    (case z_min => k_is)
    (case z_repr => k_is)
    (case z_list => k_is)
    (case z_set => k_is)
    (case z_super => k_is)
    (case vLETTERS => k_is)
    (case vMOST => k_is)
    (case gn => k_is)
    (case gt => k_is)
    (case hop => k_is)
    (case htop => first | rfl | decide +kernel)
    (case aCB => k_is)
    (case oCB => k_is)
    (case saB => k_is)
    (case exB => k_is)
    (case tyB => k_is)
    (case kCB => k_is)
    (case gaB => k_is)
    (case ggB => k_is)
    (case hdB => k_is)
    (case noB => k_is)
    (case suB => k_is)
    (case aIB => k_is)
    (case tIB => k_is)
    (case lIB => k_is)
    (case cIB => k_is)
    (case hcB => k_is)
    (case hvB => rfl)
    (case hfB => first | rfl | decide +kernel)
    (case hlB => k_is)
    (case hsB => ks_is)
#print axioms PySem.Challenge.cw_maskwrites_k09_masks_made_holds

