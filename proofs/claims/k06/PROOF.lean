import PyProof.Rows.All
import Wide.All
import OpenK.AllK
import Wide.FinOn
import HandS.ForMost
import HandS.DictComp
import HandS.Conv
import HandS.IsInst
import HandS.Star
import HandS.MakeKw
import HandS.TupAny
import HandS.OwnEq
import HandS.Wide
import HandS.EndBits
import HandS.Keys
import KE.KSortTupG
import HandS.Defaults
import PyProof.InstEq
import HandS.Walk
import PyProof.ReprRoads
import PySem.Challenge.RW_maskwrites_k06_values_of_paths
import PyProof.RulesMatch
import PyProof.RulesMatchSeq
import PyProof.Rows.MatchSeqLen
import HandS.Iter
import HandS.Dict
import HandS.WordsDict
import PyProof.Rows.CallKwBuiltin
import KE.DataMinMax
import HandS.More
import HandS.Strs
import HandS.TupSets
import PyProof.SetRoads
import PyProof.Rows.SetFrom
import HandS.Zip
import HandS.SortOrd
import HandS.Comp
import HandS.List
import PyProof.EqAt
import PyProof.EqKinds
import PyProof.P3Eq
import PyProof.CallFns
import KE.LtData
import HandS.RaiseMore
import KE.KSuper
import KE.KExcSuper
import HandS.ExcInit
import HandS.ExcSuper
import KE.KExcIs
import HandS.ExcField
import HandS.ExcCtx
import HandS.WordsExc
import HandS.NoneIn
import HandS.ExcOwn
import PyProof.Rows.TupIter
import HandS.Text
import KE.IntBitsLaws
import HandS.SortInts
import HandS.SortKw
import PyProof.Rows.SortKeyStr
import PyProof.Rows.SortStr
import PyProof.Rows.StrMeet
import HandS.MakeKwOnly
import PyProof.StrLawsRepr
import PyProof.ReprLoop
import PyProof.NeKinds
import HandS.DictSub
import PyProof.Rows.DictListFold
import PyProof.StrOps2
import PyProof.FitsStr
import OpenK.KOps
import HandS.Property
import HandS.TryOnly
import PyProof.CallStr
import HandS.Style
import HandS.HotCalls
import HandS.ExcInitHot
import KE.RegKSuper
import HandS.ExcIs
set_option Elab.async false
set_option linter.all false
set_option maxRecDepth 100000
set_option maxHeartbeats 4000000
/-! Gk: what the masks' laws want beyond the hand layer. -/
namespace Gk
open PySem PySem.Spec PyProof.Rows L2

/-! ### great numbers -/
abbrev nbits (i : Int) : Nat := Builtin.Int.intBits i
def CMulB (i j : Int) : Prop := nbits i + nbits j ≤ 134217728
def CPowB (i j : Int) : Prop := 0 ≤ j ∧ (nbits i : Int) * j ≤ 134217728
section
variable {X : Cx}
theorem op_mulB : OpR X (binaryOp .Mult) (rI CMulB fun i j => .int (i * j)) :=
  opI fun i j _ _ _ _ _ hc q => mul_int q (IntMulOk.of_le (Nat.le_refl _) (Nat.le_refl _) hc)
theorem op_powB : OpR X (binaryOp .Pow) (rI CPowB fun i j => .int (i ^ j.toNat)) :=
  opI fun i j _ _ _ _ _ hc q => pow_int hc.1 hc.2 q
end

/-! ### either way -/
section
variable {X : Cx}
theorem pi_or {tg it : Expr} {w1 w2 : TI} (h1 : PI X tg it w1) (h2 : PI X tg it w2) : PI X tg it (fun st H R => w1 st H R ∨ w2 st H R) :=
  ⟨fun ps s st H R I h => h.elim (h1.run ps s st H R I) (h2.run ps s st H R I)⟩
theorem pe_or2 {e : Expr} {t1 t2 : TE} (h1 : PE X e t1) (h2 : PE X e t2) : PE X e (fun st H Q => t1 st H Q ∨ t2 st H Q) :=
  ⟨fun ps s st H Q I h => h.elim (h1.run ps s st H Q I) (h2.run ps s st H Q I)⟩
theorem cr_or {f : Value} {r1 r2 : List V → Hp → VK → Prop} (h1 : CallR X f r1) (h2 : CallR X f r2) : CallR X f (fun vs H Q => r1 vs H Q ∨ r2 vs H Q) :=
  fun ps s st H xs us Q I r h => h.elim (h1 ps s st H xs us Q I r) (h2 ps s st H xs us Q I r)
end

/-! ### a dict made by a comprehension, whatever its keys -/
/-- what a turn's store asks: the dict's place, key, value, heap, what is wanted behind -/
abbrev TStore := Addr → V → V → Hp → (Hp → Prop) → Prop
structure StoreOk (P : Program) (w : World) (A : Around) (new : HO) (t : TStore) : Prop where
  fresh : ∀ (H : Hp) (h : Heap), sysModules < h.objs.size → ObjOk P w H (h.push { cls := .type "dict", data := .dict #[] }) h.objs.size new
  store : ∀ (X : Cx) (ps : List (Addr × Obj)) (st : L2.St) (H : Hp) (s : Shared) (D : Addr) (y z : V) (u r : Value) (R : Hp → Prop), X.prog = P → X.w = w → X.A = A →
    Inv X ps st H s → RelV y u → RelV z r → t D y z H R → wpAny (model P w) A (dictSet D u r) (fun _ s2 => ∃ H2, Inv X ps st H2 s2 ∧ R H2) X.xe s
def tDcG (new : HO) (t : TStore) (wi : TI) (g : TG) (tt : TT) (tk tv : TE) (vs : List Nat) : TE := fun st H Q => wi st H fun J H1 =>
  ∀ D, H1 D = none → ∃ W : Nat → Nat → Hp → Prop, (∃ m, W 0 m (upd H1 D new)) ∧ ∀ i m Ha, W i m Ha →
    (J.stop i Ha ∧ Q (.ref D) Ha) ∨
    (J.go i Ha ∧ ∃ Nx : Hp → Prop, (∀ Hb, Nx Hb → ∃ m2, m2 < m ∧ W (i + 1) m2 Hb) ∧ ∀ x Hb, J.yld i Ha x Hb →
      g x (wipe st vs) Hb fun st2 H2 => wipe st2 vs = wipe st vs ∧ tt st2 H2 fun b H3 =>
        if b = true then tk st2 H3 fun y H4 => tv st2 H4 fun z H5 => t D y z H5 Nx else Nx H3)

theorem dcG_core {X : Cx} {ps : List (Addr × Obj)} {s : Shared} {st : L2.St} {H : Hp} {Q : VK} {kx vx tg iter : Expr} {ifs : List Expr} {sc : Scope} {own : List (Str × Nat)} {pos pos2 : Pos}
    {wi : TI} {g : TG} {tt : TT} {tk tv : TE} {new : HO} {t : TStore} {Qf : Value → Shared → Prop}
    (so : StoreOk X.prog X.w X.A new t) (calm : X.calm = true) (nd : X.N.Nodup) (I : Inv X ps st H s) (walk : PI X tg iter wi) (ok : BlkOk X.N X.env.scope sc own)
    (pgA : ∀ (s : Shared) (H : Hp) (C : Addr) (cl : List (Str × Addr)) (fp : List Addr), PG (X.blk s H sc (compEnvC sc cl C X.env) fp) tg g)
    (ptA : ∀ (s : Shared) (H : Hp) (C : Addr) (cl : List (Str × Addr)) (fp : List Addr), PTs (X.blk s H sc (compEnvC sc cl C X.env) fp) ifs tt)
    (pkA : ∀ (s : Shared) (H : Hp) (C : Addr) (cl : List (Str × Addr)) (fp : List Addr), PE (X.blk s H sc (compEnvC sc cl C X.env) fp) kx tk)
    (pvA : ∀ (s : Shared) (H : Hp) (C : Addr) (cl : List (Str × Addr)) (fp : List Addr), PE (X.blk s H sc (compEnvC sc cl C X.env) fp) vx tv)
    (hs : ∀ x, foldedSetIterable iter X.env x = pure x) (h : tDcG new t wi g tt tk tv (own.map (·.2)) st H Q)
    (fin : ∀ D C s2 m H2, Inv X ps st H2 s2 → Q (.ref D) H2 → s2.heap.Ns C m → FpOk X ps H2 C → compPost (model X.prog X.w) X.A X.xe none Qf (.ref D) C (.ok .next) s2) :
    wpAny (model X.prog X.w) X.A (comprehension (.DictComp kx vx [⟨tg, iter, ifs, 0⟩] sc pos) sc X.env pos2 newDict false (eval iter X.env) none) Qf X.xe s := by
  have free : ∀ y ∈ sc.names, y.2 = .free → ∃ c, X.env.cells.lookup y.1 = some c := by
    intro y hy e
    exact I.ok.has _ (ok.free y hy e)
  refine wpAny_comprehension_free (use := none) rfl hs (closure_ok free) ok.kind (fun y hy e => by rw [ok.uniq y hy, e]) ?_
  refine thn (walk.run ps s st H _ I h) fun v0 s1 k1 => thn k1 fun v1 s2 k2 => ?_
  obtain ⟨it, fp, tn, J, H2, rfl, I2, T, at2, f2, q⟩ := k2
  refine wpAny_newObj_type (newEnv_comp ?_)
  have noD : H2 s2.heap.objs.size = none := I2.hok.fresh (Nat.le_refl _)
  obtain ⟨W, ⟨m0, w0⟩, turn⟩ := q _ noD
  generalize eD : s2.heap.objs.size = D at *
  generalize e3 : ({ s2 with heap := s2.heap.push { cls := .type "dict", data := .dict #[] } } : Shared) = s3
  have hp3 : s3.heap = s2.heap.push { cls := .type "dict", data := .dict #[] } := by rw [← e3]
  have I3 : Inv X ps st (upd H2 D new) s3 := by
    rw [← e3, ← eD]
    exact I2.laid (t' := s2.toks) (fun b o e => Heap.get?_push_of_some _ e) (Nat.le_refl _) (so.fresh _ _ I2.big)
  have young : ∀ b ∈ fp, b < D := by
    intro b hb
    obtain ⟨o, e, _⟩ := T.obj _ _ at2 b hb
    rw [← eD]
    exact Heap.lt_size e
  have sz3 : s3.heap.objs.size = D + 1 := by rw [hp3, Heap.size_push, eD]
  have f3 : ∀ b ∈ fp, FpOk X ps (upd H2 D new) b ∧ b < s3.heap.objs.size := by
    intro b hb
    have lt := young b hb
    exact ⟨⟨(upd_ne (Nat.ne_of_lt lt)).trans (f2 b hb).1, (f2 b hb).2⟩, by rw [sz3]; exact Nat.lt_succ_of_lt lt⟩
  have at3 : tn 0 s3.heap := T.keep _ _ _ at2 fun b _ o e => hp3 ▸ Heap.get?_push_of_some _ e
  have I4 := block_start I3 ok nd f3
  show codeAny _ _ (.compStart (.DictComp kx vx [⟨tg, iter, ifs, 0⟩] sc pos) 0 (.ref it) (.ref D) (compEnvC sc (cellsFrom (s3.heap.objs.size + 1) sc.names (cloFrom X.env.cells sc.names [])) s3.heap.objs.size X.env))
    (compPost (model X.prog X.w) X.A X.xe none Qf (.ref D) s3.heap.objs.size) { s3 with heap := pushCells (s3.heap.push { cls := .type "dict", data := .dict #[] }) sc.names }
  generalize eC : cellsFrom (s3.heap.objs.size + 1) sc.names (cloFrom X.env.cells sc.names []) = cells at I4 ⊢
  have pg := pgA s3 (upd H2 D new) s3.heap.objs.size cells fp
  have pt := ptA s3 (upd H2 D new) s3.heap.objs.size cells fp
  have pk := pkA s3 (upd H2 D new) s3.heap.objs.size cells fp
  have pv := pvA s3 (upd H2 D new) s3.heap.objs.size cells fp
  generalize eE : compEnvC sc cells s3.heap.objs.size X.env = ce at I4 pg pt pk pv ⊢
  have loc : ce.locals = s3.heap.objs.size := by rw [← eE] <;> rfl
  generalize eH : upd H2 D new = H3 at I3 I4 pg pt pk pv w0 f3
  generalize e4 : ({ s3 with heap := pushCells (s3.heap.push { cls := .type "dict", data := .dict #[] }) sc.names } : Shared) = s4 at I4 ⊢
  have at4 : tn 0 s4.heap := T.keep _ _ _ at3 fun b _ o e => by
    rw [← e4]
    exact pushCells_keeps _ _ _ _ (Heap.get?_push_of_some _ e)
  have fpo : ∀ {st1 : L2.St} {Ha : Hp} {sa : Shared}, Inv (X.blk s3 H3 sc ce fp) [] st1 Ha sa → (∀ b ∈ fp, Ha b = none) → ∀ b ∈ fp, FpOk (X.blk s3 H3 sc ce fp) [] Ha b := by
    intro st1 Ha sa Ia hn b hb
    have e := Ia.ok.exf b hb
    exact ⟨hn b hb, e.1, Ia.ok.exfs b hb, .inl hb, fun x c z => e.2 x c z, fun p hp => absurd (show p ∈ ([] : List (Addr × Obj)) from hp) List.not_mem_nil⟩
  have loop : codeAny (model X.prog X.w) X.A (.compLoop (.DictComp kx vx [⟨tg, iter, ifs, 0⟩] sc pos) 0 (.ref it) (.ref D) ce) (compPost (model X.prog X.w) X.A X.xe none Qf (.ref D) s3.heap.objs.size) s4 := by
    refine compLoop_anyD (fun n sa => ∃ i Ha, Inv (X.blk s3 H3 sc ce fp) [] (wipe st (own.map (·.2))) Ha sa ∧ tn i sa.heap ∧ (∀ b ∈ fp, Ha b = none) ∧ W i n Ha) ?_ m0 ⟨0, H3, I4, at4, fun b hb => (f3 b hb).1.1, w0⟩
    rintro n s5 ⟨i, H5, I5, at5, n5, w5⟩
    rcases turn i n H5 w5 with ⟨stop, qq⟩ | ⟨go, Nx, down, step⟩
    · refine thnF (T.done (X.blk s3 H3 sc ce fp) rfl rfl rfl calm i [] s5 _ H5 (fun _ _ => False) I5 (fpo I5 n5) at5 stop) fun r s6 hr => ?_
      obtain ⟨rfl, I6⟩ := hr
      have I7 : Inv X ps st H5 s6 := I3.call' (ch := fp) I6.os I6.base I6.hok I6.bare fun b hb => by
        obtain ⟨⟨_, a1, _, a3, a4, a5⟩, _⟩ := f3 b hb
        exact ⟨a3, a1, a4, a5⟩
      have noC : H5 s3.heap.objs.size = none := loc ▸ I6.free
      obtain ⟨m, hn, _⟩ := I6.loc
      exact fin D s3.heap.objs.size s6 m H5 I7 qq (loc ▸ (show s6.heap.Ns ce.locals m from hn)) (I3.fpOk (Nat.le_refl _) noC)
    · refine thnF (T.item (X.blk s3 H3 sc ce fp) rfl rfl rfl calm i [] s5 _ H5 (fun _ _ => False) I5 (fpo I5 n5) at5 go) fun r s6 hr => ?_
      obtain ⟨u, rfl, k6⟩ := hr
      refine thnF k6 fun _ s7 k7 => ?_
      obtain ⟨x, H7, I7, r7, y7, at7, n7⟩ := k7
      have J7 := I7.pinned (fpo I7 n7) (T.obj _ _ at7)
      refine thnF (pg.run _ s7 _ H7 x u _ J7 r7 (step x H7 y7)) fun _ s8 k8 => ?_
      obtain ⟨st8, H8, I8, ew, q8⟩ := k8
      refine thnF (pt.run _ s8 st8 H8 _ I8 q8) fun b s9 k9 => ?_
      obtain ⟨H9, I9, q9⟩ := k9
      have next : ∀ {sb : Shared} {Hb : Hp}, Inv (X.blk s3 H3 sc ce fp) ([] ++ pinsAt fp s7.heap) st8 Hb sb → Nx Hb →
          ∃ m, m < n ∧ ∃ i Ha, Inv (X.blk s3 H3 sc ce fp) [] (wipe st (own.map (·.2))) Ha sb ∧ tn i sb.heap ∧ (∀ b ∈ fp, Ha b = none) ∧ W i m Ha := by
        intro sb Hb Ib nx
        obtain ⟨m2, lt, w2⟩ := down Hb nx
        have still : ∀ b ∈ fp, ∀ o, s7.heap.get? b = some o → sb.heap.get? b = some o ∧ Hb b = none := by
          intro b hb o e
          have z := Ib.pin (b, o) (List.mem_append_right _ (List.mem_append_right _ (mem_pinsAt hb e)))
          exact ⟨z.1, z.2.1⟩
        have el : (wipe st (own.map (·.2))).length = st8.length := ew ▸ wipe_length _ _
        refine ⟨m2, lt, i + 1, Hb, (Ib.unpinned (pins := [])).weak el fun j v e => (wipe_some (ew ▸ e)).1, T.keep _ _ _ at7 fun b hb o e => (still b hb o e).1, ?_, w2⟩
        intro b hb
        obtain ⟨o, e, _⟩ := T.obj _ _ at7 b hb
        exact (still b hb o e).2
      cases b with
      | false =>
        rw [if_neg Bool.false_ne_true] at q9 ⊢
        exact next I9 q9
      | true =>
        rw [if_pos rfl] at q9 ⊢
        refine thnF (pk.run _ s9 st8 H9 _ I9 q9) fun ku s10 k10 => ?_
        obtain ⟨yk, H10, I10, r10, q10⟩ := k10
        refine thnF (pv.run _ s10 st8 H10 _ I10 q10) fun vu s11 k11 => ?_
        obtain ⟨yv, H11, I11, r11, q11⟩ := k11
        refine thnF (so.store (X.blk s3 H3 sc ce fp) _ st8 H11 s11 D yk yv ku vu Nx rfl rfl rfl I11 r10 r11 q11) fun _ s12 k12 => ?_
        obtain ⟨H12, I12, nx⟩ := k12
        exact next I12 nx
  exact codeAny_compStart_dict loop (T.self X.A 0 _ _ _ at4 loop)

theorem pe_dcG {X : Cx} {kx vx tg iter : Expr} {ifs : List Expr} {sc : Scope} {own : List (Str × Nat)} {pos : Pos} {wi : TI} {g : TG} {tt : TT} {tk tv : TE} {new : HO} {t : TStore}
    (so : StoreOk X.prog X.w X.A new t) (calm : X.calm = true) (nd : X.N.Nodup) (walk : PI X tg iter wi) (ok : BlkOk X.N X.env.scope sc own)
    (pgA : ∀ (s : Shared) (H : Hp) (C : Addr) (cl : List (Str × Addr)) (fp : List Addr), PG (X.blk s H sc (compEnvC sc cl C X.env) fp) tg g)
    (ptA : ∀ (s : Shared) (H : Hp) (C : Addr) (cl : List (Str × Addr)) (fp : List Addr), PTs (X.blk s H sc (compEnvC sc cl C X.env) fp) ifs tt)
    (pkA : ∀ (s : Shared) (H : Hp) (C : Addr) (cl : List (Str × Addr)) (fp : List Addr), PE (X.blk s H sc (compEnvC sc cl C X.env) fp) kx tk)
    (pvA : ∀ (s : Shared) (H : Hp) (C : Addr) (cl : List (Str × Addr)) (fp : List Addr), PE (X.blk s H sc (compEnvC sc cl C X.env) fp) vx tv)
    (hs : ∀ x, foldedSetIterable iter X.env x = pure x := by intro _; rfl) :
    PE X (.DictComp kx vx [⟨tg, iter, ifs, 0⟩] sc pos) (tDcG new t wi g tt tk tv (own.map (·.2))) := by
  constructor
  intro ps s st H Q I h
  rw [arm_eval_DictComp]
  refine dcG_core so calm nd I walk ok pgA ptA pkA pvA hs h fun D C s2 m H2 I2 q hn f => ⟨m, hn, fun h3 sb => ?_⟩
  obtain ⟨f0, f1, f2, f3, f4, f5⟩ := f
  exact ⟨.ref D, H2, I2.turned (t' := s2.toks) (fun b o hb e => (sb.2 b hb).trans e) f0 f1 f3 f4 f5, rfl, q⟩

/-- keys that are tuples of ints and texts -/
def stT : TStore := fun D y z H R => ∃ (b : Addr) (kvs : List (List L2.Key × V)) (k : List L2.Key), y = .ref b ∧ H b = some (.tup (k.map kV)) ∧ H D = some (.dT kvs) ∧ kvs.length < sizeLine ∧ R (upd H D (.dT (putK kvs k z)))
theorem storeT {P : Program} {w : World} {A : Around} (hu : A.units < cLine) : StoreOk P w A (.dT []) stT where
  fresh := fun H h hb => dt_empty h hb
  store := by
    intro X ps st H s D y z u r R eP ew eA I ry rz q
    subst eP ew eA
    obtain ⟨b, kvs, k, rfl, hb, hD, lt, q⟩ := q
    cases (show u = Value.ref b from ry)
    obtain ⟨le, nsys, xs, rel, dd⟩ := dt_of I.hok hD
    have hz : xs.length ≤ sizeLine := by
      have e := Paired.length rel
      omega
    refine wpAny_dictSet_heap (hsz := hz) (show (tupleKind (mixKind X.prog X.w)).room X.A from hu) (key_of I.hok hb) dd fun h2 d2 sb => ?_
    obtain ⟨o, es, ep, g1, g2, g3, g4, _, g5⟩ := d2
    refine ⟨_, d_write I (by rw [hD]; exact True.intro) sb ⟨o, g1⟩ ?_, q⟩
    have lp := length_putK kvs k z
    refine ⟨by omega, nsys, _, (rel.put k hb rz).keeps fun c ys ec => ?_, o, es, ep, g1, g2, g3, g4, g5⟩
    exact (upd_ne (ne_of ec hD (fun z => nomatch z))).trans ec
end Gk
/-! Gk2: sorted of a dict whose keys are tuples of texts. -/
namespace Gk
open PySem PySem.Spec PyProof.Rows L2

abbrev Pth := List Str
def pkey (p : Pth) : List (Int ⊕ List Nat) := p.map fun x => Sum.inr x.cps.toList
def ltP (p q : Pth) : Bool := PyProof.Rows.lexLt PyProof.Rows.itemOrd (pkey p) (pkey q)
abbrev shT : Nat → Bool := fun _ => true

theorem items_pth : ∀ (p : Pth) (us : List Value) (i : Nat), Vals (p.map V.str) us → tupItems shT i us = some (pkey p)
  | [], _, _, .nil => rfl
  | x :: p, _, i, .cons r t => by
    obtain ⟨k, rfl⟩ := r
    have e := items_pth p _ (i + 1) t
    show (if shT i = true then (tupItems shT (i + 1) _).map (Sum.inr x.cps.toList :: ·) else none) = _
    rw [if_pos rfl, e] <;> rfl

theorem tupKeyC_at {h : Heap} {a : Addr} {o : Obj} {xs : Array Value} {n : Nat} {l : List (Int ⊕ List Nat)} (ho : h.get? a = some o) (hc : o.cls = .type "tuple") (hd : o.data = .seq xs n)
    (hi : tupItems shT 0 xs.toList = some l) : G.tupKeyC h shT (.ref a) = some l := by
  have e1 : G.isTupObj h (.ref a) = true := by simp [G.isTupObj, ho, hc]
  unfold G.tupKeyC
  rw [if_pos e1]
  show tupKey h shT (.ref a) = some l
  simp only [tupKey, ho, hd]
  exact hi

section
variable {X : Cx}
/-- sorted(d), d's keys tuples of one or more texts -/
def rSortDT : List V → Hp → VK → Prop := fun vs H Q => ∃ (d : Addr) (kvs : List (List L2.Key × V)) (ks : List Pth), vs = [V.ref d] ∧ H d = some (.dT kvs) ∧ kvs.map (·.1) = ks.map (List.map Sum.inr) ∧ (∀ p ∈ ks, p ≠ []) ∧
  ∀ (bs : List (Addr × Pth)) (l : Addr), (bs.map (·.2)).Perm ks → bs.Pairwise (fun a b => ltP b.2 a.2 = false) → (∀ b ∈ bs, H b.1 = some (.tup (b.2.map V.str))) → H l = none →
    Q (.ref l) (upd H l (.lst (bs.map fun b => V.ref b.1)))

theorem kt_keys {H : Hp} : ∀ {kvs : List (List L2.Key × V)} {xs : List (List L2.Key × Addr × Value)} {ks : List Pth}, KT H kvs xs → kvs.map (·.1) = ks.map (List.map Sum.inr) →
    ∃ bs : List (Addr × Pth), bs.map (·.2) = ks ∧ bs.map (·.1) = xs.map (·.2.1) ∧ ∀ b ∈ bs, H b.1 = some (.tup (b.2.map V.str))
  | _, _, ks, .nil, e => by
    have e2 : ks = [] := List.map_eq_nil_iff.mp e.symm
    exact ⟨[], e2.symm, rfl, fun _ h => nomatch h⟩
  | p :: kvs, q :: xs, [], .cons _ _, e => nomatch e
  | p :: kvs, q :: xs, k :: ks, .cons r t, e => by
    rw [List.map_cons, List.map_cons] at e
    injection e with e1 e2
    obtain ⟨bs, b1, b2, b3⟩ := kt_keys t e2
    refine ⟨(q.2.1, k) :: bs, by rw [List.map_cons, b1], by rw [List.map_cons, List.map_cons, b2], ?_⟩
    intro b hb
    rcases List.mem_cons.mp hb with rfl | hb
    · have h1 := r.2.1
      rw [e1, List.map_map] at h1
      exact h1
    · exact b3 b hb

theorem vals_fst : ∀ cs : List (Addr × Pth), Vals (cs.map fun b => V.ref b.1) (cs.map fun b => Value.ref b.1)
  | [] => .nil
  | _ :: cs => .cons rfl (vals_fst cs)

theorem cr_sortedDT (calm : X.calm = true) : CallR X (.builtin "sorted") rSortDT := by
  intro ps st0 st H xs us Q I r h
  obtain ⟨d, kvs, ks, rfl, hd, hk, hne, q⟩ := h
  obtain ⟨u, rfl, rx⟩ := vals1 r
  cases rx
  obtain ⟨z, nsys, ys, pr, o, es, ep, ho, hx, hdat, hes, hkeys, hnd⟩ := dt_of I.hok hd
  obtain ⟨bs, b1, b2, b3⟩ := kt_keys pr hk
  have l1 : es.size = ys.length := size_of_entries hes
  have l2 : kvs.length = ys.length := Paired.length pr
  have lb : bs.length = ys.length := by
    have e := congrArg List.length b2
    rw [List.length_map, List.length_map] at e
    exact e
  refine Calls.call_function_entry PyProof.Rows.kind_sorted PyProof.Rows.plain_sorted PyProof.Rows.entry_sorted (PyProof.Rows.args_sorted1 _) ?_
  unfold Builtin.«sorted»
  refine wpAny_bind (m := checkCount "sorted" 1 1 _) (wpAny_pure ?_)
  refine wpAny_bind (PySem.W.kdu_collect (A := X.A.in1) (kdl_raw nsys hx hdat) (I.ok.hd calm) ho (by omega) fun h1 tk acc keep it => ?_)
  have ea : acc.toList = bs.map fun b => Value.ref b.1 := by
    have e0 : acc.toList.length = ys.length := by rw [Array.length_toList, it.1]; exact l1
    have e1 : (bs.map fun b => Value.ref b.1) = ys.map fun x => Value.ref x.2.1 := by
      have e := congrArg (List.map Value.ref) b2
      rw [List.map_map, List.map_map] at e
      exact e
    rw [e1]
    refine List.ext_getElem (by rw [List.length_map]; exact e0) fun j j1 j2 => ?_
    obtain ⟨en, g1, g2⟩ := it.2 j (acc.toList[j]) (by rw [← Array.getElem?_toList]; exact List.getElem?_eq_getElem j1)
    have g3 := entry_at hes j
    have j3 : j < ys.length := by omega
    rw [g1, List.getElem?_eq_getElem j3] at g3
    have g4 : en = entryOfKey (tupleKind (mixKind X.prog X.w)) ys[j] := Option.some.inj g3
    rw [g2, g4, List.getElem_map]
    rfl
  have I1 : Inv X ps st H { st0 with heap := h1, toks := tk } := I.kept keep
  rw [ea]
  have hln : (bs.map fun b => Value.ref b.1).length ≤ sizeLine := by rw [List.length_map]; omega
  refine wpAny_bind (wpAny_newList ?_ hln)
  have hoL : (h1.push (seqObj "list" (bs.map fun b => Value.ref b.1).toArray 0)).get? h1.objs.size = some (seqObj "list" (bs.map fun b => Value.ref b.1).toArray 0) := Heap.get?_push_size _ rfl
  show wpAny _ _ _ _ _ { st0 with heap := h1.push (seqObj "list" (bs.map fun b => Value.ref b.1).toArray 0), toks := tk }
  -- each key, where it stands
  have at1 : ∀ b ∈ bs, ∃ (ob : Obj) (its : List Value) (n : Nat), (h1.push (seqObj "list" (bs.map fun b => Value.ref b.1).toArray 0)).get? b.1 = some ob ∧ ob.cls = .type "tuple" ∧ ob.data = .seq its.toArray n ∧ Vals (b.2.map V.str) its := by
    intro b hb
    obtain ⟨_, its, rv, ob, g1, g2, n, g3⟩ := (show ObjOk X.prog X.w H h1 b.1 (.tup (b.2.map V.str)) from I1.hok b.1 _ (b3 b hb))
    exact ⟨ob, its, n, Heap.get?_push_of_some _ g1, g2, g3, rv⟩
  have key1 : ∀ b ∈ bs, G.tupKeyC (h1.push (seqObj "list" (bs.map fun b => Value.ref b.1).toArray 0)) shT (.ref b.1) = some (pkey b.2) := by
    intro b hb
    obtain ⟨ob, its, n, g1, g2, g3, rv⟩ := at1 b hb
    exact tupKeyC_at g1 g2 g3 (items_pth b.2 its 0 rv)
  have ne1 : ∀ b ∈ bs, b.2 ≠ [] := by
    intro b hb
    exact hne _ (by rw [← b1]; exact List.mem_map.mpr ⟨b, hb, rfl⟩)
  have tups : ∀ cs : List (Addr × Pth), (∀ b ∈ cs, b ∈ bs) → ∃ fs, TupsOf (h1.push (seqObj "list" (bs.map fun b => Value.ref b.1).toArray 0)) shT (cs.map fun b => Value.ref b.1) fs := by
    intro cs
    induction cs with
    | nil => intro _; exact ⟨[], .nil⟩
    | cons c cs ih =>
      intro hc
      obtain ⟨fs, t⟩ := ih fun b hb => hc b (List.mem_cons_of_mem _ hb)
      obtain ⟨ob, its, n, g1, g2, g3, rv⟩ := at1 c (hc c List.mem_cons_self)
      have nz := ne1 c (hc c List.mem_cons_self)
      cases e : c.2 with
      | nil => exact absurd e nz
      | cons x p =>
        rw [e, List.map_cons] at rv
        cases rv with
        | @cons _ u _ its' ru rt =>
          obtain ⟨k, rfl⟩ := ru
          exact ⟨Value.str x k :: fs, .cons ⟨c.1, ob, _, n, rfl, g1, g2, g3, rfl, (fun z => nomatch z), fun _ => ⟨x, k, rfl⟩⟩ t⟩
  obtain ⟨fs, tu⟩ := tups bs fun _ hb => hb
  refine wpAny_bind (wpAny_holding (wpAny_call_entry PyProof.Rows.slot_list_sort ⟨_, hoL, rfl⟩ PyProof.Rows.entry_list_sort
    (G.list_sort_tups (s := { st0 with heap := h1.push (seqObj "list" (bs.map fun b => Value.ref b.1).toArray 0), toks := tk }) (shape := shT) hoL tu ?_ hln fun so hp hs _ => ⟨_, rfl, ?_⟩)
    (PyProof.Rows.args_list_sort _)))
  · intro v hv
    obtain ⟨b, hb, rfl⟩ := List.mem_map.mp hv
    exact ⟨_, key1 b hb⟩
  · have hpl : (arrOf so).toList.Perm (bs.map fun b => ((Value.ref b.1, Value.ref b.1) : Keyed)) := by
      have e := Array.perm_iff_toList_perm.mp hp
      rw [pairsOf_toList] at e
      have e2 : ((bs.map fun b => Value.ref b.1).zip (bs.map fun b => Value.ref b.1)) = bs.map fun b => ((Value.ref b.1, Value.ref b.1) : Keyed) := by
        rw [List.zip_map'] <;> rfl
      rw [e2] at e
      exact e
    obtain ⟨cs, c1, c2⟩ := perm_lift (fun b : Addr × Pth => ((Value.ref b.1, Value.ref b.1) : Keyed)) hpl bs rfl
    have out : ((arrOf so).map (·.2)).toList = cs.map fun b => Value.ref b.1 := by
      rw [Array.toList_map, ← c2, List.map_map] <;> rfl
    have len : cs.length = bs.length := c1.length_eq
    have kk : ∀ (i : Nat) (hi : i < cs.length), KK (G.tupKindC (h1.push (seqObj "list" (bs.map fun b => Value.ref b.1).toArray 0)) shT) (arrOf so) i = pkey cs[i].2 := by
      intro i hi
      have e : (arrOf so)[i]? = some ((Value.ref cs[i].1, Value.ref cs[i].1) : Keyed) := by
        rw [← Array.getElem?_toList, ← c2, List.getElem?_map, List.getElem?_eq_getElem hi] <;> rfl
      unfold KK
      rw [e]
      show (G.tupKeyC (h1.push (seqObj "list" (bs.map fun b => Value.ref b.1).toArray 0)) shT (.ref cs[i].1)).getD [] = _
      rw [key1 cs[i] (c1.mem_iff.mp (List.getElem_mem hi))] <;> rfl
    have srt : cs.Pairwise (fun a b => ltP b.2 a.2 = false) := by
      rw [List.pairwise_iff_getElem]
      intro i j hi hj lt
      have r : PyProof.Rows.lexLt PyProof.Rows.itemOrd (KK (G.tupKindC (h1.push (seqObj "list" (bs.map fun b => Value.ref b.1).toArray 0)) shT) (arrOf so) j)
          (KK (G.tupKindC (h1.push (seqObj "list" (bs.map fun b => Value.ref b.1).toArray 0)) shT) (arrOf so) i) = false :=
        hs i j (Nat.le_of_lt lt) (by rw [pairsOf_size, List.length_map]; omega)
      rw [kk i hi, kk j hj] at r
      exact r
    obtain ⟨ep2, he2⟩ := PyProof.Rows.sortedHeap_at (vs := bs.map fun b => Value.ref b.1) (out := (arrOf so).map (·.2)) hoL
    have lc : (cs.map fun b => V.ref b.1).length ≤ sizeLine := by rw [List.length_map]; omega
    refine wpAny_pure ⟨_, rfl, .ref h1.objs.size, upd H h1.objs.size (.lst (cs.map fun b => V.ref b.1)), I1.laid (t' := tk) (fun b u e => ?_) (Nat.le_refl _)
      (show ObjOk X.prog X.w _ _ _ (.lst (cs.map fun b => V.ref b.1)) from ⟨lc, ((arrOf so).map (·.2)).toList, ep2, by rw [out]; exact vals_fst cs, by rw [Array.toArray_toList]; exact he2⟩), rfl,
      q cs _ (by rw [← b1]; exact c1.map _) srt (fun b hb => b3 b (c1.mem_iff.mp hb)) (I1.hok.fresh (Nat.le_refl _))⟩
    have lt := Heap.lt_size e
    rw [PyProof.Rows.sortedHeap_old (Nat.ne_of_lt lt) (by rw [size_push']; exact Nat.lt_succ_of_lt lt)]
    exact Heap.get?_push_of_some _ e
end
end Gk
/-! Gk3: operators that a class of the program's own defines, by the promise of its method; a method called with keywords. -/
namespace Gk
open PySem PySem.Spec PyProof.Rows L2

theorem rel_ni {v : V} {u : Value} (r : RelV v u) : u ≠ .notImplemented := by
  intro e
  subst e
  cases v with
  | non => exact nomatch (show Value.notImplemented = Value.none from r)
  | bl b => exact nomatch (show Value.notImplemented = Value.bool b from r)
  | int i => obtain ⟨t, e⟩ := (show ∃ t, Value.notImplemented = Value.int i t from r); exact nomatch e
  | str x => obtain ⟨t, e⟩ := (show ∃ t, Value.notImplemented = Value.str x t from r); exact nomatch e
  | byt b => obtain ⟨t, e⟩ := (show ∃ t, Value.notImplemented = Value.bytes b t from r); exact nomatch e
  | flt b => obtain ⟨t, e⟩ := (show ∃ t, Value.notImplemented = Value.float b t from r); exact nomatch e
  | ref a => exact nomatch (show Value.notImplemented = Value.ref a from r)
  | ty n => exact nomatch (show Value.notImplemented = Value.type n from r)
theorem cmpBack_of {Q : Value → Shared → Prop} {u : Value} {s : Shared} (hn : u ≠ .notImplemented) (h : Q u s) : PySem.W.CmpBack Q u s := by
  cases u with
  | notImplemented => exact hn rfl
  | _ => exact h

section
variable {X : Cx} {CX : CXT} {k : Nat} {f C : Addr} {fd : FuncData} {ps : List Str} {sp : Sp} {E : XK}

/-- a def is run somewhere below the body X, the frames being the body's -/
theorem run_below {A : Around} {pins : List (Addr × Obj)} {st : L2.St} {H : Hp} {s : Shared} {Q : VK} {us : List Value} {vs : List V} (F : FnOk X.prog X.w X.K X.mg X.base CX k f fd ps sp) (fr : A.frames = X.A.frames) (hr : Room k A)
    (hb : Binds X.K fd ps []) (hx : Passes CX X E) (I : Inv X pins st H s) (r : Vals vs us) (h : sp vs H Q E) : wpAny (model X.prog X.w) A (call (.ref f) us) (EP X pins st Q) X.xe s := by
  have e0 : Env0 X.prog X.w X.K X.mg X.base A X.stack s H := by
    have e := I.env0
    exact ⟨fr.trans e.frames, e.mod, e.bs, e.bsz, e.funs, e.frf, e.hok, e.bare⟩
  have hl : us.length = ps.length := r.length.symm.trans (F.len _ _ _ _ h)
  have bd := hb s us I.kIn (by rw [List.append_nil]; exact hl)
  rw [List.append_nil] at bd
  refine wpAny_call (codeAny_mono (F.run A X.stack s H ⟨us, []⟩ us vs Q E hr e0 bd r h) ?_)
  intro res s2 q
  match res, q with
  | .error e, q => exact hx pins st H s e s2 I q
  | .ok (.ret u), q => exact I.after q
  | .ok .next, q => exact q.elim
  | .ok .brk, q => exact q.elim
  | .ok .cont, q => exact q.elim

/-- a method of the class, found by an operator -/
structure Dun (K : PySem.W.Frag) (C : Addr) (m : Str) (f : Addr) : Prop where
  at_ : PySem.W.findIn K (.ref C) m = some (some (.ref f))
  fn : PySem.W.isFn K (.ref f) = true

/-- x op y, both of the class -/
def rOwn (C : Addr) (sp : Sp) (E : XK) : R2 := fun x y H Q => ∃ (a b dx dy : Addr) (fs gs : List (Str × V)), x = .ref a ∧ y = .ref b ∧ H a = some (.ins C dx fs) ∧ H b = some (.ins C dy gs) ∧ sp [.ref a, .ref b] H Q E
theorem op_own {op : Operator} (F : FnOk X.prog X.w X.K X.mg X.base CX k f fd ps sp) (D : Dun X.K C (PySem.dunder op.info.2) f) (self : PySem.W.selfFirst X.K C = true) (hr : Room k X.A) (hb : Binds X.K fd ps []) (hx : Passes CX X E) :
    OpR X (binaryOp op) (rOwn C sp E) := by
  intro pins s st H x y v u Q I rx ry h
  obtain ⟨a, b, dx, dy, fs, gs, rfl, rfl, ha, hb2, h⟩ := h
  cases rx
  cases ry
  obtain ⟨mA, J, _⟩ := ins_get I.hok ha
  obtain ⟨mB, J2, _⟩ := ins_get I.hok hb2
  obtain ⟨od, J, _⟩ := J.look
  obtain ⟨od2, J2, _⟩ := J2.look
  obtain ⟨m, hF⟩ := I.fr
  refine PySem.W.binop_K hF I.ok.mod.kin J J2.type self D.at_ D.fn ?_
  refine thn (run_below F rfl hr hb hx I (show Vals [V.ref a, V.ref b] [Value.ref a, Value.ref b] from .cons rfl (.cons rfl .nil)) h) fun u2 s2 q => ?_
  obtain ⟨z, H2, I2, rz, q2⟩ := q
  exact cmpBack_of (rel_ni rz) ⟨z, H2, I2, rz, q2⟩

/-- y in x, x of the class -/
def rOwnIn (C : Addr) (sp : Sp) (E : XK) (neg : Bool) : R2 := fun y x H Q => ∃ (a dx : Addr) (fs : List (Str × V)), x = .ref a ∧ H a = some (.ins C dx fs) ∧
  sp [.ref a, y] H (fun r H2 => ∃ c : Bool, r = .bl c ∧ Q (.bl (if neg then !c else c)) H2) E
theorem op_ownIn (F : FnOk X.prog X.w X.K X.mg X.base CX k f fd ps sp) (D : Dun X.K C "__contains__" f) (hr : Room k X.A) (hb : Binds X.K fd ps []) (hx : Passes CX X E) : OpR X (compareOp .In) (rOwnIn C sp E false) := by
  intro pins s st H y x v u Q I ry rx h
  obtain ⟨a, dx, fs, rfl, ha, h⟩ := h
  cases rx
  obtain ⟨mA, J, _⟩ := ins_get I.hok ha
  obtain ⟨od, J, _⟩ := J.look
  obtain ⟨m, hF⟩ := I.fr
  refine PySem.W.in_K hF I.ok.mod.kin J D.at_ D.fn ?_
  refine thn (run_below F rfl hr hb hx I (show Vals [V.ref a, y] [Value.ref a, v] from .cons rfl (.cons ry .nil)) h) fun u2 s2 q => ?_
  obtain ⟨z, H2, I2, rz, c, rfl, q2⟩ := q
  cases rz
  exact wpAny_truthy_bool ⟨.bl c, H2, I2, rfl, q2⟩
theorem op_ownNotIn (F : FnOk X.prog X.w X.K X.mg X.base CX k f fd ps sp) (D : Dun X.K C "__contains__" f) (hr : Room k X.A) (hb : Binds X.K fd ps []) (hx : Passes CX X E) : OpR X (compareOp .NotIn) (rOwnIn C sp E true) := by
  intro pins s st H y x v u Q I ry rx h
  obtain ⟨a, dx, fs, rfl, ha, h⟩ := h
  cases rx
  obtain ⟨mA, J, _⟩ := ins_get I.hok ha
  obtain ⟨od, J, _⟩ := J.look
  obtain ⟨m, hF⟩ := I.fr
  refine PySem.W.notIn_K hF I.ok.mod.kin J D.at_ D.fn ?_
  refine thn (run_below F rfl hr hb hx I (show Vals [V.ref a, y] [Value.ref a, v] from .cons rfl (.cons ry .nil)) h) fun u2 s2 q => ?_
  obtain ⟨z, H2, I2, rz, c, rfl, q2⟩ := q
  cases rz
  exact wpAny_truthy_bool ⟨.bl (!c), H2, I2, rfl, q2⟩

/-- x == y, both of the class -/
theorem op_ownEq (F : FnOk X.prog X.w X.K X.mg X.base CX k f fd ps sp) (D : Dun X.K C "__eq__" f) (hr : Room k X.A) (hb : Binds X.K fd ps []) (hx : Passes CX X E) : OpR X (compareOp .Eq) (rOwn C sp E) := by
  intro pins s st H x y v u Q I rx ry h
  obtain ⟨a, b, dx, dy, fs, gs, rfl, rfl, ha, hb2, h⟩ := h
  cases rx
  cases ry
  obtain ⟨mA, J, _⟩ := ins_get I.hok ha
  obtain ⟨mB, J2, _⟩ := ins_get I.hok hb2
  obtain ⟨od, J, _⟩ := J.look
  obtain ⟨od2, J2, _⟩ := J2.look
  obtain ⟨m, hF⟩ := I.fr
  refine PySem.W.cmp_K (op := .Eq) (tb := .ref C) hr.units0 hF I.ok.mod.kin J J2.type (by simp [PySem.W.notFirst]) D.at_ D.fn ?_
  refine thn (run_below F rfl hr hb hx I (show Vals [V.ref a, V.ref b] [Value.ref a, Value.ref b] from .cons rfl (.cons rfl .nil)) h) fun u2 s2 q => ?_
  obtain ⟨z, H2, I2, rz, q2⟩ := q
  exact cmpBack_of (rel_ni rz) ⟨z, H2, I2, rz, q2⟩
end

/-! ### != where the class has an __eq__ alone -/
section
variable {prog : Program} {w : World} {A : Around} {E : Value → Shared → Prop} {s : Shared} {K : PySem.W.Frag} {x C L f : Addr} {h0 : Heap} {m : Str → Option Value} {ox : Obj} {od : Option Obj} {b tb : Value}

/-- the class has object's own __ne__ -/
structure NoNe (K : PySem.W.Frag) (C : Addr) : Prop where
  ne : PySem.W.findIn K (.ref C) "__ne__" = some (some (.builtin "object.__ne__"))
  obj : PySem.W.subIn K (.ref C) (.type "object") = some true

theorem ne_body {Q : Fin → Shared → Prop} (hu : A.units < cLine) (X : K.In s.heap) (I : PySem.W.InstAt s.heap x ox C od) (hs : PySem.W.findIn K (.ref C) "__eq__" = some (some (.ref f))) (hf : PySem.W.isFn K (.ref f) = true)
    (h : wpAny (model prog w) A (call (.ref f) [.ref x, b]) (fun v s2 => ∃ c, v = .bool c ∧ Q (.done (.ret (.bool (!c)))) s2) E s) : wpAny (model prog w) A (Builtin.«object.__ne__» ⟨[.ref x, b], []⟩) Q E s := by
  have e : Builtin.«object.__ne__» ⟨[.ref x, b], []⟩ = (do
      cRoomFor "comparison" [.ref x, b]
      match ← callSpecialIfBound? (.ref x) "__eq__" [b] with
      | some .notImplemented | none => ret .notImplemented
      | some r => ret (.bool (!(← truthy r)))) := rfl
  rw [e]
  refine wpAny_bind (wpAny_cRoomFor hu (wpAny_bind (PySem.W.ifBound_K X I hs hf (thn h fun v s2 q => ?_))))
  obtain ⟨c, rfl, q⟩ := q
  exact wpAny_bind (wpAny_truthy_bool (wpAny_pure q))

theorem ne_call {Q : Value → Shared → Prop} (hu : A.units + 1 < cLine) (X : K.In s.heap) (I : PySem.W.InstAt s.heap x ox C od) (N : NoNe K C) (hs : PySem.W.findIn K (.ref C) "__eq__" = some (some (.ref f))) (hf : PySem.W.isFn K (.ref f) = true)
    (h : wpAny (model prog w) A.in1 (call (.ref f) [.ref x, b]) (fun v s2 => ∃ c, v = .bool c ∧ Q (.bool (!c)) s2) E s) : wpAny (model prog w) A (call (.builtin "object.__ne__") [.ref x, b]) Q E s := by
  have top : PySem.W.Looks (model prog w) s.heap (isInstance (.ref x) (.type "object")) true := I.type.andThen (PySem.W.looks_subIn X N.obj)
  refine wpAny_call (codeAny_call_builtin F.cmp_object.ne.plain F.cmpEntry_ne (PySem.W.check_slot F.cmpKind_ne F.cmpSplit_ne top (F.cmpArgs_ne _ _) ?_))
  refine ne_body (A := A.in1) hu X I hs hf (thn h fun v s2 q => ?_)
  obtain ⟨c, rfl, q⟩ := q
  exact ⟨c, rfl, q⟩

theorem ne_try {Q : Option Value → Shared → Prop} (hu : A.units + 1 < cLine) (X : K.In s.heap) (I : PySem.W.InstAt s.heap x ox C od) (N : NoNe K C) (hs : PySem.W.findIn K (.ref C) "__eq__" = some (some (.ref f))) (hf : PySem.W.isFn K (.ref f) = true)
    (h : wpAny (model prog w) A.in1 (call (.ref f) [.ref x, b]) (fun v s2 => ∃ c, v = .bool c ∧ Q (some (.bool (!c))) s2) E s) : wpAny (model prog w) A (tryCompare (.ref x) "__ne__" b) Q E s := by
  have go : wpAny (model prog w) A (call (.builtin "object.__ne__") ([.ref x] ++ [b]) >>= fun v => pure (some v)) (fun r s2 => ∃ c, r = some (Value.bool c) ∧ Q (some (.bool c)) s2) E s :=
    wpAny_bind (thn (ne_call (Q := fun v s2 => ∃ c, v = .bool c ∧ Q (some (.bool c)) s2) hu X I N hs hf (thn h fun v s2 q => by
      obtain ⟨c, rfl, q⟩ := q
      exact ⟨c, rfl, !c, rfl, q⟩)) fun v s2 q => by
      obtain ⟨c, rfl, q⟩ := q
      exact wpAny_pure ⟨c, rfl, q⟩)
  unfold tryCompare
  refine wpAny_bind (wpAny_mono (Q := fun r s2 => ∃ c, r = some (Value.bool c) ∧ Q (some (.bool c)) s2) ?_ (fun r s2 q => ?_) fun _ _ z => z)
  · simp only [callSpecialIfBound?, bindSpecialIfBound?]
    refine wpAny_holding (wpAny_bind (wpAny_bind (wpAny_bind (I.type.here ((PySem.W.looks_findIn X N.ne).here ?_)))))
    simp only [F.cmp_object.ne.bind]
    refine wpAny_bind (wpAny_askSetting (wpAny_ite ?_))
    split
    · exact wpAny_bind (wpAny_pure (wpAny_pure (by exact go)))
    · exact wpAny_tryCatch (wpAny_bind (wpAny_pure (wpAny_pure (by exact go))))
  · obtain ⟨c, rfl, q⟩ := q
    exact wpAny_pure q

theorem ne_K {Q : Value → Shared → Prop} (hu : A.units + 1 < cLine) (F0 : Fr h0 L s.heap m) (X0 : K.In h0) (I : PySem.W.InstAt s.heap x ox C od) (tyb : PySem.W.Looks (model prog w) s.heap (typeOf b) tb) (hn : PySem.W.notFirst K C tb = true)
    (N : NoNe K C) (hs : PySem.W.findIn K (.ref C) "__eq__" = some (some (.ref f))) (hf : PySem.W.isFn K (.ref f) = true)
    (h : wpAny (model prog w) A.in1 (call (.ref f) [.ref x, b]) (fun v s2 => ∃ c, v = .bool c ∧ Q (.bool (!c)) s2) E s) : wpAny (model prog w) A (richCompare .NotEq (.ref x) b) Q E s := by
  have X := X0.keeps F0.keep
  have one : wpAny (model prog w) A (tryCompare (.ref x) "__ne__" b) (fun r s2 => ∃ v, r = some v ∧ Q v s2) E s :=
    ne_try (Q := fun r s2 => ∃ v, r = some v ∧ Q v s2) hu X I N hs hf (thn h fun v s2 q => by
      obtain ⟨c, rfl, q⟩ := q
      exact ⟨c, rfl, _, rfl, q⟩)
  unfold richCompare
  simp only [oneThing_ref]
  refine wpAny_holding (wpAny_bind (wpAny_cRoomFor (Nat.lt_of_succ_lt hu) ?_))
  rw [cmpInfo_NotEq]
  dsimp only
  refine wpAny_bind (I.type.here (wpAny_bind (tyb.here ?_)))
  split
  · rename_i q
    have e : PySem.W.subIn K tb (.ref C) = some false := by
      rcases Bool.or_eq_true_iff.mp hn with e | e
      · exact absurd q (by rw [beq_iff_eq.mp e]; simp)
      · exact beq_iff_eq.mp e
    refine wpAny_bind ((PySem.W.looks_subIn X e).here ?_)
    rw [if_neg Bool.false_ne_true]
    refine wpAny_bind (thn one fun r s2 q => ?_)
    obtain ⟨v, rfl, q⟩ := q
    exact wpAny_pure q
  · refine wpAny_bind (wpAny_pure ?_)
    rw [if_neg Bool.false_ne_true]
    refine wpAny_bind (thn one fun r s2 q => ?_)
    obtain ⟨v, rfl, q⟩ := q
    exact wpAny_pure q
end

section
variable {X : Cx} {CX : CXT} {k : Nat} {f C : Addr} {fd : FuncData} {ps : List Str} {sp : Sp} {E : XK}
def rOwnNe (C : Addr) (sp : Sp) (E : XK) : R2 := fun x y H Q => ∃ (a b dx dy : Addr) (fs gs : List (Str × V)), x = .ref a ∧ y = .ref b ∧ H a = some (.ins C dx fs) ∧ H b = some (.ins C dy gs) ∧
  sp [.ref a, .ref b] H (fun r H2 => ∃ c : Bool, r = .bl c ∧ Q (.bl (!c)) H2) E
theorem op_ownNe (F : FnOk X.prog X.w X.K X.mg X.base CX k f fd ps sp) (D : Dun X.K C "__eq__" f) (N : NoNe X.K C) (hr : Room (k + 1) X.A) (hb : Binds X.K fd ps []) (hx : Passes CX X E) : OpR X (compareOp .NotEq) (rOwnNe C sp E) := by
  intro pins s st H x y v u Q I rx ry h
  obtain ⟨a, b, dx, dy, fs, gs, rfl, rfl, ha, hb2, h⟩ := h
  cases rx
  cases ry
  obtain ⟨mA, J, _⟩ := ins_get I.hok ha
  obtain ⟨mB, J2, _⟩ := ins_get I.hok hb2
  obtain ⟨od, J, _⟩ := J.look
  obtain ⟨od2, J2, _⟩ := J2.look
  obtain ⟨m, hF⟩ := I.fr
  refine ne_K (tb := .ref C) (hu_of hr) hF I.ok.mod.kin J J2.type (by simp [PySem.W.notFirst]) N D.at_ D.fn ?_
  refine thn (run_below (A := X.A.in1) F rfl hr.in1 hb hx I (show Vals [V.ref a, V.ref b] [Value.ref a, Value.ref b] from .cons rfl (.cons rfl .nil)) h) fun u2 s2 q => ?_
  obtain ⟨z, H2, I2, rz, c, rfl, q2⟩ := q
  cases rz
  exact ⟨c, rfl, .bl (!c), H2, I2, rfl, q2⟩

/-- o.m(k = v, ..) -/
def tMethK (C : Addr) (m : Str) (n : Nat) (sp : Sp) (gV : List V → List V → List V) (E : XK) (ta : TE) (tk : TA) : TE := fun st H Q => ta st H fun x H1 => ∃ (a dx : Addr) (fs : List (Str × V)), x = .ref a ∧ H1 a = some (.ins C dx fs) ∧ fs.lookup m = none ∧
  tk st H1 fun zs H2 => zs.length = n ∧ sp (gV [x] zs) H2 Q E
theorem pe_methK {o : Expr} {m : Str} {apos pos : Pos} {kws : List Keyword} {ks : List Str} {g : List Value → List Value → List Value} {gV : List V → List V → List V} {ta : TE} {tk : TA} {pl : Sem Bool} (ho : PE X o ta) (c : Cls X.K C)
    (hm : Meth X.K C m f) (F : FnOk X.prog X.w X.K X.mg X.base CX k f fd ps sp) (hr : Room k X.A) (hb : KBn X.K fd ps 1 ks g gV) (hx : Passes CX X E) (hkw : PK X kws tk)
    (hall : (backToKw pos (keywordEach kws X.env)).all (·.1.isSome) = true := by rfl) (hks : (backToKw pos (keywordEach kws X.env)).filterMap (·.1) = ks := by rfl)
    (hpl : ((backTo pos (starEach [] X.env)).any (·.1) || (backToKw pos (keywordEach kws X.env)).any (·.1.isNone)) = false := by rfl)
    (ht : eval (.Call (.Attribute o m apos) [] kws pos) X.env = (do
      let ov ← eval o X.env
      standAt apos.atName
      let (fv, first) ← holding [ov] (getMethod ov m pl)
      callWith pos fv first (backTo pos (starEach [] X.env)) (backToKw pos (keywordEach kws X.env))) := by rfl) :
    PE X (.Call (.Attribute o m apos) [] kws pos) (tMethK C m ks.length sp gV E ta tk) := by
  constructor
  intro pins s st H Q I h
  refine PySem.W.methodCall_KW (pl := pl) (thn (ho.run pins s st H _ I h) fun u s1 k1 => ?_) ht
  obtain ⟨x, H1, I1, rx, a, dx, fs, rfl, ha, l, q⟩ := k1
  cases rx
  refine getmeth_ok I1 ha c hm l ?_
  refine PySem.W.callWith_KW0 (first := [.ref a]) (h₀ := X.base) I.ok.mod.kin hm.kp hall ?_ hpl
  refine thn (hkw.run pos pins s1 st H1 _ I1 q) fun ws s2 k2 => ?_
  obtain ⟨zs, H2, I2, rz, lz, q2⟩ := k2
  refine ⟨I2.kIn, ?_⟩
  rw [hks]
  exact run_fnN (us := [.ref a]) (vs := [.ref a]) F hr hb hx I2 (.cons rfl .nil) rz rfl lz q2
end
/-- how a def without defaults binds keywords -/
theorem fun_kbn {K : PySem.W.Frag} {x qual : Str} {st : Stmt} {f : Addr} {fd : FuncData} {ps ks : List Str} {n : Nat} (F : Fun K x qual st f fd)
    (h : ∀ (kV doc pm : Value) (an : Option Addr) (cdv ct : Value) (us ws : List Value), us.length = n → ws.length = ks.length → bindArgs (PySem.W.fnOf x qual (defArgs st) (defBody st) (defScope st) .none kV doc pm an cdv ct) ⟨us, ks.zip ws⟩ = pure (ps.zip (us ++ ws))) :
    KBn K fd ps n ks (fun us ws => us ++ ws) (fun vs zs => vs ++ zs) := by
  obtain ⟨oc, od, kV, doc, pm, an, cdv, ct, osl, rfl, lk, hcd⟩ := F.ex
  exact ⟨fun s us ws _ l1 l2 => .of_eq (h kV doc pm an cdv ct us ws l1 l2), fun r1 r2 => r1.append r2⟩
/-- a method and its promise -/
structure Dm (P : Program) (w : World) (K : PySem.W.Frag) (mg : Str → Option Value) (base : Heap) (C : Addr) (k : Nat) (m : Str) (f : Addr) (ps : List Str) (sp : Sp) : Prop where
  ex : ∃ fd, FnOk P w K mg base CX0 k f fd ps sp ∧ Binds K fd ps []
  me : Meth K C m f
section
variable {X : Cx} {C f : Addr} {k : Nat} {m : Str} {ps : List Str} {sp : Sp}
theorem op_dm {op : Operator} (D : Dm X.prog X.w X.K X.mg X.base C k (PySem.dunder op.info.2) f ps sp) (self : PySem.W.selfFirst X.K C = true) (hr : Room k X.A) : OpR X (binaryOp op) (rOwn C sp E0) := by
  obtain ⟨fd, F, b⟩ := D.ex
  exact op_own F ⟨D.me.at_, D.me.fn⟩ self hr b pass0
theorem op_dmEq (D : Dm X.prog X.w X.K X.mg X.base C k "__eq__" f ps sp) (hr : Room k X.A) : OpR X (compareOp .Eq) (rOwn C sp E0) := by
  obtain ⟨fd, F, b⟩ := D.ex
  exact op_ownEq F ⟨D.me.at_, D.me.fn⟩ hr b pass0
theorem op_dmNe (D : Dm X.prog X.w X.K X.mg X.base C k "__eq__" f ps sp) (N : NoNe X.K C) (hr : Room (k + 1) X.A) : OpR X (compareOp .NotEq) (rOwnNe C sp E0) := by
  obtain ⟨fd, F, b⟩ := D.ex
  exact op_ownNe F ⟨D.me.at_, D.me.fn⟩ N hr b pass0
theorem op_dmIn (D : Dm X.prog X.w X.K X.mg X.base C k "__contains__" f ps sp) (hr : Room k X.A) : OpR X (compareOp .In) (rOwnIn C sp E0 false) := by
  obtain ⟨fd, F, b⟩ := D.ex
  exact op_ownIn F ⟨D.me.at_, D.me.fn⟩ hr b pass0
theorem op_dmNotIn (D : Dm X.prog X.w X.K X.mg X.base C k "__contains__" f ps sp) (hr : Room k X.A) : OpR X (compareOp .NotIn) (rOwnIn C sp E0 true) := by
  obtain ⟨fd, F, b⟩ := D.ex
  exact op_ownNotIn F ⟨D.me.at_, D.me.fn⟩ hr b pass0
theorem pe_dm {o e : Expr} {es : List Expr} {apos pos : Pos} {ta : TE} {t : TA} {pl : Sem Bool} (ho : PE X o ta) (c : Cls X.K C) (D : Dm X.prog X.w X.K X.mg X.base C k m f ps sp) (hr : Room k X.A) (ha : PA X (e :: es) t)
    (hst : starEach (e :: es) X.env = (false, eval e X.env) :: starEach es X.env := by rfl) (hpl : (backTo pos (starEach es X.env)).any (·.1) = false := by rfl)
    (ht : eval (.Call (.Attribute o m apos) (e :: es) [] pos) X.env = (do
      let ov ← eval o X.env
      standAt apos.atName
      let (fv, first) ← holding [ov] (getMethod ov m pl)
      callWith pos fv first (backTo pos (starEach (e :: es) X.env)) (backToKw pos (keywordEach [] X.env))) := by rfl) :
    PE X (.Call (.Attribute o m apos) (e :: es) [] pos) (tMeth C m sp [] E0 ta t) := by
  obtain ⟨fd, F, b⟩ := D.ex
  exact pe_meth (pl := pl) ho c D.me F hr b .nil pass0 ha hst hpl ht
end
end Gk
/-! Gk4: what stays, comprehensions whose heap grows, defs as bundles. -/
namespace Gk
open PySem PySem.Spec PyProof.Rows L2

/-! ### what stays: all but the addresses of T -/
def Kp (T : Addr → Prop) (H H2 : Hp) : Prop := ∀ b o, ¬ T b → H b = some o → H2 b = some o
abbrev T0 : Addr → Prop := fun _ => False
theorem Kp.refl {T : Addr → Prop} (H : Hp) : Kp T H H := fun _ _ _ h => h
theorem Kp.trans {T : Addr → Prop} {H H1 H2 : Hp} (a : Kp T H H1) (b : Kp T H1 H2) : Kp T H H2 := fun c o n h => b c o n (a c o n h)
theorem Kp.at0 {H H2 : Hp} (a : Kp T0 H H2) {b : Addr} {o : HO} (h : H b = some o) : H2 b = some o := a b o id h
theorem Kp.wide {T : Addr → Prop} {H H2 : Hp} (a : Kp T0 H H2) : Kp T H H2 := fun b o _ h => a b o id h
theorem Kp.new {T : Addr → Prop} {H H2 : Hp} {p : Addr} {o : HO} (a : Kp T H H2) (h : H2 p = none) : Kp T H (upd H2 p o) := fun b u n e => by
  have z := a b u n e
  rw [upd_ne (ne_of_none z h)]
  exact z
theorem Kp.put {T : Addr → Prop} {H H2 : Hp} {p : Addr} {o : HO} (a : Kp T H H2) (h : T p) : Kp T H (upd H2 p o) := fun b u n e => by
  rw [upd_ne (fun z => n (by rw [z]; exact h))]
  exact a b u n e
theorem Kp.over {T : Addr → Prop} {H H2 : Hp} {p : Addr} {o : HO} (a : Kp T H H2) (h : H p = none) : Kp T H (upd H2 p o) := fun b u n e => by
  rw [upd_ne (ne_of_none e h)]
  exact a b u n e
theorem Kp.free {H H2 : Hp} (a : Kp T0 H H2) {p : Addr} (h : H2 p = none) : H p = none := by
  cases e : H p with
  | none => rfl
  | some o => rw [a.at0 e] at h; cases h

/-! ### a comprehension -/
theorem lc_kp {T : Addr → Prop} {J : It} {n : Nat} {G : Hp → Prop} {Y : Nat → Hp → V → Hp → Prop} (w : Walk J n G Y) {i0 : Nat} {tt : TT} {te : TE} {vs : List Nat} {st : L2.St} {H1 : Hp} {D : Addr} {Qd : Hp → Prop}
    (src : Nat → V → Prop) (P : Nat → List V → Hp → Prop) (hY : ∀ i H x H2, i < n → Y i H x H2 → H2 = H ∧ src i x) (hD : H1 D = none) (hT : ¬ T D) (hn : n < sizeLine)  (hws : ∀ x, wipe ((wipe st vs).set i0 (some x)) vs = wipe st vs) (hG : ∀ H, Kp T H1 H → G H) (p0 : P 0 [] (upd H1 D (.lst [])))
    (step : ∀ (i : Nat) (x : V) (ys : List V) (H : Hp) (Ky : V → Hp → Prop) (Kn : Hp → Prop), i < n → src i x → Kp T H1 H → H D = some (.lst ys) → P i ys H →
      (∀ y H4, Kp T H H4 → P (i + 1) (ys ++ [y]) (upd H4 D (.lst (ys ++ [y]))) → Ky y H4) → (∀ H3, Kp T H H3 → P (i + 1) ys H3 → Kn H3) →
      tt ((wipe st vs).set i0 (some x)) H fun b H3 => if b = true then te ((wipe st vs).set i0 (some x)) H3 Ky else Kn H3)
    (fin : ∀ ys H, Kp T H1 H → H D = some (.lst ys) → ys.length ≤ n → P n ys H → Qd H) :
    ∃ W : Nat → Nat → Hp → Prop, (∃ m, W 0 m (upd H1 D (.lst []))) ∧ ∀ i m H, W i m H →
      (J.stop i H ∧ Qd H) ∨ (J.go i H ∧ ∃ Nx : Hp → Prop, (∀ H2, Nx H2 → ∃ m2, m2 < m ∧ W (i + 1) m2 H2) ∧ ∀ x H2, J.yld i H x H2 → gName i0 x (wipe st vs) H2 fun s2 H2 => wipe s2 vs = wipe st vs ∧ tt s2 H2 fun b H3 =>
        if b = true then te s2 H3 fun y H4 => ∃ acc, H4 D = some (.lst acc) ∧ acc.length < sizeLine ∧ Nx (upd H4 D (.lst (acc ++ [y]))) else Nx H3) := by
  refine lc_it w (fun i H => ∃ ys, Kp T H1 H ∧ H D = some (.lst ys) ∧ ys.length ≤ i ∧ P i ys H) ⟨[], (Kp.refl H1).over hD, upd_same, Nat.le_refl _, p0⟩ (fun i H _ q => ?_) (fun i x H H2 hi q y => ?_) (fun H q => ?_)
  · obtain ⟨ys, k, _⟩ := q
    exact hG H k
  · obtain ⟨ys, k, d, l, p⟩ := q
    obtain ⟨rfl, sx⟩ := hY i H x H2 hi y
    refine ⟨hws x, ?_⟩
    refine step i x ys H2 _ _ hi sx k d p (fun y H4 k4 p4 => ?_) (fun H3 k3 p3 => ?_)
    · refine ⟨ys, k4 D _ hT d, by omega, ys ++ [y], (k.trans k4).over hD, upd_same, ?_, p4⟩
      rw [List.length_append, List.length_singleton]
      omega
    · exact ⟨ys, k.trans k3, k3 D _ hT d, by omega, p3⟩
  · obtain ⟨ys, k, d, l, p⟩ := q
    exact fin ys H k d l p

theorem yes_ {st : L2.St} {H : Hp} {A B : Hp → Prop} (h : A H) : tYes st H fun b H3 => if b = true then A H3 else B H3 := by
  show (if true = true then A H else B H)
  exact iteT h
/-- lists item by item -/
theorem snoc_at {α : Type} {R : Nat → α → Prop} {ys : List α} {y : α} (h : ∀ (j : Nat) v, ys[j]? = some v → R j v) (hy : R ys.length y) : ∀ (j : Nat) v, (ys ++ [y])[j]? = some v → R j v := by
  intro j v e
  by_cases hj : j < ys.length
  · rw [List.getElem?_append_left hj] at e
    exact h j v e
  · have ej : j = ys.length := by
      have l := (List.getElem?_eq_some_iff.mp e).1
      rw [List.length_append, List.length_singleton] at l
      omega
    rw [ej, List.getElem?_concat_length] at e
    cases Option.some.inj e
    rw [ej]
    exact hy
theorem bools_of {R : Nat → Bool → Prop} {ys : List V} (h : ∀ (j : Nat) v, ys[j]? = some v → ∃ b, v = .bl b ∧ R j b) : ∃ bs : List Bool, ys = bs.map V.bl ∧ bs.length = ys.length ∧ ∀ (j : Nat) b, bs[j]? = some b → R j b := by
  refine ⟨ys.map fun v => match v with | .bl b => b | _ => false, ?_, by rw [List.length_map], fun j b e => ?_⟩
  · rw [List.map_map]
    refine (List.map_id _).symm.trans (List.map_congr_left fun v hv => ?_)
    obtain ⟨j, hj⟩ := List.mem_iff_getElem?.mp hv
    obtain ⟨c, rfl, _⟩ := h j v hj
    rfl
  · rw [List.getElem?_map] at e
    cases ev : ys[j]? with
    | none => rw [ev] at e; cases e
    | some v =>
      rw [ev] at e
      obtain ⟨c, rfl, r⟩ := h j v ev
      have e2 : c = b := Option.some.inj e
      rw [← e2]
      exact r
/-- slots: a comprehension's own one -/
theorem wipe1 (st : L2.St) (i : Nat) (x : V) : wipe ((wipe st [i]).set i (some x)) [i] = wipe st [i] := by
  show ((st.set i none).set i (some x)).set i none = st.set i none
  rw [List.set_set, List.set_set]

/-- a dict's comprehension -/
theorem dc_it {J : It} {n : Nat} {G : Hp → Prop} {Y : Nat → Hp → V → Hp → Prop} (w : Walk J n G Y) {new : HO} {t : TStore} {g : TG} {tt : TT} {tk tv : TE} {vs : List Nat} {st : L2.St} {H1 : Hp} {D : Addr} {Qd : Hp → Prop}
    (Pv : Nat → Hp → Prop) (h0 : Pv 0 (upd H1 D new)) (hG : ∀ i H, i ≤ n → Pv i H → G H)
    (hs : ∀ i x H H2, i < n → Pv i H → Y i H x H2 → g x (wipe st vs) H2 fun s2 H2 => wipe s2 vs = wipe st vs ∧ tt s2 H2 fun b H3 => if b = true then tk s2 H3 fun y H4 => tv s2 H4 fun z H5 => t D y z H5 (Pv (i + 1)) else Pv (i + 1) H3)
    (hd : ∀ H, Pv n H → Qd H) :
    ∃ W : Nat → Nat → Hp → Prop, (∃ m, W 0 m (upd H1 D new)) ∧ ∀ i m Ha, W i m Ha →
      (J.stop i Ha ∧ Qd Ha) ∨
      (J.go i Ha ∧ ∃ Nx : Hp → Prop, (∀ Hb, Nx Hb → ∃ m2, m2 < m ∧ W (i + 1) m2 Hb) ∧ ∀ x Hb, J.yld i Ha x Hb →
        g x (wipe st vs) Hb fun st2 H2 => wipe st2 vs = wipe st vs ∧ tt st2 H2 fun b H3 =>
          if b = true then tk st2 H3 fun y H4 => tv st2 H4 fun z H5 => t D y z H5 Nx else Nx H3) := by
  refine ⟨fun i m H => m = n - i ∧ i ≤ n ∧ Pv i H, ⟨n, rfl, Nat.zero_le _, h0⟩, ?_⟩
  rintro i m H ⟨rfl, hi, p⟩
  have q := hG i H hi p
  by_cases lt : i < n
  · exact .inr ⟨w.goes i H lt q, Pv (i + 1), fun H2 p2 => ⟨n - (i + 1), by omega, rfl, lt, p2⟩, fun x H2 y => hs i x H H2 lt p (w.yields i H x H2 lt q y)⟩
  · have e : i = n := by omega
    subst e
    exact .inl ⟨w.stops H q, hd H p⟩

/-! ### scopes of a comprehension in a comprehension -/
def rel2 (sc outer : Scope) : Scope := { sc with names := sc.names.map fun (n, k) => if (k == .free && outer.kind == .function && outer.names.lookup n == some .cell) then (n, .cell) else (n, k) }
theorem blkOk_in {N : List Str} {env : Env} {sc2 scope outer : Scope} {own : List (Str × Nat)} (e : env.scope = outer) (h : blkC N (rel2 sc2 outer) scope own = true) : BlkOk N (relabel sc2 env) scope own := by
  subst e
  exact blkOk_by h

/-! ### a def and its promise, in one -/
structure Df (P : Program) (w : World) (K : PySem.W.Frag) (mg : Str → Option Value) (base : Heap) (k : Nat) (f : Addr) (x : Str) (ps : List Str) (sp : Sp) : Prop where
  ex : ∃ fd, FnOk P w K mg base CX0 k f fd ps sp ∧ Binds K fd ps []
  mgx : mg x = some (.ref f)
  kp : PySem.W.keepIn K (.ref f) = true
section
variable {X : Cx} {k : Nat} {f : Addr} {x : Str} {ps : List Str} {sp : Sp} {p pos : Pos} {e : Expr} {es : List Expr} {t : TA}
theorem pe_df (D : Df X.prog X.w X.K X.mg X.base k f x ps sp) (hr : Room k X.A) (hg : Gl X x) (ha : PA X (e :: es) t) (hdb : (x == ("__debug__" : Str)) = false := by decide)
    (he : starEach (e :: es) X.env = (false, eval e X.env) :: starEach es X.env := by rfl) (hpl : (backTo pos (starEach es X.env)).any (·.1) = false := by rfl) :
    PE X (.Call (.Name x p) (e :: es) [] pos) (tCall sp [] E0 t) := by
  obtain ⟨fd, F, b⟩ := D.ex
  exact pe_call F hr hg D.mgx D.kp b .nil pass0 ha hdb he hpl
end

/-! ### paths and masks in the heap -/
def IsP (H : Hp) (v : V) (p : Pth) : Prop := ∃ a, v = .ref a ∧ H a = some (.tup (p.map V.str))
abbrev Ps (H : Hp) : List V → List Pth → Prop := Paired (IsP H)
theorem IsP.keep {T : Addr → Prop} {H H2 : Hp} {v : V} {p : Pth} (h : IsP H v p) (k : Kp T H H2) (hT : ∀ a o, T a → H a = some o → ∀ xs, o ≠ .tup xs) : IsP H2 v p := by
  obtain ⟨a, e, h⟩ := h
  exact ⟨a, e, k a _ (fun t => hT a _ t h _ rfl) h⟩
theorem IsP.keep0 {H H2 : Hp} {v : V} {p : Pth} (h : IsP H v p) (k : Kp T0 H H2) : IsP H2 v p := h.keep k fun _ _ z => z.elim
theorem Ps.keep {T : Addr → Prop} {H H2 : Hp} {vs : List V} {ps : List Pth} (h : Ps H vs ps) (k : Kp T H H2) (hT : ∀ a o, T a → H a = some o → ∀ xs, o ≠ .tup xs) : Ps H2 vs ps := Paired.mapP h fun _ _ z => z.keep k hT
theorem Ps.keep0 {H H2 : Hp} {vs : List V} {ps : List Pth} (h : Ps H vs ps) (k : Kp T0 H H2) : Ps H2 vs ps := h.keep k fun _ _ z => z.elim
theorem Ps.get {H : Hp} : ∀ {vs : List V} {ps : List Pth} {i : Nat} {v : V}, Ps H vs ps → vs[i]? = some v → ∃ p, ps[i]? = some p ∧ IsP H v p
  | _, _, _, _, .nil, e => nomatch e
  | _, _, 0, _, .cons r _, e => by
    cases Option.some.inj e
    exact ⟨_, rfl, r⟩
  | _, _, i + 1, _, .cons _ t, e => Ps.get (i := i) t e
theorem Ps.snoc {H : Hp} : ∀ {vs : List V} {ps : List Pth} {v : V} {p : Pth}, Ps H vs ps → IsP H v p → Ps H (vs ++ [v]) (ps ++ [p])
  | _, _, _, _, .nil, h => .cons h .nil
  | _, _, _, _, .cons r t, h => .cons r (Ps.snoc t h)
theorem Ps.app {H : Hp} : ∀ {vs us : List V} {ps qs : List Pth}, Ps H vs ps → Ps H us qs → Ps H (vs ++ us) (ps ++ qs)
  | _, _, _, _, .nil, h => h
  | _, _, _, _, .cons r t, h => .cons r (Ps.app t h)
end Gk
/-! Gk12: promises of defs that are called while no repr is under way (repr of data wants to know that). -/
namespace Gk
open PySem PySem.Spec PyProof.Rows L2
/-- no repr is under way -/
def Free (A : Around) : Prop := A.guards = some []
structure FnG (P : Program) (w : World) (K : PySem.W.Frag) (mg : Str → Option Value) (base : Heap) (k : Nat) (f : Addr) (fd : FuncData) (ps : List Str) (sp : Sp) : Prop where
  len : ∀ vs H Q E, sp vs H Q E → vs.length = ps.length
  run : ∀ (A : Around) (outer : List Env) (s : Shared) (H : Hp) (args : Args) (us : List Value) (vs : List V) (Q : VK) (E : XK), Free A → Room k A → Env0 P w K mg base A outer s H → BindsTo s fd args (ps.zip us) → Vals vs us → sp vs H Q E →
    codeAny (model P w) A (.call (.ref f) args) (CR CX0 outer P w H s Q E) s
theorem fnG_ok {P : Program} {w : World} {K : PySem.W.Frag} {mg : Str → Option Value} {base : Heap} {k : Nat} {f : Addr} {fd : FuncData} {ps : List Str} {sp : Sp} (F : FnOk P w K mg base CX0 k f fd ps sp) : FnG P w K mg base k f fd ps sp :=
  ⟨F.len, fun A outer s H args us vs Q E _ hr e b r h => F.run A outer s H args us vs Q E hr e b r h⟩
theorem Free.deeper {A : Around} (h : Free A) (e : Env) : Free (A.deeper e) := h
theorem Free.in1 {A : Around} (h : Free A) : Free A.in1 := h
section
variable {P : Program} {w : World} {K : PySem.W.Frag} {mg : Str → Option Value} {base : Heap}
theorem fnG_by {nm qual : Str} {st : Stmt} {f : Addr} {fd : FuncData} {N ps : List Str} {k : Nat} {sp : Sp} (F : Fun K nm qual st f fd) (S : FnScope N ps (defScope st)) (len : ∀ vs H Q E, sp vs H Q E → vs.length = ps.length)
    (hbody : ∀ (cdv : Value) (A : Around) (outer : List Env) (s : Shared) (H : Hp) (vs : List V) (Q : VK) (E : XK), Free A → Room k (A.deeper (envOfC qual (defScope st) s.heap.objs.size f cdv)) → sp vs H Q E →
      ∃ t, PSs (cxOf CX0 P w K mg base N qual (defScope st) f cdv A outer s H E).nox (defBody st) t ∧ t { nx := fun _ H2 => Q .non H2, rt := Q } (start N vs) H) : FnG P w K mg base (k + 1) f fd ps sp := by
  obtain ⟨oc, od, kV, doc, pm, an, cdv, ct, osl, rfl, lk, hcd⟩ := F.ex
  refine ⟨len, fun A outer s H args us vs Q E hg room en bnd rel pr => ?_⟩
  have nl := len vs H Q E pr
  have inK : K.In s.heap := en.mod.kin.keeps fun b o e => (en.bs b o e).1
  have noLim : s.heap.NoLimit := en.mod.nolimit.keeps fun b o e => (en.bs b o e).1
  have kinds : ∀ y ∈ ps.zip us, (defScope st).names.lookup y.1 = some .local ∨ ((defScope st).names.lookup y.1 = some .cell ∧ ((cellsFrom (s.heap.objs.size + 1) (defScope st).names []).lookup y.1).isSome = true) := by
    intro y my
    obtain ⟨m1, _⟩ := List.of_mem_zip (show (y.1, y.2) ∈ ps.zip us from my)
    exact (S.par y.1 m1).imp id fun c => ⟨c, PySem.W.cellsFrom_some _ _ _ (.inl c)⟩
  refine codeAny_call_function room.depth (inK _ _ lk) rfl S.co S.gen rfl (PySem.W.codeRec_of inK hcd) (bnd _ _ _ _ (wpAny_newFunctionEnv_cells S.kind kinds fun ev hev s1 x => ?_))
  cases hev
  refine ⟨noLim.keeps x.toInCall.keep, codeAny_func ?_⟩
  obtain ⟨t, ht, go⟩ := hbody cdv A outer s H vs Q E hg (room.deeper _) pr
  have inv : Inv (cxOf CX0 P w K mg base N qual (defScope st) f cdv A outer s H E) [] (start N vs) H s1 := inv_start S room.hd en nl rel x
  have done : ∀ {st2 : L2.St} {H2 : Hp} {s2 : Shared} {v : V} {u : Value}, Inv (cxOf CX0 P w K mg base N qual (defScope st) f cdv A outer s H E) [] st2 H2 s2 → RelV v u → Q v H2 → CE outer P w H s Q u s2 :=
    fun {st2 H2 s2 v u} J rv q => ⟨v, H2, J.os, J.bare, J.base, J.hok, rv, q⟩
  refine wpAny_mono (ht.nox.run [] s1 (start N vs) H _ inv go) (fun fl s2 h => ?_) fun _ _ h => h
  match fl, h with
  | .ret u, ⟨v, st2, H2, J, rv, q⟩ => exact done J rv q
  | .next, ⟨st2, H2, J, q⟩ => exact done (v := V.non) (u := Value.none) J rfl q
  | .brk, ⟨_, _, _, q⟩ => exact q.elim
  | .cont, ⟨_, _, _, q⟩ => exact q.elim
end
/-- a def of the module and such a promise -/
structure DfG (P : Program) (w : World) (K : PySem.W.Frag) (mg : Str → Option Value) (base : Heap) (k : Nat) (f : Addr) (x : Str) (ps : List Str) (sp : Sp) : Prop where
  ex : ∃ fd, FnG P w K mg base k f fd ps sp ∧ Binds K fd ps []
  mgx : mg x = some (.ref f)
  kp : PySem.W.keepIn K (.ref f) = true
section
variable {X : Cx} {k : Nat} {f : Addr} {x : Str} {ps : List Str} {sp : Sp} {p pos : Pos} {e : Expr} {es : List Expr} {t : TA}
theorem pe_dfG (D : DfG X.prog X.w X.K X.mg X.base k f x ps sp) (hf : Free X.A) (hr : Room k X.A) (hg : Gl X x) (ha : PA X (e :: es) t) (hdb : (x == ("__debug__" : Str)) = false := by decide)
    (he : starEach (e :: es) X.env = (false, eval e X.env) :: starEach es X.env := by rfl) (hpl : (backTo pos (starEach es X.env)).any (·.1) = false := by rfl) :
    PE X (.Call (.Name x p) (e :: es) [] pos) (tCall sp [] E0 t) := by
  obtain ⟨fd, F, hb⟩ := D.ex
  constructor
  intro pins s st H Q I h
  refine wpAny_Call_Name_kw (ld_glob I hg D.mgx ?_ hdb)
  refine PySem.W.callWith_K (h₀ := X.base) I.ok.mod.kin D.kp (thn (ha.run pos pins s st H _ I h) fun us s1 z => ?_) he hpl
  obtain ⟨vs, H1, I1, r, q⟩ := z
  refine ⟨I1.kIn, ?_⟩
  rw [List.append_nil] at q
  have hl : us.length = ps.length := r.length.symm.trans (F.len _ _ _ _ q)
  have bd := hb s1 us I1.kIn (by rw [List.append_nil]; exact hl)
  rw [List.append_nil] at bd
  refine wpAny_call (codeAny_mono (F.run X.A X.stack s1 H1 ⟨us, []⟩ us vs Q E0 hf hr I1.env0 bd r q) ?_)
  intro res s2 q2
  match res, q2 with
  | .error e, q2 => exact pass0 pins st H1 s1 e s2 I1 q2
  | .ok (.ret u), q2 => exact I1.after q2
  | .ok .next, q2 => exact q2.elim
  | .ok .brk, q2 => exact q2.elim
  | .ok .cont, q2 => exact q2.elim
end
end Gk
/-! Gk13: a law's end where its promise is an FnG. -/
namespace Gk
open PySem PySem.Spec PyProof.Rows L2
/-- the script, seen through an abstract heap that tracks it alone, or nothing -/
theorem script_seen {P : Program} {w : World} {K : PySem.W.Frag} {s : Shared} {a : Addr} {vs : List Value} {ns : List Int} (KX : K.In s.heap) (ha : s.heap.get? a = some { cls := .type "list", data := .seq vs.toArray }) (hi : IntsAre vs ns) (hl : ns.length ≤ sizeLine) :
    ∃ H : Hp, Only H ∧ SqL K H a (ns.map V.int) ∧ HOk P w H s.heap ∧ (∀ b o, K.lookup b = some o → H b = none) ∧ ∀ b (o : Obj) es ep, s.heap.get? b = some o → o.data = .dict es ep → H b = none := by
  have rel := vals_ints hi
  cases hk : K.lookup a with
  | some o =>
    have same := KX a o hk
    rw [ha] at same
    cases same
    refine ⟨fun _ => none, fun _ => .inl rfl, .inr ⟨_, vs.toArray, _, hk, rfl, rfl, rfl, ?_, by simpa using rel⟩, (fun b u z => nomatch (show (none : Option HO) = some u from z)), fun _ _ _ => rfl, fun _ _ _ _ _ _ => rfl⟩
    rw [List.size_toArray, hi.length]
    exact hl
  | none =>
    let so : Obj := { cls := .type "list", data := .seq vs.toArray }
    refine ⟨fun b => if b = a then some (.frz so (.lst (ns.map V.int))) else none, fun b => ?_, .inl (.inr ⟨so, if_pos rfl⟩), fun b u z => ?_, fun b o e => ?_, fun b o es ep e d => ?_⟩
    · by_cases c : b = a
      · exact .inr ⟨_, _, if_pos c⟩
      · exact .inl (if_neg c)
    · by_cases c : b = a
      · cases (if_pos c).symm.trans z
        cases c
        exact ⟨ha, by rw [List.length_map]; exact hl, vs, _, rel, ha⟩
      · cases (if_neg c).symm.trans z
    · refine if_neg fun c => ?_
      cases c
      rw [hk] at e
      cases e
    · refine if_neg fun c => ?_
      cases c
      rw [ha] at e
      cases e
      exact nomatch (show Data.seq vs.toArray _ = Data.dict es ep from d)
theorem callerFree : Free callerA := rfl
theorem lawG_call {P : Program} {w : World} {K : PySem.W.Frag} {mg mb : Str → Option Value} {k : Nat} {fa a : Addr} {fd : FuncData} {x : Str} {sp : Sp} {s : Shared} {vs : List Value} {ns : List Int}
    (KX : K.In s.heap) (hm : s.heap.Ns mainGlobals mg) (hb : s.heap.Ns builtinsNs mb) (hbb : ∀ y : Str, y ≠ "__name__" → mb y = bootBuiltins y) (lim : s.heap.NoLimit) (hg : s.gens = #[])
    (ha : s.heap.get? a = some { cls := .type "list", data := .seq vs.toArray }) (hi : IntsAre vs ns) (hl : ns.length ≤ sizeLine) (room : Room k callerA)
    (F : ∀ base : Heap, K.In base → base.Ns mainGlobals mg → FnG P w K mg base k fa fd [x] sp) (bnd : ∀ (s : Shared) (u : Value), BindsTo s fd ⟨[u], []⟩ [(x, u)])
    (hsp : ∀ H : Hp, Only H → SqL K H a (ns.map V.int) → sp [.ref a] H (fun v _ => v = .bl true) fun _ _ _ => False) :
    codeAny (model P w) callerA (.call (.ref fa) ⟨[.ref a], []⟩) (fun r s2 => r = .ok (.ret (.bool true)) ∧ OldK s.heap s2.heap ∧ s2.os = s.os ∧ AllBare s2.gens) s := by
  obtain ⟨H, only, seen, ok, noK, noD⟩ := script_seen (P := P) (w := w) KX ha hi hl
  have nsOf : ∀ {b : Addr} {m : Str → Option Value}, s.heap.Ns b m → (hidT s.heap H).Ns b m := by
    rintro b m ⟨o, es, ep, e, d, r⟩
    exact ⟨o, es, ep, hidT_get e (noD b o es ep e d), d, r⟩
  have inB : K.In (hidT s.heap H) := fun b o e => hidT_get (KX b o e) (noK b o e)
  obtain ⟨mc, l1, l2⟩ := lim
  have md : Mod K mg (hidT s.heap H) := ⟨inB, nsOf hm, ⟨mb, nsOf hb, hbb⟩, mc, nsOf l1, l2⟩
  have en : Env0 P w K mg (hidT s.heap H) callerA [] s H := ⟨rfl, md, fun b o e => of_hidT e, Nat.le_of_eq (hidT_size _ _), trivial, (fun b z => nomatch (show b ∈ ([] : List Addr) from z)), ok, .of_eq hg⟩
  refine codeAny_mono ((F _ inB (nsOf hm)).run callerA [] s H ⟨[.ref a], []⟩ [.ref a] [.ref a] _ _ callerFree room en (bnd s (.ref a)) (.cons rfl .nil) (hsp H only seen)) fun r s2 q => ?_
  match r, q with
  | .error e, q => exact (show False from q).elim
  | .ok .next, q => exact q.elim
  | .ok .brk, q => exact q.elim
  | .ok .cont, q => exact q.elim
  | .ok (.ret u), ⟨v, H2, os, bare, un, ok2, rv, qv⟩ =>
    cases (show v = V.bl true from qv)
    cases rv
    refine ⟨rfl, OldK.of_keep fun b o e => ?_, os, bare⟩
    rcases only b with z | ⟨ob, xs, z⟩
    · exact un.keep b o e z (fun m => nomatch (show b ∈ ([] : List Addr) from m)) (fun m => nomatch m)
    · obtain ⟨g1, _⟩ := ok b _ z
      obtain ⟨g2, _⟩ := ok2 b _ (un.frzs b ob _ z)
      rw [e] at g1
      cases g1
      exact g2
theorem walkG {l : PySem.W.OpenLaw} {n k : Nat} {q : Program} {loose : List Str} {XP : (Str → Option Value) → Heap → Prop} {YP : World → Heap → Prop} {d : DefRec} {K : Params → PySem.W.Frag} {sp : World → Sp} {x : Str}
    (hn : l.most = some n) (hn2 : n ≤ sizeLine) (hdf : d.params.defaults = []) (hr : Room k callerA) (hY : ∀ (w : World) (h : Heap), YP w h → (K w.params).In h)
    (F : ∀ (w : World) (mg : Str → Option Value) (fa : Addr) (h : Heap), (K w.params).In h → h.Ns mainGlobals mg → mg d.name = some (.ref fa) →
      ∃ fd : FuncData, (∀ (s : Shared) (u : Value), BindsTo s fd ⟨[u], []⟩ [(x, u)]) ∧ ∀ base : Heap, (K w.params).In base → base.Ns mainGlobals mg → FnG l.prog w (K w.params) mg base k fa fd [x] (sp w))
    (hsp : ∀ (w : World) (H : Hp) (a : Addr) (ns : List Int), ns.length ≤ n → (∀ z ∈ ns, Builtin.Int.intBits z ≤ 1048576) → Only H → SqL (K w.params) H a (ns.map V.int) → sp w [.ref a] H (fun v _ => v = .bl true) fun _ _ _ => False) :
    PySem.W.WalkO q loose XP YP l.row.toRowW d [] (fun f vs => PySem.call f vs) := by
  refine Att.attach_callB hn hdf fun w s₀ s mg mb fa o pm cd doc a vs ns G Y ho hd hcd hmg hobj hints hlen hbits hg => ?_
  obtain ⟨fd, bnd, hF⟩ := F w mg fa _ (hY w _ Y) G.T.g hmg
  exact lawG_call (hY w _ Y) G.T.g G.T.b G.T.builtins G.T.nolimit hg hobj hints (Nat.le_trans hlen hn2) hr hF bnd fun H hO hS => hsp w H a ns hlen hbits hO hS
end Gk
/-! Gk5: names and paths, as plain data. -/
namespace Gk
open PySem PySem.Spec PyProof.Rows L2

/-! ### names -/
def LET : Str := "abcdefghijklmnopqrstuvwxyz"
def isLet (x : Str) (lo hi : Int) : Bool := decide (lo ≤ (x.length : Int)) && decide ((x.length : Int) ≤ hi) && x.cps.toList.all fun c => decide (c ∈ LET.cps.toList)
def isNm (x : Str) : Bool := isLet x 1 8
theorem all_seq (p : Nat → Bool) (x : Str) (bs : List Bool) (hl : bs.length = x.cps.size) (h : ∀ (i : Nat) b, bs[i]? = some b → ∃ c, x.cps[i]? = some c ∧ b = p c) : bs.all id = x.cps.toList.all p := by
  have e : bs = x.cps.toList.map p := by
    refine List.ext_getElem (by rw [List.length_map, Array.length_toList]; exact hl) fun i h1 h2 => ?_
    obtain ⟨c, e1, e2⟩ := h i bs[i] (List.getElem?_eq_getElem h1)
    rw [e2, List.getElem_map]
    congr 1
    rw [Array.getElem?_eq_some_iff] at e1
    obtain ⟨g1, g2⟩ := e1
    rw [← g2, Array.getElem_toList]
  rw [e, List.all_map]
  rfl
theorem let_small : ∀ c ∈ LET.cps.toList, c < 128 := by decide +kernel
theorem isLet_ok {x : Str} {lo hi : Int} (h : isLet x lo hi = true) : PyData.strOk x = true ∧ lo ≤ (x.length : Int) ∧ (x.length : Int) ≤ hi := by
  unfold isLet at h
  rw [Bool.and_eq_true, Bool.and_eq_true] at h
  obtain ⟨⟨h1, h2⟩, h3⟩ := h
  refine ⟨?_, of_decide_eq_true h1, of_decide_eq_true h2⟩
  unfold PyData.strOk
  rw [Array.all_eq_true']
  intro c hc
  have q := List.all_eq_true.mp h3 c (Array.mem_toList_iff.mpr hc)
  have l := let_small c (of_decide_eq_true q)
  exact decide_eq_true (by omega)
theorem isNm_ok {x : Str} (h : isNm x = true) : PyData.strOk x = true ∧ x.length < sizeLine := by
  obtain ⟨h1, _, h3⟩ := isLet_ok h
  exact ⟨h1, by rw [sizeLine_eq]; omega⟩

/-- a value that is no text; none that is a tuple -/
def NoStr (K : PySem.W.Frag) (H : Hp) (v : V) : Prop := ∃ t, TyX K H v t ∧ PySem.W.kitOne K t (.type "str") = some false
def NoTup (K : PySem.W.Frag) (H : Hp) (v : V) : Prop := ∃ t, TyX K H v t ∧ PySem.W.kitOne K t (.type "tuple") = some false
theorem tyx_keep {K : PySem.W.Frag} {H H2 : Hp} {v : V} {t : Value} (h : TyX K H v t) (k : Kp T0 H H2) : TyX K H2 v t := by
  cases h with
  | base b =>
    refine .base ?_
    cases b with
    | non => exact .non
    | bl x => exact .bl x
    | int i => exact .int i
    | str x => exact .str x
    | flt x => exact .flt x
    | lst e => exact .lst (k.at0 e)
    | frz e => exact .frz (k.at0 e)
    | tup e => exact .tup (k.at0 e)
    | dK e => exact .dK (k.at0 e)
    | dT e => exact .dT (k.at0 e)
    | ins e c h1 h2 h3 h4 => exact .ins (k.at0 e) c h1 h2 h3 h4
  | byt b => exact .byt b
  | set e => exact .set (k.at0 e)
  | kList e c => exact .kList e c
  | kTuple e c => exact .kTuple e c
  | kDict e c => exact .kDict e c
  | fTuple e => exact .fTuple (k.at0 e)
  | fDict e => exact .fDict (k.at0 e)
theorem NoStr.keep0 {K : PySem.W.Frag} {H H2 : Hp} {v : V} (h : NoStr K H v) (k : Kp T0 H H2) : NoStr K H2 v := by
  obtain ⟨t, a, b⟩ := h
  exact ⟨t, tyx_keep a k, b⟩
theorem NoTup.keep0 {K : PySem.W.Frag} {H H2 : Hp} {v : V} (h : NoTup K H v) (k : Kp T0 H H2) : NoTup K H2 v := by
  obtain ⟨t, a, b⟩ := h
  exact ⟨t, tyx_keep a k, b⟩
/-- an item of a row and whether it is a name -/
def ItN (K : PySem.W.Frag) (H : Hp) (v : V) (r : Bool) : Prop := (∃ x : Str, v = .str x ∧ x.length < sizeLine ∧ r = isNm x) ∨ (NoStr K H v ∧ r = false)
theorem ItN.keep0 {K : PySem.W.Frag} {H H2 : Hp} {v : V} {r : Bool} (h : ItN K H v r) (k : Kp T0 H H2) : ItN K H2 v r :=
  h.imp id fun z => ⟨z.1.keep0 k, z.2⟩

/-! ### paths as data -/
abbrev dP (p : Pth) : PyData := .tuple (p.map PyData.str)
abbrev dM (ps : List Pth) : PyData := .tuple (ps.map dP)
theorem dp_strs {K : PySem.W.Frag} {H : Hp} : ∀ p : Pth, DpAll K H (p.map V.str) (p.map PyData.str)
  | [] => .nil
  | x :: p => .cons (.str x) (dp_strs p)
theorem IsP.dp {K : PySem.W.Frag} {H : Hp} {v : V} {p : Pth} (h : IsP H v p) : Dp K H v (dP p) := by
  obtain ⟨a, rfl, h⟩ := h
  exact .tup (SqT.of h) (dp_strs p)
theorem Ps.dp {K : PySem.W.Frag} {H : Hp} : ∀ {vs : List V} {ps : List Pth}, Ps H vs ps → DpAll K H vs (ps.map dP)
  | _, _, .nil => .nil
  | _, _, .cons r t => .cons (IsP.dp r) (Ps.dp t)
theorem eqv_strs : ∀ p q : Pth, PyData.eqvAll (p.map PyData.str) (q.map PyData.str) = decide (p = q)
  | [], [] => by rw [decide_eq_true rfl] <;> rfl
  | [], _ :: _ => by rw [decide_eq_false (by intro e; cases e)] <;> rfl
  | _ :: _, [] => by rw [decide_eq_false (by intro e; cases e)] <;> rfl
  | x :: p, y :: q => by
    show (PyData.eqv (.str x) (.str y) && PyData.eqvAll (p.map PyData.str) (q.map PyData.str)) = _
    rw [eqv_strs p q]
    show (x == y && decide (p = q)) = _
    by_cases h1 : x = y
    · subst h1
      rw [beq_self_eq_true, Bool.true_and]
      exact decide_eq_decide.mpr ⟨fun e => by rw [e], fun e => by injection e⟩
    · rw [beq_eq_false_iff_ne.mpr h1, Bool.false_and, decide_eq_false]
      intro e
      injection e with e1 e2
      exact h1 e1
theorem eqv_dP (p q : Pth) : PyData.eqv (dP p) (dP q) = decide (p = q) := eqv_strs p q
theorem eqv_paths : ∀ ps qs : List Pth, PyData.eqvAll (ps.map dP) (qs.map dP) = decide (ps = qs)
  | [], [] => by rw [decide_eq_true rfl] <;> rfl
  | [], _ :: _ => by rw [decide_eq_false (by intro e; cases e)] <;> rfl
  | _ :: _, [] => by rw [decide_eq_false (by intro e; cases e)] <;> rfl
  | p :: ps, q :: qs => by
    show (PyData.eqv (dP p) (dP q) && PyData.eqvAll (ps.map dP) (qs.map dP)) = _
    rw [eqv_paths ps qs, eqv_dP]
    by_cases h1 : p = q
    · subst h1
      rw [decide_eq_true rfl, Bool.true_and]
      exact decide_eq_decide.mpr ⟨fun e => by rw [e], fun e => by injection e⟩
    · rw [decide_eq_false h1, Bool.false_and, decide_eq_false]
      intro e
      injection e with e1 e2
      exact h1 e1
theorem eqv_dM (ps qs : List Pth) : PyData.eqv (dM ps) (dM qs) = decide (ps = qs) := eqv_paths ps qs
/-- a path whose parts are names -/
def OkN (p : Pth) : Prop := ∀ x ∈ p, isNm x = true
def OkP (p : Pth) : Prop := OkN p ∧ p.length ≤ 1000
theorem lay_dN {p : Pth} (h : OkN p) : (dP p).canLay0 = true := by
  show PyData.canLayAll0 (p.map PyData.str) = true
  induction p with
  | nil => rfl
  | cons x p ih =>
    show (PyData.canLay0 (.str x) && PyData.canLayAll0 (p.map PyData.str)) = true
    rw [ih fun y hy => h y (List.mem_cons_of_mem _ hy), Bool.and_true]
    exact (isNm_ok (h x List.mem_cons_self)).1
theorem lay_dP {p : Pth} (h : OkP p) : (dP p).canLay0 = true := lay_dN h.1
theorem depth_dP (p : Pth) : (dP p).depth ≤ 1 := by
  have e : PyData.depthAll (p.map PyData.str) = 0 := by
    induction p with
    | nil => rfl
    | cons x p ih =>
      show max (PyData.depth (.str x)) (PyData.depthAll (p.map PyData.str)) = 0
      rw [ih] <;> rfl
  show PyData.depthAll (p.map PyData.str) + 1 ≤ 1
  omega
theorem shaped_dP {p : Pth} (h : OkP p) : SeqAt.shaped (dP p) = true := by
  unfold SeqAt.shaped
  rw [lay_dP h, Bool.true_and]
  have := depth_dP p
  exact decide_eq_true (by omega)
theorem shaped_dM {ps : List Pth} (h : ∀ p ∈ ps, OkP p) : SeqAt.shaped (dM ps) = true := by
  have h1 : PyData.canLayAll0 (ps.map dP) = true := by
    induction ps with
    | nil => rfl
    | cons p ps ih =>
      show (PyData.canLay0 (dP p) && PyData.canLayAll0 (ps.map dP)) = true
      rw [ih fun y hy => h y (List.mem_cons_of_mem _ hy), lay_dP (h p List.mem_cons_self)] <;> rfl
  have h2 : PyData.depthAll (ps.map dP) ≤ 1 := by
    clear h1
    induction ps with
    | nil => exact Nat.zero_le _
    | cons p ps ih =>
      show max (PyData.depth (dP p)) (PyData.depthAll (ps.map dP)) ≤ 1
      exact Nat.max_le.mpr ⟨depth_dP p, ih fun y hy => h y (List.mem_cons_of_mem _ hy)⟩
  unfold SeqAt.shaped
  rw [show (dM ps).canLay0 = true from h1, Bool.true_and]
  exact decide_eq_true (by show PyData.depthAll (ps.map dP) + 1 ≤ 64; omega)

/-! ### promises of names.py -/
def spIsLetters (K : PySem.W.Frag) : Sp := fun vs H Q _ => ∃ (v : V) (lo hi : Int), vs = [v, .int lo, .int hi] ∧
  ((∃ x : Str, v = .str x ∧ x.length < sizeLine ∧ ∀ H2, Kp T0 H H2 → Q (.bl (isLet x lo hi)) H2) ∨ (NoStr K H v ∧ Q (.bl false) H))
def spIsName (K : PySem.W.Frag) : Sp := fun vs H Q _ => ∃ (v : V) (r : Bool), vs = [v] ∧ ItN K H v r ∧ ∀ H2, Kp T0 H H2 → Q (.bl r) H2

/-! ### rows, what covers -/
section
variable {X : Cx}
/-- a != b over data of any depth that one side bounds -/
def rNeL (K : PySem.W.Frag) (u : Nat) : R2 := fun x y H Q => ∃ d e, Dp K H x d ∧ Dp K H y e ∧ d.canLay0 = true ∧ e.canLay0 = true ∧ u + min d.depth e.depth < cLine ∧ Q (.bl (!PyData.eqv d e)) H
theorem op_neL : OpR X (compareOp .NotEq) (rNeL X.K X.A.units) := by
  intro ps s st H x y v u Q I rx ry h
  obtain ⟨d, e, hd, he, ld, le, hu, q⟩ := h
  obtain ⟨ads, r1⟩ := Dp.reads I d x v hd rx
  obtain ⟨bds, r2⟩ := Dp.reads I e y u he ry
  exact SeqAt.compareNe_reads r1 r2 ld le hu ⟨.bl _, H, I, rfl, q⟩
end
theorem eqv_nil (ds : List PyData) : PyData.eqv (.tuple ds) (.tuple []) = ds.isEmpty := by
  cases ds <;> rfl
def spIsRow (K : PySem.W.Frag) : Sp := fun vs H Q _ => ∃ (v : V) (r : Bool), vs = [v] ∧
  ((∃ (a : Addr) (xs : List V) (rs : List Bool) (ds : List PyData), v = .ref a ∧ H a = some (.tup xs) ∧ Paired (ItN K H) xs rs ∧ DpAll K H xs ds ∧ (PyData.tuple ds).canLay0 = true ∧ xs.length < sizeLine ∧ r = (!xs.isEmpty && rs.all id)) ∨ (NoTup K H v ∧ r = false)) ∧
  ∀ H2, Kp T0 H H2 → Q (.bl r) H2
def beginsP (p f : Pth) : Bool := decide (p.take f.length = f)
def coversP (ps : List Pth) (p : Pth) : Bool := ps.any (beginsP p)
def spBegins : Sp := fun vs H Q _ => ∃ (v u : V) (p f : Pth), vs = [v, u] ∧ IsP H v p ∧ IsP H u f ∧ OkP p ∧ OkP f ∧ ∀ H2, Kp T0 H H2 → Q (.bl (beginsP p f)) H2
def spCovers : Sp := fun vs H Q _ => ∃ (a : Addr) (xs : List V) (ps : List Pth) (v : V) (p : Pth), vs = [.ref a, v] ∧ H a = some (.tup xs) ∧ Ps H xs ps ∧ xs.length < sizeLine ∧ (∀ f ∈ ps, OkP f) ∧ IsP H v p ∧ OkP p ∧
  ∀ H2, Kp T0 H H2 → Q (.bl (coversP ps p)) H2
theorem OkP.take {p : Pth} (h : OkP p) (n : Nat) : OkP (p.take n) := ⟨fun x hx => h.1 x (List.mem_of_mem_take hx), Nat.le_trans (by rw [List.length_take]; exact Nat.min_le_right _ _) h.2⟩
theorem cut_take (xs : List V) (n : Nat) : cutV xs none (some (n : Int)) = xs.take n := by
  unfold cutV
  rw [HT.sIx_none, HT.sIx_nat, List.drop_zero, Nat.sub_zero]
  rcases Nat.le_total n xs.length with h | h
  · rw [Nat.min_eq_left h]
  · rw [Nat.min_eq_right h, List.take_of_length_le h, List.take_length]
theorem cut_whole {xs : List V} {n : Nat} (h : HT.sIx xs.length xs.length (some (n : Int)) = xs.length) : xs.take n = xs := by
  rw [HT.sIx_nat] at h
  exact List.take_of_length_le (by omega)
theorem OkN.items {K : PySem.W.Frag} {H : Hp} {p : Pth} (h : OkN p) : Paired (ItN K H) (p.map V.str) (p.map fun _ => true) := by
  induction p with
  | nil => exact .nil
  | cons x p ih =>
    have hx := h x List.mem_cons_self
    exact .cons (.inl ⟨x, rfl, (isNm_ok hx).2, hx.symm⟩) (ih fun y hy => h y (List.mem_cons_of_mem _ hy))
mutual
theorem dp_keep {K : PySem.W.Frag} {H H2 : Hp} (k : Kp T0 H H2) : ∀ {v : V} {d : PyData}, Dp K H v d → Dp K H2 v d
  | _, _, .non => .non
  | _, _, .bl b => .bl b
  | _, _, .int i => .int i
  | _, _, .str x => .str x
  | _, _, .lst a t => .lst (SqL.ext a fun b o e => k.at0 e) (dpAll_keep t k)
  | _, _, .tup a t => .tup (SqT.ext a fun b o e => k.at0 e) (dpAll_keep t k)
theorem dpAll_keep {K : PySem.W.Frag} {H H2 : Hp} : ∀ {vs : List V} {ds : List PyData}, DpAll K H vs ds → Kp T0 H H2 → DpAll K H2 vs ds
  | _, _, .nil, _ => .nil
  | _, _, .cons a t, k => .cons (dp_keep k a) (dpAll_keep t k)
end
end Gk
namespace Lw
open PySem L2 Gk
def topS (i : Nat) : Stmt := PySem.Challenge.pw_maskwrites_k06_values_of_paths.main.body.getD i (.Pass ⟨0, 0, 0, 0⟩)
abbrev sIsLetters : Stmt := topS 9
abbrev sIsName : Stmt := topS 10

structure TxtN (K : PySem.W.Frag) (mg : Str → Option Value) : Prop where
  z_isinstance : mg "isinstance" = none
  z_str : mg "str" = none
  z_len : mg "len" = none
  z_all : mg "all" = none
  v_LETTERS : ∃ t, mg "LETTERS" = some (.str LET t)
  v_MOST_NAME : ∃ t, mg "MOST_NAME" = some (.int 8 t)
section
variable {P : Program} {w : World} {K : PySem.W.Frag} {mg : Str → Option Value} {base : Heap}
theorem scIsLetters : FnScope ["value", "least", "most", "sign"] ["value", "least", "most"] (defScope sIsLetters) := ⟨rfl, rfl, rfl, by decide +kernel, rfl, by decide +kernel, by decide +kernel⟩
theorem ok_is_letters {f : Addr} {fd : FuncData} (F : Fun K "is_letters" "is_letters" sIsLetters f fd) (T : TxtN K mg) : FnOk P w K mg base CX0 1 f fd ["value", "least", "most"] (spIsLetters K) := by
  refine F.ok scIsLetters (fun vs H Q E h => ?_) (fun cdv A outer s H vs Q E hr h => ?_)
  · obtain ⟨v, lo, hi, rfl, _⟩ := h
    rfl
  · obtain ⟨v, lo, hi, rfl, h⟩ := h
    obtain ⟨tL, mL⟩ := T.v_LETTERS
    refine ⟨_, pss_one (ps_ret (pe_and (pe_callB call_isi (by rfl) T.z_isinstance (by decide +kernel) (pa_cons (pv 0) (pa_cons (pe_bltn (v := .ty "str") (by rfl) T.z_str (by decide +kernel) rfl) pa_nil)))
      (pe_and (pe_chain op_le op_le (pv 1) (pe_callB call_len (by rfl) T.z_len PySem.boot_len (pa_cons (pv 0) pa_nil)) (pv 2))
      (pe_one (pe_callB (cr_all rfl) (by rfl) T.z_all (by decide +kernel) (pa_cons (pe_lc (own := [("sign", 3)]) (g := gName 3) (tt := tYes) rfl scIsLetters.nd (pi_str (pv 0))
        (blkOk_by (N := ["value", "least", "most", "sign"]) (sc := defScope sIsLetters) (by decide +kernel)) (fun _ _ _ _ _ => pg_name (i := 3) scIsLetters.nd rfl (Or.inl rfl)) (fun _ _ _ _ _ => pts_nil)
        (fun _ _ _ _ _ => pe_cmpR op_in_sign (pv 3) (pe_glob (v := .str LET) (by rfl) mL ⟨_, rfl⟩) (by rfl))) pa_nil)))))), ?_⟩
    rcases h with ⟨x, rfl, hx, k⟩ | ⟨⟨t, ty, kit⟩, k⟩
    · refine ⟨_, rfl, _, _, _, _, true, rfl, .ty "str", .base (.str x), kit_ty (by decide +kernel), true, rfl, ?_⟩
      refine iteT ?_
      refine ⟨_, rfl, _, rfl, _, _, rfl, ⟨Nat.le_of_lt hx, rfl⟩, _, _, rfl, rfl, _, rfl, ?_⟩
      have fls : ∀ H2 : Hp, Kp T0 H H2 → isLet x lo hi = false → Q (.bl false) H2 := fun H2 k2 e => by
        have q := k H2 k2
        rw [e] at q
        exact q
      refine ite2 (fun h1 => ?_) (fun h1 => ?_)
      · refine ⟨_, rfl, _, _, rfl, rfl, _, rfl, ?_⟩
        refine ite2 (fun h2 => ?_) (fun h2 => ?_)
        · refine ⟨_, rfl, x, rfl, fun D hD => ?_⟩
          refine lc_kp (T := T0) walk_str (i0 := 3) (fun i v => ∃ c, x.cps[i]? = some c ∧ v = .str ⟨#[c]⟩) (fun i ys _ => ys.length = i ∧ ∀ (j : Nat) v, ys[j]? = some v → ∃ b, v = .bl b ∧ ∃ c, x.cps[j]? = some c ∧ b = decide (c ∈ LET.cps.toList))
            (fun i H1 v H2 _ y => y) hD id hx (wipe1 _ 3) (fun _ _ => True.intro) ⟨rfl, fun j v e => by simp at e⟩ (fun i v ys H1 Ky Kn hi sx _ _ p ky _ => ?_) (fun ys H1 k1 d1 _ p => ?_)
          · obtain ⟨c, hc, rfl⟩ := sx
            refine yes_ ?_
            refine ⟨_, rfl, c, LET, rfl, rfl, ky _ _ (Kp.refl _) ⟨by rw [List.length_append, p.1]; rfl, snoc_at p.2 ⟨_, rfl, c, by rw [p.1]; exact hc, rfl⟩⟩⟩
          · obtain ⟨bs, eb, lb, hb⟩ := bools_of p.2
            refine ⟨D, bs, rfl, SqL.of (by rw [d1, eb]), ?_⟩
            have q := k H1 k1
            have ea := all_seq (fun c => decide (c ∈ LET.cps.toList)) x bs (lb.trans p.1) hb
            unfold isLet at q
            rw [h1, h2, Bool.true_and, Bool.true_and, ← ea] at q
            exact q
        · exact fls H (Kp.refl H) (by unfold isLet; rw [(Bool.not_eq_true _).mp h2, Bool.and_false, Bool.false_and])
      · exact ⟨false, rfl, iteF (fls H (Kp.refl H) (by unfold isLet; rw [(Bool.not_eq_true _).mp h1, Bool.false_and, Bool.false_and]))⟩
    · refine ⟨_, rfl, _, _, _, _, false, rfl, .ty "str", ty, kit, false, rfl, ?_⟩
      exact iteF k
theorem scIsName : FnScope ["value"] ["value"] (defScope sIsName) := ⟨rfl, rfl, rfl, by decide +kernel, rfl, by decide +kernel, by decide +kernel⟩
theorem ok_is_name {f fL : Addr} {fd : FuncData} (F : Fun K "is_name" "is_name" sIsName f fd) (T : TxtN K mg) (DL : Df P w K mg base 1 fL "is_letters" ["value", "least", "most"] (spIsLetters K)) :
    FnOk P w K mg base CX0 2 f fd ["value"] (spIsName K) := by
  refine F.ok scIsName (fun vs H Q E h => ?_) (fun cdv A outer s H vs Q E hr h => ?_)
  · obtain ⟨v, r, rfl, _⟩ := h
    rfl
  · obtain ⟨v, r, rfl, it, k⟩ := h
    obtain ⟨tM, mM⟩ := T.v_MOST_NAME
    refine ⟨_, pss_one (ps_ret (pe_df DL hr (by rfl) (pa_cons (pv 0) (pa_cons pe_int (pa_cons (pe_glob (v := .int 8) (by rfl) mM ⟨_, rfl⟩) pa_nil))))), ?_⟩
    refine ⟨_, rfl, _, 1, 8, rfl, ?_⟩
    rcases it with ⟨x, rfl, hx, rfl⟩ | ⟨ns, rfl⟩
    · exact .inl ⟨x, rfl, hx, k⟩
    · exact .inr ⟨ns, k H (Kp.refl H)⟩
end
end Lw
/-! Gk38: match, the subject a tuple of texts. -/
namespace Gk
open PySem PySem.Spec PyProof.Rows L2
/-- what a pattern binds -/
abbrev Bnd := List (Str × Str)
def BRel : Option Bnd → Option (List (Str × Value)) → Prop
  | none, none => True
  | some bs, some us => Paired (fun b u => u.1 = b.1 ∧ RelV (V.str b.2) u.2) bs us
  | _, _ => False
theorem brel_none {r : Option (List (Str × Value))} (h : BRel none r) : r = none := by
  cases r with
  | none => rfl
  | some us => exact h.elim
theorem brel_some {bs : Bnd} {r : Option (List (Str × Value))} (h : BRel (some bs) r) : ∃ us, r = some us ∧ Paired (fun b u => u.1 = b.1 ∧ RelV (V.str b.2) u.2) bs us := by
  cases r with
  | none => exact h.elim
  | some us => exact ⟨us, rfl, h⟩
theorem paired_app {α β : Type} {R : α → β → Prop} : ∀ {xs us : List α} {ys vs : List β}, Paired R xs ys → Paired R us vs → Paired R (xs ++ us) (ys ++ vs)
  | _, _, _, _, .nil, h => h
  | _, _, _, _, .cons a r, h => .cons a (paired_app r h)
structure PtS (X : Cx) (p : Pattern) (f : Str → Option Bnd) : Prop where
  star : p.isStar = false
  run : ∀ (pins : List (Addr × Obj)) (s : Shared) (σ : L2.St) (H : Hp) (x : Str) (u : Value) (Q : Option (List (Str × Value)) → Shared → Prop), Inv X pins σ H s → RelV (V.str x) u →
    (∀ r s1, Inv X pins σ H s1 → BRel (f x) r → Q r s1) → wpAny (model X.prog X.w) X.A (matchPattern p X.env u) Q X.xe s
structure PtF (X : Cx) (ps : List Pattern) (f : Str → Option Bnd) : Prop where
  run : ∀ (pins : List (Addr × Obj)) (s : Shared) (σ : L2.St) (H : Hp) (x : Str) (u : Value) (Q : Option (List (Str × Value)) → Shared → Prop), Inv X pins σ H s → RelV (V.str x) u →
    (∀ r s1, Inv X pins σ H s1 → BRel (f x) r → Q r s1) → wpAny (model X.prog X.w) X.A (matchFirst ps X.env u) Q X.xe s
structure PtE (X : Cx) (ps : List Pattern) (f : List Str → Option Bnd) : Prop where
  len : ∀ xs, xs.length ≠ ps.length → f xs = none
  run : ∀ (pins : List (Addr × Obj)) (s : Shared) (σ : L2.St) (H : Hp) (xs : List Str) (us : List Value) (Q : Option (List (Str × Value)) → Shared → Prop), Inv X pins σ H s → Vals (xs.map V.str) us → xs.length = ps.length →
    (∀ r s1, Inv X pins σ H s1 → BRel (f xs) r → Q r s1) → wpAny (model X.prog X.w) X.A (matchEach ps X.env us) Q X.xe s
section
variable {X : Cx}
theorem pts_val {c : Str} {j : Nat} {pos pos2 : Pos} : PtS X (.MatchValue (.Constant (.str c) j pos) pos2) (fun x => if x = c then some [] else none) := by
  refine ⟨rfl, fun pins s σ H x u Q I r k => ?_⟩
  refine wpAny_matchPattern_Value (thn ((pe_str (X := X) (x := c) (j := j) (pos := pos)).run pins s σ H (fun v H1 => v = .str c ∧ H1 = H) I ⟨rfl, rfl⟩) fun v s1 q1 => ?_)
  obtain ⟨y, H1, I1, r1, rfl, rfl⟩ := q1
  refine thn (op_eq pins s1 σ H1 (.str x) (.str c) u v (fun z H2 => z = .bl (decide (x = c)) ∧ H2 = H1) I1 r r1 ⟨rfl, ?_, rfl⟩) fun c2 s2 q2 => ?_
  · congr 1
    exact decide_eq_decide.mpr ⟨fun e => by injection e, fun e => by rw [e]⟩
  obtain ⟨z, H2, I2, r2, rfl, rfl⟩ := q2
  obtain rfl : c2 = Value.bool (decide (x = c)) := r2
  show wpAny _ _ (pure (decide (x = c))) _ _ _
  refine wpAny_pure ?_
  by_cases e : x = c
  · rw [if_pos (decide_eq_true e)]
    exact k _ _ I2 (by show BRel (if x = c then some [] else none) _; rw [if_pos e]; exact .nil)
  · rw [if_neg (by rw [decide_eq_false e]; exact Bool.false_ne_true)]
    exact k _ _ I2 (by show BRel (if x = c then some [] else none) _; rw [if_neg e]; exact True.intro)
theorem pts_cap {n : Str} {pos : Pos} : PtS X (.MatchAs none (some n) pos) (fun x => some [(n, x)]) :=
  ⟨rfl, fun pins s σ H x u Q I r k => wpAny_matchPattern_Capture (k _ _ I (show Paired _ [(n, x)] [(n, u)] from .cons ⟨rfl, r⟩ .nil))⟩
theorem ptf_nil : PtF X [] (fun _ => none) := ⟨fun pins s σ H x u Q I r k => wpAny_matchFirst_nil (k _ _ I True.intro)⟩
theorem ptf_cons {p : Pattern} {ps : List Pattern} {f g : Str → Option Bnd} (h : PtS X p f) (t : PtF X ps g) : PtF X (p :: ps) (fun x => match f x with | some b => some b | none => g x) := by
  refine ⟨fun pins s σ H x u Q I r k => wpAny_matchFirst_cons (h.run pins s σ H x u _ I r fun q s1 I1 b => ?_)⟩
  cases e : f x with
  | none =>
    rw [e] at b
    obtain rfl := brel_none b
    exact t.run pins s1 σ H x u Q I1 r fun q2 s2 I2 b2 => k q2 s2 I2 (by show BRel (match f x with | some b => some b | none => g x) q2; rw [e]; exact b2)
  | some bs =>
    rw [e] at b
    obtain ⟨us, rfl, pr⟩ := brel_some b
    exact k _ _ I1 (by show BRel (match f x with | some b => some b | none => g x) _; rw [e]; exact pr)
theorem pts_or {ps : List Pattern} {pos : Pos} {f : Str → Option Bnd} (h : PtF X ps f) (hn : namesOfAll (ps.take 1) = [] := by rfl) : PtS X (.MatchOr ps pos) (fun x => (f x).map fun _ => []) := by
  refine ⟨rfl, fun pins s σ H x u Q I r k => wpAny_matchPattern_Or (h.run pins s σ H x u _ I r fun q s1 I1 b => ?_)⟩
  cases e : f x with
  | none =>
    rw [e] at b
    obtain rfl := brel_none b
    exact k _ _ I1 (by show BRel ((f x).map fun _ => []) _; rw [e]; exact True.intro)
  | some bs =>
    rw [e] at b
    obtain ⟨us, rfl, pr⟩ := brel_some b
    show Q (some ((namesOfAll (ps.take 1)).filterMap _)) s1
    rw [hn]
    exact k _ _ I1 (by show BRel ((f x).map fun _ => []) _; rw [e]; exact Paired.nil)
def eNil : List Str → Option Bnd
  | [] => some []
  | _ => none
def eCons (f : Str → Option Bnd) (g : List Str → Option Bnd) : List Str → Option Bnd
  | [] => none
  | x :: r => match f x with
    | none => none
    | some b => match g r with
      | none => none
      | some c => some (b ++ c)
theorem pte_nil : PtE X [] eNil := by
  refine ⟨fun xs h => ?_, fun pins s σ H xs us Q I r e k => ?_⟩
  · cases xs with
    | nil => exact absurd rfl h
    | cons x r => rfl
  · cases xs with
    | nil => exact wpAny_matchEach_nil (k _ _ I Paired.nil)
    | cons x r => cases e
theorem pte_cons {p : Pattern} {ps : List Pattern} {f : Str → Option Bnd} {g : List Str → Option Bnd} (h : PtS X p f) (t : PtE X ps g) : PtE X (p :: ps) (eCons f g) := by
  refine ⟨fun xs hx => ?_, fun pins s σ H xs us Q I r e k => ?_⟩
  · cases xs with
    | nil => rfl
    | cons x r =>
      have z : g r = none := t.len r fun q => hx (by rw [List.length_cons, List.length_cons, q])
      unfold eCons
      cases e1 : f x with
      | none => simp only [e1]
      | some b => simp only [e1, z]
  · cases xs with
    | nil => cases e
    | cons x xr =>
      cases r with
      | @cons _ u _ ur r1 r2 =>
        refine wpAny_matchEach_cons (h.run pins s σ H x u _ I r1 fun q s1 I1 b => ?_) h.star
        have kk := k
        unfold eCons at kk
        cases e1 : f x with
        | none =>
          rw [e1] at b
          obtain rfl := brel_none b
          exact kk _ _ I1 (by simp only [e1]; exact True.intro)
        | some bs =>
          rw [e1] at b
          obtain ⟨vs, rfl, pr⟩ := brel_some b
          refine t.run pins s1 σ H xr ur _ I1 r2 (Nat.succ.inj e) fun q2 s2 I2 b2 => ?_
          cases e2 : g xr with
          | none =>
            rw [e2] at b2
            obtain rfl := brel_none b2
            exact kk _ _ I2 (by simp only [e1, e2]; exact True.intro)
          | some cs =>
            rw [e2] at b2
            obtain ⟨ws, rfl, pr2⟩ := brel_some b2
            exact kk _ _ I2 (by simp only [e1, e2]; exact paired_app pr pr2)
/-- the cases, from one on -/
structure MC (X : Cx) (cs : List MatchCase) (t : List Str → TS) : Prop where
  run : ∀ (first : Bool) (pins : List (Addr × Obj)) (s : Shared) (σ : L2.St) (H : Hp) (D : Ends) (a : Addr) (xs : List Str), Inv X pins σ H s → H a = some (.tup (xs.map V.str)) → t xs D σ H →
    wpAny (model X.prog X.w) X.A (matchCases cs X.env (.ref a) first) (SP X pins D) X.xe s
theorem mc_nil : MC X [] (fun _ D σ H => D.nx σ H) := ⟨fun first pins s σ H D a xs I e h => wpAny_matchCases_nil ⟨σ, H, I, h⟩⟩
theorem seq_run {ps : List Pattern} {f : List Str → Option Bnd} {pos : Pos} (hc : X.calm = true) (hp : PtE X ps f) {pins : List (Addr × Obj)} {s : Shared} {σ : L2.St} {H : Hp} {a : Addr} {xs : List Str} {Q : Option (List (Str × Value)) → Shared → Prop} (I : Inv X pins σ H s)
    (e : H a = some (.tup (xs.map V.str))) (k : ∀ r s1, Inv X pins σ H s1 → BRel (f xs) r → Q r s1) (hstar : ps.findIdx? (·.isStar) = none) (hwild : (ps.all fun p => p.isWildcard || (p.isStar && p.names.isEmpty)) = false) :
    wpAny (model X.prog X.w) X.A (matchPattern (.MatchSequence ps pos) X.env (.ref a)) Q X.xe s := by
  obtain ⟨its, rv, ht, hz⟩ := I.tuple (SqT.of e)
  have ln : its.length = xs.length := by
    have z := rv.length
    rw [List.length_map] at z
    exact z.symm
  rw [List.length_map] at hz
  have fit : ((its.toArray.size : Nat) : Int) < 2 ^ 63 := by
    rw [List.size_toArray, ln]
    rw [sizeLine_eq] at hz
    omega
  have I1 : Inv X pins σ H { s with toks := s.toks + 1 + 1 } := I.tok _
  by_cases el : xs.length = ps.length
  · refine matchSeq_tuple_hit ht fit (by rw [List.size_toArray]; omega) ?_ hstar hwild
    have sz : ps.length = its.toArray.size := by rw [List.size_toArray]; omega
    rw [sz]
    refine unpackItems_tuple (s := { s with toks := s.toks + 1 + 1 }) (I.ok.hd hc) ht fun h' eb => ?_
    have I2 : Inv X pins σ H { s with heap := h', toks := s.toks + 1 + 1 } := I1.kept (t' := s.toks + 1 + 1) fun b o q => eb b o (Nat.ne_of_lt (Heap.lt_size q)) q
    rw [List.toList_toArray]
    exact hp.run pins _ σ H xs its Q I2 rv el k
  · refine matchSeq_tuple_miss ht fit (by rw [List.size_toArray]; omega) ?_ hstar hwild
    exact k _ _ I1 (by rw [hp.len xs el]; exact True.intro)
/-- a case that binds nothing -/
theorem mc_cons0 {ps : List Pattern} {f : List Str → Option Bnd} {pos : Pos} {body : List Stmt} {rest : List MatchCase} {tb : TS} {tr : List Str → TS} (hc : X.calm = true) (hp : PtE X ps f) (hb : PSs X body tb) (hr : MC X rest tr) (h0 : ∀ xs bs, f xs = some bs → bs = [])
    (hstar : ps.findIdx? (·.isStar) = none := by rfl) (hwild : (ps.all fun p => p.isWildcard || (p.isStar && p.names.isEmpty)) = false := by rfl) :
    MC X (⟨.MatchSequence ps pos, none, body⟩ :: rest) (fun xs D σ H => if (f xs).isSome = true then tb D σ H else tr xs D σ H) := by
  refine ⟨fun first pins s σ H D a xs I e h => wpAny_matchCases_cons (seq_run hc hp I e (fun r s1 I1 b => ?_) hstar hwild)⟩
  cases ef : f xs with
  | none =>
    rw [ef] at b h
    obtain rfl := brel_none b
    exact hr.run false pins s1 σ H D a xs I1 e (by rw [if_neg (by decide)] at h; exact h)
  | some bs =>
    rw [ef] at b h
    obtain ⟨us, rfl, pr⟩ := brel_some b
    obtain rfl := h0 xs bs ef
    cases pr
    refine wpAny_assignInOrder_none ?_
    exact hb.run pins s1 σ H D I1 (by rw [if_pos (show (some ([] : Bnd)).isSome = true from rfl)] at h; exact h)
/-- a case that binds one name -/
theorem mc_cons1 {ps : List Pattern} {f : List Str → Option Str} {n : Str} {i : Nat} {pos : Pos} {body : List Stmt} {rest : List MatchCase} {tb : TS} {tr : List Str → TS} (hc : X.calm = true) (hN : X.N.Nodup) (hi : X.N[i]? = some n) (hx : Loc X.env.scope n)
    (hp : PtE X ps (fun xs => (f xs).map fun y => [(n, y)])) (hb : PSs X body tb) (hr : MC X rest tr) (hf : X.fn n = true ∨ X.env.scope.names.lookup n = some .local := by first | exact .inl rfl | exact .inr rfl | assumption)
    (hstar : ps.findIdx? (·.isStar) = none := by rfl) (hwild : (ps.all fun p => p.isWildcard || (p.isStar && p.names.isEmpty)) = false := by rfl) :
    MC X (⟨.MatchSequence ps pos, none, body⟩ :: rest) (fun xs D σ H => match f xs with | some y => tb D (σ.set i (some (.str y))) H | none => tr xs D σ H) := by
  refine ⟨fun first pins s σ H D a xs I e h => wpAny_matchCases_cons (seq_run hc hp I e (fun r s1 I1 b => ?_) hstar hwild)⟩
  cases ef : f xs with
  | none =>
    simp only [ef] at b h
    obtain rfl := brel_none b
    exact hr.run false pins s1 σ H D a xs I1 e h
  | some y =>
    simp only [ef] at b h
    obtain ⟨us, rfl, pr⟩ := brel_some b
    cases pr with
    | @cons _ u _ us2 z1 z2 =>
      cases z2
      obtain ⟨en, ru⟩ := z1
      show wpAny _ _ (assignInOrder [bindName X.env u.1] [u.2]) _ _ _
      rw [en]
      refine wpAny_assignInOrder_more (wpAny_bindName (store_ok I1 hN hi hx ru (fun s2 I2 => wpAny_assignInOrder_none (hb.run pins s2 _ H D I2 h)) hf))
/-- match e: cases -/
theorem ps_match {e : Expr} {cs : List MatchCase} {pos : Pos} {te : TE} {t : List Str → TS} (he : PE X e te) (hm : MC X cs t) : PS X (.Match e cs pos) (fun D σ H => te σ H fun v H1 => ∃ a xs, v = .ref a ∧ H1 a = some (.tup (xs.map V.str)) ∧ t xs D σ H1) := by
  refine ⟨fun pins s σ H D I h => wpAny_Match (thn (he.run pins s σ H _ I h) fun u s1 q1 => ?_)⟩
  obtain ⟨v, H1, I1, r1, a, xs, rfl, e1, q⟩ := q1
  obtain rfl : u = Value.ref a := r1
  exact hm.run true pins s1 σ H1 D a xs I1 e1 q
end
end Gk
/-! Gk39: kinds, fields, messages of a schema: as data, in the heap; what makes a schema. -/
namespace Gk
open PySem PySem.Spec PyProof.Rows L2
abbrev Kind := Pth
abbrev Flds := List (Str × Kind)
abbrev Msgs := List (Str × Flds)
/-! ### plain -/
def scalarS (x : Str) : Bool := decide (x = "text") || (decide (x = "number") || decide (x = "flag"))
def kindP : Kind → Bool
  | [x] => scalarS x
  | [m, x] => (decide (m = "map") && scalarS x) || (decide (m = "message") && isNm x)
  | _ => false
/-- the kind's message, if it is one -/
def msgOf (k : Kind) : Option Str := match k with
  | m :: x :: _ => if m = "message" then some x else none
  | _ => none
def formP (fs : Flds) : Bool := decide (fs.length ≤ 6) && fs.all fun f => isNm f.1 && kindP f.2
def innersP (fs : Flds) : List Str := fs.filterMap fun f => msgOf f.2
def fldsOf (ms : Msgs) (n : Str) : Flds := (ms.lookup n).getD []
def levelsP (ms : Msgs) : Nat → Str → Nat
  | 0, _ => 1
  | n + 1, x => 1 + ((innersP (fldsOf ms x)).map (levelsP ms n)).foldl Nat.max 0
def pcount (ms : Msgs) : Nat → Str → Nat
  | 0, _ => 0
  | n + 1, x => ((fldsOf ms x).map fun f => 1 + match msgOf f.2 with
    | some y => pcount ms n y
    | none => 0).sum
/-- all names met are there, and it ends within so many levels -/
def fitsP (ms : Msgs) : Nat → Str → Bool
  | 0, _ => false
  | n + 1, x => (ms.lookup x).isSome && (innersP (fldsOf ms x)).all (fitsP ms n)
def knownP (ms : Msgs) : Bool := ms.all fun m => (innersP m.2).all fun i => (ms.lookup i).isSome
def areMsgsP (ms : Msgs) : Bool := decide (ms.length ≤ 6) && (ms.lookup ("top" : Str)).isSome && (ms.all fun m => isNm m.1 && formP m.2) && knownP ms && !(ms.any fun m => decide (6 < levelsP ms 6 m.1)) && (decide (levelsP ms 6 "top" ≤ 4) && decide (pcount ms 4 "top" ≤ 40))
/-! ### in the heap -/
def Ent {α : Type} (R : V → α → Prop) (kv : L2.Key × V) (f : Str × α) : Prop := kv.1 = .inr f.1 ∧ R kv.2 f.2
theorem ent_map {α : Type} {R S : V → α → Prop} : ∀ {kvs : List (L2.Key × V)} {fs : List (Str × α)}, Paired (Ent R) kvs fs → (∀ kv ∈ kvs, ∀ f, R kv.2 f → S kv.2 f) → Paired (Ent S) kvs fs
  | _, _, .nil, _ => .nil
  | _, _, .cons a r, h => .cons ⟨a.1, h _ List.mem_cons_self _ a.2⟩ (ent_map r fun kv m => h kv (List.mem_cons_of_mem _ m))
theorem ent_at {α : Type} {R : V → α → Prop} : ∀ {kvs : List (L2.Key × V)} {fs : List (Str × α)} {i : Nat} {kv : L2.Key × V}, Paired (Ent R) kvs fs → kvs[i]? = some kv → ∃ f, fs[i]? = some f ∧ Ent R kv f
  | _, _, 0, _, .cons a _, e => by
    cases Option.some.inj e
    exact ⟨_, rfl, a⟩
  | _, _, i + 1, _, .cons _ r, e => by
    rw [List.getElem?_cons_succ] at e
    obtain ⟨f, h1, h2⟩ := ent_at (i := i) r e
    exact ⟨f, by rw [List.getElem?_cons_succ]; exact h1, h2⟩
theorem ent_find {α : Type} {R : V → α → Prop} : ∀ {kvs : List (L2.Key × V)} {fs : List (Str × α)} (n : Str), Paired (Ent R) kvs fs → (fs.lookup n = none ∧ valV kvs (.inr n) = none) ∨ ∃ f v, fs.lookup n = some f ∧ valV kvs (.inr n) = some v ∧ R v f
  | _, _, n, .nil => .inl ⟨rfl, rfl⟩
  | (k, v) :: kvs, (x, f) :: fs, n, .cons a r => by
    obtain ⟨e, h⟩ := a
    have e : k = .inr x := e
    subst e
    by_cases c : n = x
    · subst c
      refine .inr ⟨f, v, ?_, valV_pos rfl, h⟩
      simp [List.lookup_cons]
    · have ne : (Sum.inr x : L2.Key) ≠ .inr n := fun z => c (Sum.inr.inj z).symm
      have c2 : (n == x) = false := by simp [c]
      have e1 : List.lookup n ((x, f) :: fs) = List.lookup n fs := by rw [List.lookup_cons, c2]
      have e2 : valV ((Sum.inr x, v) :: kvs) (.inr n) = valV kvs (.inr n) := by simp [valV, List.find?_cons, ne]
      rw [e1, e2]
      exact ent_find n r
def IsF (H : Hp) (v : V) (fs : Flds) : Prop := ∃ a kvs, v = .ref a ∧ H a = some (.dK kvs) ∧ Paired (Ent (IsP H)) kvs fs
def IsMs (H : Hp) (v : V) (ms : Msgs) : Prop := ∃ a kvs, v = .ref a ∧ Rd H a (.dK kvs) ∧ Paired (Ent (IsF H)) kvs ms
theorem IsF.keep0 {H H2 : Hp} {v : V} {fs : Flds} (h : IsF H v fs) (k : Kp T0 H H2) : IsF H2 v fs := by
  obtain ⟨a, kvs, e, d, p⟩ := h
  exact ⟨a, kvs, e, k.at0 d, ent_map p fun _ _ _ z => z.keep0 k⟩
theorem rd_keep0 {H H2 : Hp} {a : Addr} {u : HO} (h : Rd H a u) (k : Kp T0 H H2) : Rd H2 a u := h.elim (fun z => .inl (k.at0 z)) fun ⟨o, z⟩ => .inr ⟨o, k.at0 z⟩
theorem IsMs.keep0 {H H2 : Hp} {v : V} {ms : Msgs} (h : IsMs H v ms) (k : Kp T0 H H2) : IsMs H2 v ms := by
  obtain ⟨a, kvs, e, d, p⟩ := h
  exact ⟨a, kvs, e, rd_keep0 d k, ent_map p fun _ _ _ z => z.keep0 k⟩
/-! ### under a lock -/
theorem kp_unlock {H H2 : Hp} {d : Addr} {u o : HO} (e : H d = some u) (k : Kp T0 (upd H d o) H2) : Kp T0 H (upd H2 d u) := by
  intro b w n h
  by_cases c : b = d
  · subst c
    rw [e] at h
    rw [← Option.some.inj h]
    exact upd_same
  · rw [upd_ne c]
    exact k b w n (by rw [upd_ne c]; exact h)
theorem IsP.frz {H : Hp} {v : V} {p : Pth} {d : Addr} {kvs : List (L2.Key × V)} {o : HO} (h : IsP H v p) (e : H d = some (.dK kvs)) : IsP (upd H d o) v p := by
  obtain ⟨a, rfl, t⟩ := h
  refine ⟨a, rfl, ?_⟩
  rw [upd_ne (fun z => by rw [z, e] at t; cases t)]
  exact t
theorem IsF.frz {H : Hp} {v : V} {fs : Flds} {d : Addr} {kvs : List (L2.Key × V)} {o : HO} (h : IsF H v fs) (e : H d = some (.dK kvs)) (ne : v ≠ .ref d) : IsF (upd H d o) v fs := by
  obtain ⟨a, ks, rfl, t, p⟩ := h
  refine ⟨a, ks, rfl, ?_, ent_map p fun _ _ _ z => z.frz e⟩
  rw [upd_ne (fun z => ne (by rw [z]))]
  exact t
/-- the fields' dicts are not the dict of the messages -/
theorem isMs_ne {H : Hp} {d : Addr} {kvs : List (L2.Key × V)} {ms : Msgs} (e : H d = some (.dK kvs)) (p : Paired (Ent (IsF H)) kvs ms) : ∀ kv ∈ kvs, kv.2 ≠ .ref d := by
  intro kv m z
  obtain ⟨i, hi⟩ := List.mem_iff_getElem?.mp m
  obtain ⟨f, _, h⟩ := ent_at p hi
  obtain ⟨a, ks, e1, t, q⟩ := h.2
  rw [e1] at z
  cases z
  rw [e] at t
  cases t
  obtain ⟨f2, _, h2⟩ := ent_at q hi
  obtain ⟨c, e3, t3⟩ := h2.2
  rw [e1] at e3
  cases e3
  rw [e] at t3
  cases t3
theorem ents_frz {H : Hp} {d : Addr} {kvs : List (L2.Key × V)} {ms : Msgs} {o : HO} (e : H d = some (.dK kvs)) (p : Paired (Ent (IsF H)) kvs ms) : Paired (Ent (IsF (upd H d o))) kvs ms :=
  ent_map p fun kv m _ z => z.frz e (isMs_ne e p kv m)
theorem IsMs.frz {H : Hp} {d : Addr} {kvs : List (L2.Key × V)} {ms : Msgs} {od : Obj} (e : H d = some (.dK kvs)) (p : Paired (Ent (IsF H)) kvs ms) : IsMs (upd H d (.frz od (.dK kvs))) (.ref d) ms :=
  ⟨d, kvs, rfl, .inr ⟨od, upd_same⟩, ents_frz e p⟩
/-- fields locked: the kinds -/
theorem kinds_frz {H : Hp} {d : Addr} {kvs : List (L2.Key × V)} {fs : Flds} {o : HO} (e : H d = some (.dK kvs)) (p : Paired (Ent (IsP H)) kvs fs) : Paired (Ent (IsP (upd H d o))) kvs fs := ent_map p fun _ _ _ z => z.frz e
/-! ### plain laws -/
theorem foldl_max {l : List Nat} {a x : Nat} : l.foldl Nat.max a ≤ x ↔ a ≤ x ∧ ∀ y ∈ l, y ≤ x := by
  induction l generalizing a with
  | nil => simp
  | cons b l ih =>
    rw [List.foldl_cons, ih]
    constructor
    · rintro ⟨h1, h2⟩
      have h3 : a ≤ x := Nat.le_trans (Nat.le_max_left a b) h1
      have h4 : b ≤ x := Nat.le_trans (Nat.le_max_right a b) h1
      exact ⟨h3, fun y m => (List.mem_cons.mp m).elim (fun e => e ▸ h4) (h2 y)⟩
    · rintro ⟨h1, h2⟩
      exact ⟨Nat.max_le.mpr ⟨h1, h2 b List.mem_cons_self⟩, fun y m => h2 y (List.mem_cons_of_mem _ m)⟩
theorem levels_pos (ms : Msgs) (n : Nat) (x : Str) : 1 ≤ levelsP ms n x := by
  cases n with
  | zero => exact Nat.le_refl 1
  | succ n => exact Nat.le_add_right 1 _
theorem lookup_mem {α : Type} : ∀ {ms : List (Str × α)} {x : Str} {f : α}, ms.lookup x = some f → (x, f) ∈ ms
  | (y, g) :: ms, x, f, h => by
    rw [List.lookup_cons] at h
    by_cases c : x = y
    · subst c
      simp at h
      subst h
      exact List.mem_cons_self
    · have c2 : (x == y) = false := by simp [c]
      rw [c2] at h
      exact List.mem_cons_of_mem _ (lookup_mem h)
theorem inners_known {ms : Msgs} (h : knownP ms = true) {x : Str} : ∀ i ∈ innersP (fldsOf ms x), (ms.lookup i).isSome = true := by
  intro i m
  unfold fldsOf at m
  cases e : ms.lookup x with
  | none => rw [e] at m; cases m
  | some f =>
    rw [e] at m
    exact List.all_eq_true.mp (List.all_eq_true.mp h (x, f) (lookup_mem e)) i m
theorem fits_of {ms : Msgs} (h : knownP ms = true) : ∀ (n m : Nat) (x : Str), (ms.lookup x).isSome = true → levelsP ms n x ≤ m → m ≤ n → fitsP ms m x = true
  | n, 0, x, _, l, _ => absurd (levels_pos ms n x) (by omega)
  | 0, m + 1, x, _, _, le => absurd le (by omega)
  | n + 1, m + 1, x, s, l, le => by
    unfold fitsP
    rw [s, Bool.true_and]
    refine List.all_eq_true.mpr fun i mi => ?_
    unfold levelsP at l
    have l2 : ((innersP (fldsOf ms x)).map (levelsP ms n)).foldl Nat.max 0 ≤ m := by omega
    exact fits_of h n m i (inners_known h i mi) ((foldl_max.mp l2).2 _ (List.mem_map_of_mem mi)) (by omega)
end Gk
/-! Gk40: the patterns of kinds; promises about schemas. -/
namespace Gk
open PySem PySem.Spec PyProof.Rows L2
section
variable {X : Cx}
theorem PtE.congr {ps : List Pattern} {f g : List Str → Option Bnd} (h : PtE X ps f) (e : ∀ xs, f xs = g xs) : PtE X ps g :=
  (funext e : f = g) ▸ h
def one3 : List Str → Option Bnd
  | [x] => if scalarS x = true then some [] else none
  | _ => none
def map3 : List Str → Option Bnd
  | [m, x] => if m = "map" ∧ scalarS x = true then some [] else none
  | _ => none
def cap2 (c : Str) : List Str → Option Str
  | [m, x] => if m = c then some x else none
  | _ => none
theorem or3 (x : Str) : ((match (if x = "text" then some ([] : Bnd) else none) with
    | some b => some b
    | none => match (if x = "number" then some ([] : Bnd) else none) with
      | some b => some b
      | none => match (if x = "flag" then some ([] : Bnd) else none) with
        | some b => some b
        | none => none).map fun _ => ([] : Bnd)) = if scalarS x = true then some [] else none := by
  unfold scalarS
  by_cases h1 : x = "text"
  · simp only [if_pos h1, decide_eq_true h1, Bool.true_or, Option.map, if_true]
  · by_cases h2 : x = "number"
    · simp only [if_neg h1, if_pos h2, decide_eq_false h1, decide_eq_true h2, Bool.true_or, Bool.false_or, Option.map, if_true]
    · by_cases h3 : x = "flag"
      · simp only [if_neg h1, if_neg h2, if_pos h3, decide_eq_false h1, decide_eq_false h2, decide_eq_true h3, Bool.false_or, Option.map, if_true]
      · simp only [if_neg h1, if_neg h2, if_neg h3, decide_eq_false h1, decide_eq_false h2, decide_eq_false h3, Bool.false_or, Option.map, if_false, Bool.false_eq_true]
theorem PtS.congr {p : Pattern} {f g : Str → Option Bnd} (h : PtS X p f) (e : ∀ x, f x = g x) : PtS X p g := (funext e : f = g) ▸ h
theorem pts_sc {j1 j2 j3 : Nat} {p1 p2 p3 q1 q2 q3 pos : Pos} : PtS X (.MatchOr [.MatchValue (.Constant (.str "text") j1 p1) q1, .MatchValue (.Constant (.str "number") j2 p2) q2, .MatchValue (.Constant (.str "flag") j3 p3) q3] pos) (fun x => if scalarS x = true then some [] else none) := by
  have h := pts_or (pos := pos) (ptf_cons (pts_val (X := X) (c := "text") (j := j1) (pos := p1) (pos2 := q1)) (ptf_cons (pts_val (X := X) (c := "number") (j := j2) (pos := p2) (pos2 := q2)) (ptf_cons (pts_val (X := X) (c := "flag") (j := j3) (pos := p3) (pos2 := q3)) ptf_nil)))
  exact h.congr or3
theorem pte_one3 {p : Pattern} (h : PtS X p (fun x => if scalarS x = true then some [] else none)) : PtE X [p] one3 := by
  refine (pte_cons h pte_nil).congr fun xs => ?_
  match xs with
  | [] => rfl
  | [x] => cases e : scalarS x <;> simp [eCons, eNil, one3, e]
  | x :: y :: r => cases e : scalarS x <;> simp [eCons, eNil, one3, e]
theorem pte_map3 {p q : Pattern} (h0 : PtS X p (fun x => if x = "map" then some [] else none)) (h : PtS X q (fun x => if scalarS x = true then some [] else none)) : PtE X [p, q] map3 := by
  refine (pte_cons h0 (pte_cons h pte_nil)).congr fun xs => ?_
  match xs with
  | [] => rfl
  | [x] =>
    unfold eCons map3
    by_cases c : x = "map"
    · simp [c, eCons]
    · simp [c]
  | [x, y] =>
    unfold map3
    by_cases c : x = "map"
    · cases e : scalarS y <;> simp [c, e, eCons, eNil]
    · simp [c, eCons]
  | x :: y :: z :: r =>
    unfold map3
    by_cases c : x = "map"
    · cases e : scalarS y <;> simp [c, e, eCons, eNil]
    · simp [c, eCons]
theorem pte_cap2 {p q : Pattern} {c n : Str} (h0 : PtS X p (fun x => if x = c then some [] else none)) (h : PtS X q (fun x => some [(n, x)])) : PtE X [p, q] (fun xs => (cap2 c xs).map fun y => [(n, y)]) := by
  refine (pte_cons h0 (pte_cons h pte_nil)).congr fun xs => ?_
  match xs with
  | [] => rfl
  | [x] =>
    by_cases e : x = c
    · simp [e, eCons, cap2]
    · simp [e, eCons, cap2]
  | [x, y] =>
    by_cases e : x = c
    · simp [e, eCons, eNil, cap2]
    · simp [e, eCons, cap2]
  | x :: y :: z :: r =>
    by_cases e : x = c
    · simp [e, eCons, eNil, cap2]
    · simp [e, eCons, cap2]
end
theorem one3_nil : ∀ xs bs, one3 xs = some bs → bs = [] := by
  intro xs bs h
  unfold one3 at h
  split at h
  · split at h
    · exact (Option.some.inj h).symm
    · cases h
  · cases h
theorem map3_nil : ∀ xs bs, map3 xs = some bs → bs = [] := by
  intro xs bs h
  unfold map3 at h
  split at h
  · split at h
    · exact (Option.some.inj h).symm
    · cases h
  · cases h
/-- the three cases in a row -/
theorem kind_cases (k : Kind) : kindP k = if (one3 k).isSome = true then true else if (map3 k).isSome = true then true else match cap2 "message" k with
    | some y => isNm y
    | none => false := by
  match k with
  | [] => rfl
  | [x] => cases e : scalarS x <;> simp [kindP, one3, map3, cap2, e]
  | [m, x] =>
    by_cases c : m = "map"
    · subst c
      have ne : ¬ (("map" : Str) = "message") := by decide
      cases e : scalarS x <;> simp [kindP, one3, map3, cap2, e, ne]
    · by_cases c2 : m = "message" <;> simp [kindP, one3, map3, cap2, c, c2]
  | m :: x :: z :: r => rfl
theorem cap2_mem {c y : Str} {k : Kind} (h : cap2 c k = some y) : y ∈ k := by
  match k with
  | [] => cases h
  | [x] => cases h
  | [m, x] =>
    by_cases e : m = c
    · simp [cap2, e] at h
      rw [h]
      exact List.mem_cons_of_mem _ List.mem_cons_self
    · simp [cap2, e] at h
  | m :: x :: z :: r => cases h
/-! ### promises -/
def spIsKind : Sp := fun vs H Q _ => ∃ (v : V) (k : Kind), vs = [v] ∧ IsP H v k ∧ (∀ x ∈ k, x.length < sizeLine) ∧ ∀ H2, Kp T0 H H2 → Q (.bl (kindP k)) H2
/-- texts that are not overlong -/
def FldOk (fs : Flds) : Prop := fs.length < 64 ∧ (fs.map (·.1)).Nodup ∧ ∀ f ∈ fs, f.1.length < sizeLine ∧ ∀ x ∈ f.2, x.length < sizeLine
def MsgOk (ms : Msgs) : Prop := ms.length < 64 ∧ (ms.map (·.1)).Nodup ∧ ∀ m ∈ ms, m.1.length < sizeLine ∧ FldOk m.2
def spForm : Sp := fun vs H Q _ => ∃ (v : V) (fs : Flds), vs = [v] ∧ IsF H v fs ∧ FldOk fs ∧ ∀ H2, Kp T0 H H2 → Q (.bl (formP fs)) H2
/-- the inner messages' names, of right kinds -/
def spInner : Sp := fun vs H Q _ => ∃ (v : V) (fs : Flds), vs = [v] ∧ IsF H v fs ∧ FldOk fs ∧ (∀ f ∈ fs, kindP f.2 = true) ∧ ∀ H2 l, Kp T0 H H2 → H l = none → H2 l = some (.lst ((innersP fs).map V.str)) → Q (.ref l) H2
def spLevels (n : Nat) : Sp := fun vs H Q _ => ∃ (v : V) (ms : Msgs) (x : Str) (m : Nat), vs = [v, .str x, .int (m : Nat)] ∧ m < n ∧ IsMs H v ms ∧ MsgOk ms ∧ (∀ q ∈ ms, formP q.2 = true) ∧ knownP ms = true ∧ (ms.lookup x).isSome = true ∧ ∀ H2, Kp T0 H H2 → Q (.int (levelsP ms m x : Nat)) H2
def spBelow (n : Nat) : Sp := fun vs H Q _ => ∃ (v : V) (ms : Msgs) (x : Str) (t : Addr) (p : Pth), vs = [v, .str x, .ref t] ∧ H t = some (.tup (p.map V.str)) ∧ p.length + n ≤ 64 ∧ n ≤ 6 ∧ IsMs H v ms ∧ MsgOk ms ∧ (∀ q ∈ ms, formP q.2 = true) ∧ fitsP ms n x = true ∧
  ∀ H2 l ys, Kp T0 H H2 → H l = none → H2 l = some (.lst ys) → ys.length = pcount ms n x → Q (.ref l) H2
def spAreMsgs : Sp := fun vs H Q _ => ∃ (v : V) (ms : Msgs), vs = [v] ∧ IsMs H v ms ∧ (∃ a kvs, v = .ref a ∧ H a = some (.dK kvs)) ∧ MsgOk ms ∧ ∀ H2, Kp T0 H H2 → Q (.bl (areMsgsP ms)) H2
/-! ### how many paths -/
theorem perm_sum {l1 l2 : List Nat} (h : l1.Perm l2) : l1.sum = l2.sum := by
  induction h with
  | nil => rfl
  | cons x _ ih => rw [List.sum_cons, List.sum_cons, ih]
  | swap x y l =>
    rw [List.sum_cons, List.sum_cons, List.sum_cons, List.sum_cons]
    omega
  | trans _ _ h1 h2 => exact h1.trans h2
theorem lookup_of {α : Type} : ∀ {fs : List (Str × α)} {f : Str × α}, (fs.map (·.1)).Nodup → f ∈ fs → fs.lookup f.1 = some f.2
  | g :: fs, f, nd, m => by
    obtain ⟨x, k⟩ := g
    rw [List.map_cons, List.nodup_cons] at nd
    rcases List.mem_cons.mp m with rfl | m
    · simp [List.lookup_cons]
    · have ne : f.1 ≠ x := fun e => nd.1 (List.mem_map.mpr ⟨f, m, e⟩)
      have c : (f.1 == x) = false := by simp [ne]
      rw [List.lookup_cons, c]
      exact lookup_of nd.2 m
def costP (ms : Msgs) (n : Nat) (fs : Flds) (x : Str) : Nat := 1 + match msgOf ((fs.lookup x).getD []) with
  | some y => pcount ms n y
  | none => 0
theorem pcount_succ {ms : Msgs} {n : Nat} {x : Str} (nd : ((fldsOf ms x).map (·.1)).Nodup) {ys : List Str} (p : ys.Perm ((fldsOf ms x).map (·.1))) : (ys.map (costP ms n (fldsOf ms x))).sum = pcount ms (n + 1) x := by
  rw [perm_sum (p.map _), List.map_map]
  unfold pcount
  congr 1
  refine List.map_congr_left fun f m => ?_
  show costP ms n (fldsOf ms x) f.1 = _
  unfold costP
  rw [lookup_of nd m]
  rfl
def bndP : Nat → Nat
  | 0 => 0
  | n + 1 => 6 * (1 + bndP n)
theorem sum_le {l : List Nat} {b : Nat} (h : ∀ x ∈ l, x ≤ b) : l.sum ≤ l.length * b := by
  induction l with
  | nil => simp
  | cons x l ih =>
    have h1 := h x List.mem_cons_self
    have h2 := ih fun y m => h y (List.mem_cons_of_mem _ m)
    rw [List.sum_cons, List.length_cons, Nat.succ_mul]
    omega
theorem pcount_le {ms : Msgs} (h : ∀ q ∈ ms, formP q.2 = true) : ∀ (n : Nat) (x : Str), pcount ms n x ≤ bndP n
  | 0, _ => Nat.le_refl 0
  | n + 1, x => by
    have l6 : (fldsOf ms x).length ≤ 6 := by
      unfold fldsOf
      cases e : ms.lookup x with
      | none => exact Nat.zero_le _
      | some f =>
        have z := h _ (lookup_mem e)
        unfold formP at z
        rw [Bool.and_eq_true] at z
        exact of_decide_eq_true z.1
    unfold pcount bndP
    refine Nat.le_trans (sum_le (b := 1 + bndP n) fun y m => ?_) (by rw [List.length_map]; exact Nat.mul_le_mul_right _ l6)
    obtain ⟨f, _, rfl⟩ := List.mem_map.mp m
    cases msgOf f.2 with
    | none => exact Nat.le_add_right 1 _
    | some y => exact Nat.add_le_add_left (pcount_le h n y) 1
theorem bnd_small {n : Nat} (h : n ≤ 6) : bndP n ≤ 60000 := by
  match n, h with
  | 0, _ => decide
  | 1, _ => decide
  | 2, _ => decide
  | 3, _ => decide
  | 4, _ => decide
  | 5, _ => decide
  | 6, _ => decide
end Gk
namespace Lw
open PySem L2 Gk
abbrev sIsKind : Stmt := topS 19
structure TxtK (mg : Str → Option Value) : Prop where
  z_isinstance : mg "isinstance" = none
  z_tuple : mg "tuple" = none
section
variable {P : Program} {w : World} {K : PySem.W.Frag} {mg : Str → Option Value} {base : Heap}
theorem scIsKind : FnScope ["value", "name"] ["value"] (defScope sIsKind) := ⟨rfl, rfl, rfl, by decide +kernel, rfl, by decide +kernel, by decide +kernel⟩
theorem ok_is_kind {f fN : Addr} {fd : FuncData} (F : Fun K "is_kind" "is_kind" sIsKind f fd) (T : TxtK mg) (DN : Df P w K mg base 2 fN "is_name" ["value"] (spIsName K)) : FnOk P w K mg base CX0 3 f fd ["value"] spIsKind := by
  refine F.ok scIsKind (fun vs H Q E h => ?_) (fun cdv A outer s H vs Q E hr h => ?_)
  · obtain ⟨v, k, rfl, _⟩ := h
    rfl
  · obtain ⟨v, k, rfl, ⟨a, rfl, ha⟩, lens, q⟩ := h
    refine ⟨_, pss_cons (ps_if (pt_not (pt_val (pe_callB call_isi (by rfl) T.z_isinstance (by decide +kernel) (pa_cons (pv 0) (pa_cons (pe_bltn (v := .ty "tuple") (by rfl) T.z_tuple (by decide +kernel) rfl) pa_nil))))) (pss_one (ps_ret pe_bl)) pss_nil)
      (pss_cons (ps_match (pv 0) (mc_cons0 rfl (pte_one3 pts_sc) (pss_one (ps_ret pe_bl)) (mc_cons0 rfl (pte_map3 pts_val pts_sc) (pss_one (ps_ret pe_bl))
        (mc_cons1 (i := 1) rfl scIsKind.nd rfl (Or.inl rfl) (pte_cap2 pts_val pts_cap) (pss_one (ps_ret (pe_df DN hr (by rfl) (pa_cons (pv 1) pa_nil)))) mc_nil) map3_nil) one3_nil))
      (pss_one (ps_ret pe_bl))), ?_⟩
    refine ⟨_, rfl, _, _, _, _, true, rfl, .ty "tuple", .base (.tup ha), kit_ty (by decide +kernel), true, rfl, ?_⟩
    refine iteF ?_
    refine ⟨_, rfl, a, k, rfl, ha, ?_⟩
    have kc := kind_cases k
    cases e1 : (one3 k).isSome with
    | true =>
      rw [e1, if_pos rfl] at kc
      refine iteT ?_
      have z := q H (Kp.refl H)
      rw [kc] at z
      exact z
    | false =>
      rw [e1, if_neg Bool.false_ne_true] at kc
      refine iteF ?_
      cases e2 : (map3 k).isSome with
      | true =>
        rw [e2, if_pos rfl] at kc
        refine iteT ?_
        have z := q H (Kp.refl H)
        rw [kc] at z
        exact z
      | false =>
        rw [e2, if_neg Bool.false_ne_true] at kc
        refine iteF ?_
        cases e3 : cap2 "message" k with
        | none =>
          rw [e3] at kc
          have z := q H (Kp.refl H)
          rw [kc] at z
          exact z
        | some y =>
          rw [e3] at kc
          have my : y ∈ k := cap2_mem e3
          refine ⟨_, rfl, .str y, isNm y, rfl, .inl ⟨y, rfl, lens y my, rfl⟩, fun H2 k2 => ?_⟩
          have z := q H2 k2
          rw [kc] at z
          exact z
end
end Lw
/-! Gk41: comprehensions over a dict's items. -/
namespace Gk
open PySem PySem.Spec PyProof.Rows L2
/-- the target «x, y» -/
abbrev g2 (K : PySem.W.Frag) (i0 i1 : Nat) : TG := gTup K 2 (gCons (gName i0) (gCons (gName i1) gNil))
theorem lc_pr {K : PySem.W.Frag} {T : Addr → Prop} {J : It} {n : Nat} {G : Hp → Prop} {xs ys : Nat → Option V} (w : Walk J n G (YPair xs ys)) {i0 i1 : Nat} {tt : TT} {te : TE} {vs : List Nat} {st : L2.St} {H1 : Hp} {D : Addr} {Qd : Hp → Prop}
    (P : Nat → List V → Hp → Prop) (kP : ∀ i zs H H2, Kp T0 H H2 → P i zs H → P i zs H2) (hD : H1 D = none) (hT : ¬ T D) (hn : n < sizeLine) (hws : ∀ x y, wipe (((wipe st vs).set i0 (some x)).set i1 (some y)) vs = wipe st vs) (hG : ∀ H, Kp T H1 H → G H) (p0 : P 0 [] (upd H1 D (.lst [])))
    (step : ∀ (i : Nat) (x y : V) (zs : List V) (H : Hp) (Ky : V → Hp → Prop) (Kn : Hp → Prop), i < n → xs i = some x → ys i = some y → Kp T H1 H → H D = some (.lst zs) → P i zs H →
      (∀ z H4, Kp T H H4 → P (i + 1) (zs ++ [z]) (upd H4 D (.lst (zs ++ [z]))) → Ky z H4) → (∀ H3, Kp T H H3 → P (i + 1) zs H3 → Kn H3) →
      tt (((wipe st vs).set i0 (some x)).set i1 (some y)) H fun b H3 => if b = true then te (((wipe st vs).set i0 (some x)).set i1 (some y)) H3 Ky else Kn H3)
    (fin : ∀ zs H, Kp T H1 H → H D = some (.lst zs) → zs.length ≤ n → P n zs H → Qd H) :
    ∃ W : Nat → Nat → Hp → Prop, (∃ m, W 0 m (upd H1 D (.lst []))) ∧ ∀ i m H, W i m H →
      (J.stop i H ∧ Qd H) ∨ (J.go i H ∧ ∃ Nx : Hp → Prop, (∀ H2, Nx H2 → ∃ m2, m2 < m ∧ W (i + 1) m2 H2) ∧ ∀ x H2, J.yld i H x H2 → g2 K i0 i1 x (wipe st vs) H2 fun s2 H2 => wipe s2 vs = wipe st vs ∧ tt s2 H2 fun b H3 =>
        if b = true then te s2 H3 fun y H4 => ∃ acc, H4 D = some (.lst acc) ∧ acc.length < sizeLine ∧ Nx (upd H4 D (.lst (acc ++ [y]))) else Nx H3) := by
  refine lc_it w (fun i H => ∃ zs, Kp T H1 H ∧ H D = some (.lst zs) ∧ zs.length ≤ i ∧ P i zs H) ⟨[], (Kp.refl H1).over hD, upd_same, Nat.le_refl _, p0⟩ (fun i H _ q => ?_) (fun i v H H2 hi q y => ?_) (fun H q => ?_)
  · obtain ⟨zs, k, _⟩ := q
    exact hG H k
  · obtain ⟨zs, k, d, l, p⟩ := q
    obtain ⟨Tt, x, y, rfl, hTt, rfl, ex, ey⟩ := y
    have g : Kp T0 H (upd H Tt (.tup [x, y])) := (Kp.refl H).new hTt
    refine ⟨Tt, [x, y], rfl, SqT.of upd_same, rfl, x, [y], rfl, y, [], rfl, rfl, hws x y, ?_⟩
    refine step i x y zs _ _ _ hi ex ey (k.trans g.wide) (g.at0 d) (kP i zs _ _ g p) (fun z H4 k4 p4 => ?_) (fun H3 k3 p3 => ?_)
    · refine ⟨zs, k4 D _ hT (g.at0 d), by omega, zs ++ [z], ((k.trans g.wide).trans k4).over hD, upd_same, ?_, p4⟩
      rw [List.length_append, List.length_singleton]
      omega
    · exact ⟨zs, (k.trans g.wide).trans k3, k3 D _ hT (g.at0 d), by omega, p3⟩
  · obtain ⟨zs, k, d, l, p⟩ := q
    exact fin zs H k d l p
theorem wipe2 (σ : L2.St) (i j : Nat) (x y : Option V) : wipe (((wipe σ [i, j]).set i x).set j y) [i, j] = wipe σ [i, j] := by
  refine List.ext_getElem? fun k => ?_
  simp only [wipe, List.foldl_cons, List.foldl_nil, List.getElem?_set, List.length_set]
  by_cases a : j = k <;> by_cases b : i = k <;> simp [a, b] <;> (try split) <;> simp_all
/-- one turn of a comprehension's inner clause -/
def In2 (g1 : TG) (tt1 : TT) (te : TE) (vs1 : List Nat) (s2 : L2.St) (D : Addr) (Nx1 : Hp → Prop) (x : V) (Ha : Hp) : Prop := g1 x (wipe s2 vs1) Ha fun s3 H5 => wipe s3 vs1 = wipe s2 vs1 ∧ tt1 s3 H5 fun b H6 =>
  if b = true then te s3 H6 fun y H7 => ∃ acc, H7 D = some (.lst acc) ∧ acc.length < sizeLine ∧ Nx1 (upd H7 D (.lst (acc ++ [y]))) else Nx1 H6
/-- the inner clause, all of it -/
def Run2 (g1 : TG) (tt1 : TT) (te : TE) (vs1 : List Nat) (s2 : L2.St) (D : Addr) (Nx : Hp → Prop) (J1 : It) (H4 : Hp) : Prop := ∃ W1 : Nat → Nat → Hp → Prop, (∃ m, W1 0 m H4) ∧ ∀ j k Hb, W1 j k Hb →
  (J1.stop j Hb ∧ Nx Hb) ∨ (J1.go j Hb ∧ ∃ Nx1 : Hp → Prop, (∀ Hc, Nx1 Hc → ∃ k2, k2 < k ∧ W1 (j + 1) k2 Hc) ∧ ∀ x Hc, J1.yld j Hb x Hc → In2 g1 tt1 te vs1 s2 D Nx1 x Hc)
theorem run2_it {J1 : It} {n1 : Nat} {G1 : Hp → Prop} {Y1 : Nat → Hp → V → Hp → Prop} (w : Walk J1 n1 G1 Y1) {g1 : TG} {tt1 : TT} {te : TE} {vs1 : List Nat} {s2 : L2.St} {D : Addr} {Nx : Hp → Prop} {H4 : Hp} (P1 : Nat → Hp → Prop) (p0 : P1 0 H4) (hG : ∀ j Hb, j ≤ n1 → P1 j Hb → G1 Hb)
    (step : ∀ j x Hb Hc, j < n1 → P1 j Hb → Y1 j Hb x Hc → In2 g1 tt1 te vs1 s2 D (P1 (j + 1)) x Hc) (fin : ∀ Hb, P1 n1 Hb → Nx Hb) : Run2 g1 tt1 te vs1 s2 D Nx J1 H4 := by
  refine ⟨fun j k Hb => k = n1 - j ∧ j ≤ n1 ∧ P1 j Hb, ⟨n1, rfl, Nat.zero_le _, p0⟩, ?_⟩
  rintro j k Hb ⟨rfl, le, p⟩
  have q := hG j Hb le p
  by_cases lt : j < n1
  · exact .inr ⟨w.goes j Hb lt q, P1 (j + 1), fun Hc p2 => ⟨n1 - (j + 1), by omega, rfl, lt, p2⟩, fun x Hc y => step j x Hb Hc lt p (w.yields j Hb x Hc lt q y)⟩
  · have e : j = n1 := by omega
    subst e
    exact .inl ⟨w.stops Hb q, fin Hb p⟩
theorem lc2_it {J : It} {n : Nat} {G : Hp → Prop} {Y : Nat → Hp → V → Hp → Prop} (w : Walk J n G Y) {g g1 : TG} {tt tt1 : TT} {te : TE} {wi1 : TI} {vs vs1 : List Nat} {st : L2.St} {H1 : Hp} {D : Addr} {Qd : Hp → Prop} (P : Nat → Hp → Prop) (p0 : P 0 (upd H1 D (.lst []))) (hG : ∀ i Ha, i ≤ n → P i Ha → G Ha)
    (step : ∀ i x Ha Hb, i < n → P i Ha → Y i Ha x Hb → g x (wipe st vs) Hb fun s2 H2 => wipe s2 vs = wipe st vs ∧ tt s2 H2 fun b H3 => if b = true then wi1 s2 H3 fun J1 H4 => Run2 g1 tt1 te vs1 s2 D (P (i + 1)) J1 H4 else P (i + 1) H3) (fin : ∀ Ha, P n Ha → Qd Ha) :
    ∃ W : Nat → Nat → Hp → Prop, (∃ m, W 0 m (upd H1 D (.lst []))) ∧ ∀ i m Ha, W i m Ha →
      (J.stop i Ha ∧ Qd Ha) ∨ (J.go i Ha ∧ ∃ Nx : Hp → Prop, (∀ Hb, Nx Hb → ∃ m2, m2 < m ∧ W (i + 1) m2 Hb) ∧ ∀ x Hb, J.yld i Ha x Hb → g x (wipe st vs) Hb fun s2 H2 => wipe s2 vs = wipe st vs ∧ tt s2 H2 fun b H3 =>
        if b = true then wi1 s2 H3 fun J1 H4 => Run2 g1 tt1 te vs1 s2 D Nx J1 H4 else Nx H3) := by
  refine ⟨fun i m Ha => m = n - i ∧ i ≤ n ∧ P i Ha, ⟨n, rfl, Nat.zero_le _, p0⟩, ?_⟩
  rintro i m Ha ⟨rfl, le, p⟩
  have q := hG i Ha le p
  by_cases lt : i < n
  · exact .inr ⟨w.goes i Ha lt q, P (i + 1), fun Hb p2 => ⟨n - (i + 1), by omega, rfl, lt, p2⟩, fun x Hb y => step i x Ha Hb lt p (w.yields i Ha x Hb lt q y)⟩
  · have e : i = n := by omega
    subst e
    exact .inl ⟨w.stops Ha q, fin Ha p⟩
theorem wipe2b (σ : L2.St) (i j : Nat) (x y : Option V) : wipe ((wipe ((wipe σ [i, j]).set i x) [j]).set j y) [j] = wipe ((wipe σ [i, j]).set i x) [j] := by
  show (((((σ.set j none).set i none).set i x).set j none).set j y).set j none = (((σ.set j none).set i none).set i x).set j none
  rw [List.set_set, List.set_set]
theorem wipe2x (σ : L2.St) (i j : Nat) (x : Option V) : wipe ((wipe σ [i, j]).set i x) [i, j] = wipe σ [i, j] := by
  show ((((σ.set j none).set i none).set i x).set j none).set i none = (σ.set j none).set i none
  refine List.ext_getElem? fun k => ?_
  simp only [List.getElem?_set, List.length_set]
  by_cases a : j = k <;> by_cases b : i = k <;> simp [a, b] <;> (try split) <;> simp_all
end Gk
namespace Lw
open PySem L2 Gk
abbrev sForm : Stmt := topS 20
abbrev sInner : Stmt := topS 21
structure TxtB (K : PySem.W.Frag) (mg : Str → Option Value) : Prop where
  z_isinstance : mg "isinstance" = none
  z_dict : mg "dict" = none
  z_len : mg "len" = none
  z_all : mg "all" = none
  most : ∃ t, mg "MOST_FIELDS" = some (.int 6 t)
section
variable {P : Program} {w : World} {K : PySem.W.Frag} {mg : Str → Option Value} {base : Heap}
theorem scForm : FnScope ["value", "name", "kind"] ["value"] (defScope sForm) := ⟨rfl, rfl, rfl, by decide +kernel, rfl, by decide +kernel, by decide +kernel⟩
theorem ok_form {f fN fK : Addr} {fd : FuncData} (F : Fun K "is_message_form" "is_message_form" sForm f fd) (T : TxtB K mg) (DN : Df P w K mg base 2 fN "is_name" ["value"] (spIsName K)) (DK : Df P w K mg base 3 fK "is_kind" ["value"] spIsKind) : FnOk P w K mg base CX0 4 f fd ["value"] spForm := by
  obtain ⟨t6, m6⟩ := T.most
  refine F.ok scForm (fun vs H Q E h => ?_) (fun cdv A outer s H vs Q E hr h => ?_)
  · obtain ⟨v, k, rfl, _⟩ := h
    rfl
  · obtain ⟨v, fs, rfl, ⟨a, kvs, rfl, ha, pr⟩, ⟨few, _, lens⟩, q⟩ := h
    have hz : (16777216 : Nat) = PySem.sizeLine := PySem.sizeLine_eq.symm
    refine ⟨_, pss_cons (ps_if (PW.pt (pw_or (pt_not (pt_val (pe_callB call_isi (by rfl) T.z_isinstance (by decide +kernel) (pa_cons (pv 0) (pa_cons (pe_bltn (v := .ty "dict") (by rfl) T.z_dict (by decide +kernel) rfl) pa_nil)))))
        (pw_or1 (pt_cmpR op_gt (pe_callB call_lenD (by rfl) T.z_len PySem.boot_len (pa_cons (pv 0) pa_nil)) (pe_glob (v := .int 6) (by rfl) m6 ⟨_, rfl⟩) (nomark _))))) (pss_one (ps_ret pe_bl)) pss_nil)
      (pss_one (ps_ret (pe_callB (cr_all rfl) (by rfl) T.z_all (by decide +kernel) (pa_cons (pe_lock (pe_lc (own := [("name", 1), ("kind", 2)]) (g := g2 K 1 2) (tt := tYes) rfl scForm.nd (pi_items (pv 0))
        (blkOk_by (N := ["value", "name", "kind"]) (sc := defScope sForm) (by decide +kernel)) (fun _ _ _ _ _ => pg_tup rfl (pgs_cons (pg_name (i := 1) scForm.nd rfl (Or.inl rfl)) (pgs_cons (pg_name (i := 2) scForm.nd rfl (Or.inl rfl)) pgs_nil))) (fun _ _ _ _ _ => pts_nil)
        (fun _ _ _ _ _ => pe_and (pe_df DN (hr.mono (by decide)) (by rfl) (pa_cons (pv 1) pa_nil)) (pe_one (pe_df DK hr (by rfl) (pa_cons (pv 2) pa_nil)))))) pa_nil)))), ?_⟩
    have ll : kvs.length = fs.length := Paired.length pr
    refine ⟨_, rfl, _, _, _, _, true, rfl, .ty "dict", .base (.dK ha), kit_ty (by decide +kernel), true, rfl, ?_⟩
    refine iteF ?_
    refine ⟨_, rfl, a, kvs, rfl, ha, _, _, rfl, rfl, _, rfl, ?_⟩
    have fF : fs.length ≤ 6 → formP fs = fs.all fun f => isNm f.1 && kindP f.2 := fun e => by
      unfold formP
      rw [decide_eq_true e, Bool.true_and]
    by_cases c : 6 < fs.length
    · have e : decide ((6 : Int) < (kvs.length : Int)) = true := decide_eq_true (by omega)
      rw [e]
      refine iteT ?_
      have z := q H (Kp.refl H)
      unfold formP at z
      rw [decide_eq_false (by omega : ¬ fs.length ≤ 6)] at z
      exact z
    have e : decide ((6 : Int) < (kvs.length : Int)) = false := decide_eq_false (by omega)
    rw [e]
    refine iteF ?_
    refine ⟨a, .dK kvs, ha, trivial, fun od => ⟨_, rfl, a, od, kvs, rfl, upd_same, fun D hD => ?_⟩⟩
    have pr2 := kinds_frz (o := .frz od (.dK kvs)) ha pr
    have nD : D ≠ a := fun z => by
      rw [z, upd_same] at hD
      cases hD
    refine lc_pr (T := T0) (walk_items (kvs := kvs)) (i0 := 1) (i1 := 2) (fun i zs _ => zs = (fs.take i).map fun f => V.bl (isNm f.1 && kindP f.2)) (fun _ _ _ _ _ p => p) hD id (by omega) (fun x y => wipe2 _ 1 2 _ _) (fun H1 k1 => k1.at0 upd_same) rfl
      (fun i x y zs H1 Ky Kn hi ex ey k1 d1 p ky kn => ?_) (fun zs H1 k1 d1 lz p => ?_)
    · have hk : kvs[i]? = some kvs[i] := List.getElem?_eq_getElem hi
      rw [hk] at ex ey
      obtain ⟨f, hf, e1, ip⟩ := ent_at pr2 hk
      obtain ⟨l1, l2⟩ := lens f (List.mem_of_getElem? hf)
      cases Option.some.inj ey
      have ex2 : x = .str f.1 := by
        have z : kV kvs[i].1 = x := Option.some.inj ex
        rw [e1] at z
        exact z.symm
      subst ex2
      refine yes_ ?_
      have nx : ∀ b : Bool, b = (isNm f.1 && kindP f.2) → zs ++ [V.bl b] = (fs.take (i + 1)).map fun f => V.bl (isNm f.1 && kindP f.2) := fun b hb => by
        rw [p, List.take_add_one, hf, List.map_append, hb]
        rfl
      refine ⟨_, rfl, .str f.1, isNm f.1, rfl, .inl ⟨f.1, rfl, l1, rfl⟩, fun H2 k2 => ⟨_, rfl, ?_⟩⟩
      cases en : isNm f.1 with
      | false => exact iteF (ky _ _ k2 (nx false (by rw [en]; rfl)))
      | true => exact iteT ⟨_, rfl, _, f.2, rfl, (ip.keep0 k1).keep0 k2, l2, fun H3 k3 => ky _ _ (k2.trans k3) (nx _ (by rw [en, Bool.true_and]))⟩
    · have ez : zs = (fs.map fun f => isNm f.1 && kindP f.2).map V.bl := by
        rw [p, ll, List.take_length, List.map_map]
        rfl
      refine ⟨k1.at0 upd_same, D, fs.map fun f => isNm f.1 && kindP f.2, rfl, SqL.of ?_, ?_⟩
      · rw [upd_ne nD, d1, ez]
      · have z := q _ (kp_unlock ha k1)
        rw [fF (by omega)] at z
        rw [List.all_map]
        exact z
end
theorem at_0 (x : V) (xs : List V) : L2.atI (x :: xs) 0 = some x := by simp [L2.atI, L2.ixN]
theorem at_1 (x y : V) (xs : List V) : L2.atI (x :: y :: xs) 1 = some y := by
  have h : (1 : Int) < (xs.length : Int) + 1 + 1 := by omega
  simp [L2.atI, L2.ixN, h]
/-- what a right kind looks like -/
theorem kind_shape {k : Gk.Kind} (h : kindP k = true) : ∃ m r, k = m :: r ∧ ((m = "message" ∧ ∃ x, r = [x] ∧ msgOf k = some x) ∨ (m ≠ "message" ∧ msgOf k = none)) := by
  match k with
  | [] => cases h
  | [x] =>
    refine ⟨x, [], rfl, .inr ⟨fun e => ?_, rfl⟩⟩
    subst e
    revert h
    decide
  | [m, x] =>
    by_cases e : m = "message"
    · exact ⟨m, [x], rfl, .inl ⟨e, x, rfl, by simp [msgOf, e]⟩⟩
    · exact ⟨m, [x], rfl, .inr ⟨e, by simp [msgOf, e]⟩⟩
  | m :: x :: z :: r => cases h
section
variable {P : Program} {w : World} {K : PySem.W.Frag} {mg : Str → Option Value} {base : Heap}
theorem scInner : FnScope ["fields", "kind"] ["fields"] (defScope sInner) := ⟨rfl, rfl, rfl, by decide +kernel, rfl, by decide +kernel, by decide +kernel⟩
theorem ok_inner {f : Addr} {fd : FuncData} (F : Fun K "inner_names" "inner_names" sInner f fd) : FnOk P w K mg base CX0 1 f fd ["fields"] spInner := by
  refine F.ok scInner (fun vs H Q E h => ?_) (fun cdv A outer s H vs Q E hr h => ?_)
  · obtain ⟨v, k, rfl, _⟩ := h
    rfl
  · obtain ⟨v, fs, rfl, ⟨a, kvs, rfl, ha, pr⟩, ⟨few, _, lens⟩, kinds, q⟩ := h
    have hz : (16777216 : Nat) = PySem.sizeLine := PySem.sizeLine_eq.symm
    refine ⟨_, pss_one (ps_ret (pe_lock (pe_lc (own := [("kind", 1)]) (g := gName 1) rfl scInner.nd (pi_values (pv 0)) (blkOk_by (N := ["fields", "kind"]) (sc := defScope sInner) (by decide +kernel)) (fun _ _ _ _ _ => pg_name (i := 1) scInner.nd rfl (Or.inl rfl))
      (fun _ _ _ _ _ => pts_one (pt_cmpR op_eq (pe_ix (r := rIx K) ix_seq (pv 1) pe_int (fun _ _ => rfl)) pe_str (nomark _))) (fun _ _ _ _ _ => pe_ix (r := rIx K) ix_seq (pv 1) pe_int (fun _ _ => rfl))))), ?_⟩
    have ll : kvs.length = fs.length := Paired.length pr
    refine ⟨a, .dK kvs, ha, trivial, fun od => ⟨_, rfl, a, od, kvs, rfl, upd_same, fun D hD => ?_⟩⟩
    have pr2 := kinds_frz (o := .frz od (.dK kvs)) ha pr
    have nD : D ≠ a := fun z => by
      rw [z, upd_same] at hD
      cases hD
    refine lc_kp (T := T0) (walk_values (kvs := kvs)) (i0 := 1) (fun i v => ∃ k, kvs[i]? = some (k, v)) (fun i zs _ => zs = (innersP (fs.take i)).map V.str) (fun _ _ _ _ _ y => y) hD id (by omega) (wipe1 _ 1) (fun H1 k1 => k1.at0 upd_same) rfl
      (fun i v zs H1 Ky Kn hi sx k1 d1 p ky kn => ?_) (fun zs H1 k1 d1 lz p => ?_)
    · obtain ⟨key, hk⟩ := sx
      obtain ⟨f, hf, e1, ip⟩ := ent_at pr2 hk
      obtain ⟨b, eb, hb⟩ := ip.keep0 k1
      have eb : v = .ref b := eb
      subst eb
      obtain ⟨m, r, ek, sh⟩ := kind_shape (kinds f (List.mem_of_getElem? hf))
      have tk : innersP (fs.take (i + 1)) = innersP (fs.take i) ++ (msgOf f.2).toList := by
        unfold innersP
        rw [List.take_add_one, hf, List.filterMap_append]
        cases e : msgOf f.2 <;> simp [e]
      refine ⟨_, rfl, .inr (.inl ⟨b, _, 0, .str m, rfl, rfl, SqT.of hb, ?_, rfl, ?_⟩)⟩
      · rw [ek]
        exact at_0 _ _
      rcases sh with ⟨em, x, er, mo⟩ | ⟨nm, mo⟩
      · rw [decide_eq_true (by rw [em] : V.str m = V.str "message")]
        refine ⟨_, rfl, iteT ⟨_, rfl, .inr (.inl ⟨b, _, 1, .str x, rfl, rfl, SqT.of hb, ?_, ?_⟩)⟩⟩
        · rw [ek, er]
          exact at_1 _ _ _
        · exact ky _ _ (Kp.refl _) (by rw [tk, mo, p, List.map_append]; rfl)
      · rw [decide_eq_false (fun z => nm (by injection z) : ¬ V.str m = V.str "message")]
        exact ⟨_, rfl, iteF (kn _ (Kp.refl _) (by rw [tk, mo, p]; simp))⟩
    · rw [ll, List.take_length] at p
      refine ⟨k1.at0 upd_same, q _ D (kp_unlock ha k1) ?_ ?_⟩
      · rw [upd_ne nD] at hD
        exact hD
      · rw [upd_ne nD, d1, p]
end
end Lw
/-! Gk42: max(e, default = 0), e a list of numbers from 0 on. -/
namespace Gk
open PySem PySem.Spec PyProof.Rows L2
theorem nats_read {h : Heap} : ∀ {ns : List Nat} {us : List Value}, Vals (ns.map fun n => V.int (n : Nat)) us → ReadsAll h us (ns.map fun n => PyData.int (n : Nat)) []
  | [], _, .nil => .nil
  | n :: ns, _, .cons r t => by
    obtain ⟨k, rfl⟩ := r
    exact ReadsAll.cons (as := []) (bs := []) (.int _ _) (nats_read t)
theorem nats_depth : ∀ ns : List Nat, PyData.depthAll (ns.map fun n => PyData.int (n : Nat)) ≤ 1
  | [] => by simp [PyData.depthAll]
  | n :: ns => by
    have h := nats_depth ns
    simp only [List.map_cons, PyData.depthAll, PyData.depth]
    omega
theorem nats_max (n : Nat) : ∀ ns : List Nat, (ns.map fun m => ((m : Nat) : Int)).foldl max (n : Int) = ((ns.foldl Nat.max n : Nat) : Int)
  | [] => rfl
  | m :: ns => by
    rw [List.map_cons, List.foldl_cons, List.foldl_cons]
    have e : max (n : Int) (m : Int) = ((Nat.max n m : Nat) : Int) := by
      show max (n : Int) (m : Int) = ((max n m : Nat) : Int)
      omega
    rw [e]
    exact nats_max (Nat.max n m) ns
section
variable {X : Cx} {p pos kpos : Pos} {e d : Expr} {te : TE} {ta : TA} {j : Nat} {dp : Pos}
def tMaxD (K : PySem.W.Frag) (ta : TA) : TE := fun σ H Q => ta σ H fun vs H1 => ∃ (l : Addr) (ns : List Nat), vs = [.ref l] ∧ SqL K H1 l (ns.map fun n => V.int (n : Nat)) ∧ Q (.int (ns.foldl Nat.max 0 : Nat)) H1
theorem run_max {pins : List (Addr × Obj)} {s : Shared} {σ : L2.St} {H : Hp} {Q : VK} {l : Addr} {ns : List Nat} {u : Value} (hc : X.calm = true) (hu : X.A.units + 2 < cLine) (I : Inv X pins σ H s) (hs : SqL X.K H l (ns.map fun n => V.int (n : Nat))) (hd : RelV (V.int 0) u) (q : Q (.int (ns.foldl Nat.max 0 : Nat)) H) :
    wpAny (model X.prog X.w) X.A (call (.builtin "max") [.ref l] [(Str.ofString "default", u)]) (EP X pins σ Q) X.xe s := by
  obtain ⟨its, rv, hl, hz⟩ := I.list hs
  have rd := nats_read (h := s.heap) rv
  have dp := nats_depth ns
  refine PySem.W.max_list_default (vs := its.toArray) (I.ok.hd hc) hl.isList (by rw [List.toList_toArray]; exact rd) ⟨fun x mx y my => ?_, fun x mx => ?_⟩ (by omega) (fun e0 h' tk k => ?_) (fun y ys i v h' tk bs ey hv rd2 k => ?_)
  · obtain ⟨a, _, rfl⟩ := List.mem_map.mp mx
    obtain ⟨b, _, rfl⟩ := List.mem_map.mp my
    rfl
  · obtain ⟨a, _, rfl⟩ := List.mem_map.mp mx
    exact fun z => nomatch z
  · have en : ns = [] := List.map_eq_nil_iff.mp e0
    subst en
    exact ⟨.int 0, H, I.kept k, hd, q⟩
  · cases ns with
    | nil => cases ey
    | cons n ns =>
      rw [List.map_cons] at ey
      injection ey with e1 e2
      subst e1 e2
      have em : PySem.W.maxD (.int (n : Nat)) (ns.map fun n => PyData.int (n : Nat)) = .int ((ns.foldl Nat.max n : Nat) : Int) := by
        have z := PySem.W.maxD_ints (n : Int) (ns.map fun m => ((m : Nat) : Int))
        rw [List.map_map, nats_max] at z
        exact z
      rw [em] at rd2
      have f0 : (n :: ns).foldl Nat.max 0 = ns.foldl Nat.max n := by
        rw [List.foldl_cons]
        congr 1
        first | done | exact Nat.zero_max n
      rw [f0] at q
      cases rd2 with
      | int i t => exact ⟨.int ((ns.foldl Nat.max n : Nat) : Int), H, I.kept k, ⟨t, rfl⟩, q⟩
theorem pe_maxD (hc : X.calm = true) (hu : X.A.units + 2 < cLine) (hg : Gl X "max") (hm : X.mg "max" = none) (hv : bootBuiltins "max" = some (.builtin "max")) (ha : PA X [e] ta)
    (h1 : backTo pos (starEach [e] X.env) = (false, eval e X.env) :: backTo pos (starEach [] X.env) := by rfl) (h2 : (backTo pos (starEach [e] X.env)).any (·.1) = false := by rfl)
    (h3 : (backToKw pos (keywordEach [⟨some "default", .Constant (.int 0) j dp, kpos⟩] X.env)).all (·.1.isSome) = true := by rfl) (h4 : (backToKw pos (keywordEach [⟨some "default", .Constant (.int 0) j dp, kpos⟩] X.env)).any (·.1.isNone) = false := by rfl)
    (h5 : (backToKw pos (keywordEach [⟨some "default", .Constant (.int 0) j dp, kpos⟩] X.env)).filterMap (·.1) = [("default" : Str)] := by rfl) :
    PE X (.Call (.Name "max" p) [e] [⟨some "default", .Constant (.int 0) j dp, kpos⟩] pos) (tMaxD X.K ta) := by
  refine ⟨fun pins s σ H Q I h => wpAny_Call_Name_kw (ld_blt I hg hm hv ?_ (by decide) (by decide))⟩
  refine PyProof.Rows.callWith_kw (thn (ha.run pos pins s σ H _ I h) fun us s1 q1 => ?_) h1 h2 h3 h4
  obtain ⟨vs, H1, I1, r1, l, ns, rfl, hs, q⟩ := q1
  obtain ⟨u, rfl, ru⟩ := vals1 r1
  obtain rfl : u = Value.ref l := ru
  rw [h5]
  refine thn ((pk_cons (nm := some ("default" : Str)) (kpos := kpos) (pe_int (X := X) (i := 0) (j := j) (pos := dp)) pk_nil).run pos pins s1 σ H1 (fun ws H2 => ws = [V.int 0] ∧ H2 = H1) I1 ⟨rfl, rfl⟩) fun ws s2 q2 => ?_
  obtain ⟨ys, H2, I2, r2, rfl, rfl⟩ := q2
  obtain ⟨u2, rfl, ru2⟩ := vals1 r2
  exact run_max hc hu I2 hs ru2 q
end
end Gk
namespace Lw
open PySem L2 Gk
abbrev sLevels : Stmt := topS 22
theorem boot_max : bootBuiltins "max" = some (.builtin "max") := by decide +kernel
/-- no promise at all -/
theorem fn_none {P : Program} {w : World} {K : PySem.W.Frag} {mg : Str → Option Value} {base : Heap} {k : Nat} {f : Addr} {fd : FuncData} {ps : List Str} {sp : Sp} (h : ∀ vs H Q E, ¬ sp vs H Q E) : FnOk P w K mg base CX0 k f fd ps sp :=
  ⟨fun vs H Q E q => absurd q (h vs H Q E), fun A outer s H args us vs Q E _ _ _ _ q => absurd q (h vs H Q E)⟩
theorem form_kinds {fs : Flds} (h : formP fs = true) : ∀ f ∈ fs, isNm f.1 = true ∧ kindP f.2 = true := by
  unfold formP at h
  rw [Bool.and_eq_true] at h
  intro f m
  have z := List.all_eq_true.mp h.2 f m
  rw [Bool.and_eq_true] at z
  exact z
/-- what stands at a message's name -/
theorem msgs_get {H : Hp} {a : Addr} {kvs : List (L2.Key × V)} {ms : Msgs} {x : Str} (r : Rd H a (.dK kvs)) (p : Paired (Ent (IsF H)) kvs ms) (h : (ms.lookup x).isSome = true) : ∃ v, DGet H a (.str x) (some v) ∧ IsF H v (fldsOf ms x) ∧ (x, fldsOf ms x) ∈ ms := by
  rcases ent_find x p with ⟨e, _⟩ | ⟨f, v, e1, e2, z⟩
  · rw [e] at h
    cases h
  · have ef : fldsOf ms x = f := by
      unfold fldsOf
      rw [e1]
      rfl
    rw [ef]
    exact ⟨v, .inl ⟨kvs, .inr x, r, rfl, e2.symm⟩, z, lookup_mem e1⟩
section
variable {P : Program} {w : World} {K : PySem.W.Frag} {mg : Str → Option Value} {base : Heap}
theorem scLevels : FnScope ["messages", "name", "most", "inner"] ["messages", "name", "most"] (defScope sLevels) := ⟨rfl, rfl, rfl, by decide +kernel, rfl, by decide +kernel, by decide +kernel⟩
theorem ok_levels {f fI : Addr} {fd : FuncData} (F : Fun K "levels" "levels" sLevels f fd) (zm : mg "max" = none) (b : Binds K fd ["messages", "name", "most"] []) (mgf : mg "levels" = some (.ref f)) (kf : PySem.W.keepIn K (.ref f) = true) (DI : Df P w K mg base 1 fI "inner_names" ["fields"] spInner) :
    ∀ n, FnOk P w K mg base CX0 (1 + n) f fd ["messages", "name", "most"] (spLevels n)
  | 0 => fn_none fun vs H Q E h => by
    obtain ⟨_, _, _, m, _, lt, _⟩ := h
    exact absurd lt (Nat.not_lt_zero m)
  | n + 1 => by
    have D : Df P w K mg base (1 + n) f "levels" ["messages", "name", "most"] (spLevels n) := ⟨⟨fd, ok_levels F zm b mgf kf DI n, b⟩, mgf, kf⟩
    refine F.ok scLevels (fun vs H Q E h => ?_) (fun cdv A outer s H vs Q E hr h => ?_)
    · obtain ⟨_, _, _, _, rfl, _⟩ := h
      rfl
    · obtain ⟨v, ms, x, m, rfl, lt, im, mok, forms, kn, hx, q⟩ := h
      have hz : (16777216 : Nat) = PySem.sizeLine := PySem.sizeLine_eq.symm
      have hu := hr.units
      have r1 : Room 1 _ := hr.mono (Nat.le_add_right 1 n)
      have hu2 := Nat.lt_of_le_of_lt (Nat.add_le_add_left (by decide : 2 ≤ 64) _) hr.units
      refine ⟨_, pss_cons (ps_if (pt_cmpR op_eq (pv 2) pe_int (nomark _)) (pss_one (ps_ret pe_int)) pss_nil)
        (pss_one (ps_ret (pe_op op_add pe_int (pe_maxD rfl hu2 (by rfl) zm boot_max (pa_cons (pe_lc (own := [("inner", 3)]) (g := gName 3) (tt := tYes) rfl scLevels.nd (pi_list (pe_df DI r1 (by rfl) (pa_cons (pe_dget (hu_of hr) (pv 0) (pv 1) (fun _ _ => rfl)) pa_nil)))
          (blkOk_by (N := ["messages", "name", "most", "inner"]) (sc := defScope sLevels) (by decide +kernel)) (fun _ _ _ _ _ => pg_name (i := 3) scLevels.nd rfl (Or.inl rfl)) (fun _ _ _ _ _ => pts_nil)
          (fun _ _ _ _ _ => pe_df D hr (by rfl) (pa_cons (pv 0) (pa_cons (pv 3) (pa_cons (pe_op op_sub (pv 2) pe_int) pa_nil))))) pa_nil))))), ?_⟩
      have done : ∀ H2, Kp T0 H H2 → Q (.int (levelsP ms m x : Nat)) H2 := q
      cases m with
      | zero =>
        refine ⟨_, rfl, rfl, _, rfl, ?_⟩
        rw [decide_eq_true (by rfl : V.int ((0 : Nat) : Int) = V.int 0)]
        exact iteT (done H (Kp.refl H))
      | succ m =>
        refine ⟨_, rfl, rfl, _, rfl, ?_⟩
        rw [decide_eq_false (fun z => by injection z with z; omega : ¬ V.int ((m + 1 : Nat) : Int) = V.int 0)]
        refine iteF ?_
        obtain ⟨a, kvs, rfl, rd, pr⟩ := id im
        obtain ⟨vF, dg, isF, mem⟩ := msgs_get rd pr hx
        refine ⟨_, rfl, _, rfl, a, vF, rfl, dg, vF, fldsOf ms x, rfl, isF, (mok.2.2 _ mem).2, fun f mf => (form_kinds (forms _ mem) f mf).2, fun H2 l k2 hl dl => ⟨l, rfl, ⟨_, SqL.of dl⟩, fun D0 hD => ?_⟩⟩
        refine lc_kp (T := T0) (walk_list (xs := (innersP (fldsOf ms x)).map V.str)) (i0 := 3) (fun i v => ((innersP (fldsOf ms x)).map V.str)[i]? = some v) (fun i zs _ => zs = ((innersP (fldsOf ms x)).take i).map fun y => V.int (levelsP ms m y : Nat))
          (fun _ _ _ _ _ y => y) hD id ?_ (wipe1 _ 3) (fun H1 k1 => SqL.of (k1.at0 dl)) rfl (fun i v zs H3 Ky Kn hi sx k3 d3 p ky kn2 => ?_) (fun zs H3 k3 d3 lz p => ?_)
        · rw [List.length_map]
          have h1 : (fldsOf ms x).length < 64 := (mok.2.2 _ mem).2.1
          have h2 : (innersP (fldsOf ms x)).length ≤ (fldsOf ms x).length := List.length_filterMap_le _ _
          omega
        · rw [List.getElem?_map] at sx
          cases ey : (innersP (fldsOf ms x))[i]? with
          | none =>
            rw [ey] at sx
            cases sx
          | some y =>
            rw [ey] at sx
            cases Option.some.inj sx
            have my := List.mem_of_getElem? ey
            refine yes_ ?_
            refine ⟨_, rfl, _, rfl, _, rfl, _, _, rfl, rfl, .ref a, ms, y, m, ?_, by omega, (im.keep0 k2).keep0 k3, mok, forms, kn, inners_known kn y my, fun H4 k4 => ?_⟩
            · show [V.ref a, V.str y, V.int (((m + 1 : Nat) : Int) - 1)] ++ [] = _
              have e : ((m + 1 : Nat) : Int) - 1 = (m : Int) := by omega
              rw [e]
              rfl
            · refine ky _ _ k4 ?_
              rw [p, List.take_add_one, ey, List.map_append]
              rfl
        · rw [List.length_map, List.take_length] at p
          refine ⟨D0, (innersP (fldsOf ms x)).map (levelsP ms m), rfl, SqL.of ?_, 1, _, rfl, rfl, ?_⟩
          · rw [d3, p, List.map_map]
            rfl
          · have z := done H3 (k2.trans k3)
            unfold levelsP at z
            have e : ((1 + ((innersP (fldsOf ms x)).map (levelsP ms m)).foldl Nat.max 0 : Nat) : Int) = 1 + ((((innersP (fldsOf ms x)).map (levelsP ms m)).foldl Nat.max 0 : Nat) : Int) := by omega
            rw [e] at z
            exact z
end
end Lw
/-! Gk6: masks, in plain Lean. -/
namespace Gk
open PySem PySem.Spec PyProof.Rows L2

/-! ### the order of paths -/
theorem pkey_inj : ∀ {p q : Pth}, pkey p = pkey q → p = q
  | [], [], _ => rfl
  | [], _ :: _, e => nomatch e
  | _ :: _, [], e => nomatch e
  | x :: p, y :: q, e => by
    injection e with e1 e2
    have e3 := Sum.inr.inj e1
    have e4 : x = y := by
      have h := Array.toList_inj.mp e3
      cases x
      cases y
      simp only [Str.mk.injEq]
      exact h
    rw [e4, pkey_inj e2]
theorem ltP_irrefl (p : Pth) : ltP p p = false := lex_irrefl _
theorem ltP_trans {p q r : Pth} (h1 : ltP p q = true) (h2 : ltP q r = true) : ltP p r = true := lex_trans _ _ _ h1 h2
theorem ltP_total {p q : Pth} (h1 : ltP p q = false) (h2 : ltP q p = false) : p = q := pkey_inj (lex_total _ _ h1 h2)
abbrev Asc (qs : List Pth) : Prop := qs.Pairwise fun a b => ltP a b = true
/-- two ascending lists of the same paths are one -/
theorem asc_ext : ∀ {ps qs : List Pth}, Asc ps → Asc qs → (∀ p, p ∈ ps ↔ p ∈ qs) → ps = qs
  | [], [], _, _, _ => rfl
  | [], q :: qs, _, _, h => absurd ((h q).mpr List.mem_cons_self) List.not_mem_nil
  | p :: ps, [], _, _, h => absurd ((h p).mp List.mem_cons_self) List.not_mem_nil
  | p :: ps, q :: qs, a, b, h => by
    have a1 : ∀ {r : Pth}, r ∈ ps → ltP p r = true := fun m => List.rel_of_pairwise_cons a m
    have b1 : ∀ {r : Pth}, r ∈ qs → ltP q r = true := fun m => List.rel_of_pairwise_cons b m
    have e : p = q := by
      rcases List.mem_cons.mp ((h p).mp List.mem_cons_self) with e | m
      · exact e
      · rcases List.mem_cons.mp ((h q).mpr List.mem_cons_self) with e | m2
        · exact e.symm
        · have l1 := a1 m2
          have l2 := b1 m
          have l3 := ltP_trans l1 l2
          rw [ltP_irrefl] at l3
          cases l3
    subst e
    have n1 : p ∉ ps := fun m => by
      have l := a1 m
      rw [ltP_irrefl] at l
      cases l
    have n2 : p ∉ qs := fun m => by
      have l := b1 m
      rw [ltP_irrefl] at l
      cases l
    rw [asc_ext (List.Pairwise.of_cons a) (List.Pairwise.of_cons b) fun r => ?_]
    constructor
    · intro m
      rcases List.mem_cons.mp ((h r).mp (List.mem_cons_of_mem _ m)) with e | m2
      · exact absurd (e ▸ m) n1
      · exact m2
    · intro m
      rcases List.mem_cons.mp ((h r).mpr (List.mem_cons_of_mem _ m)) with e | m2
      · exact absurd (e ▸ m) n2
      · exact m2
theorem asc_of {ks : List Pth} (nd : ks.Nodup) (h : ks.Pairwise fun a b => ltP b a = false) : Asc ks := by
  refine List.Pairwise.imp ?_ (List.Pairwise.and h nd)
  intro a b ⟨h1, h2⟩
  cases e : ltP a b with
  | true => rfl
  | false => exact absurd (ltP_total e h1) h2

/-! ### what begins with what -/
theorem begins_iff {p f : Pth} : beginsP p f = true ↔ f <+: p := by
  unfold beginsP
  rw [decide_eq_true_iff]
  exact ⟨fun h => h ▸ List.take_prefix _ _, fun h => (List.prefix_iff_eq_take.mp h).symm⟩
theorem begins_self (p : Pth) : beginsP p p = true := begins_iff.mpr (List.prefix_refl p)
theorem begins_trans {p f g : Pth} (h1 : beginsP p f = true) (h2 : beginsP f g = true) : beginsP p g = true := begins_iff.mpr ((begins_iff.mp h2).trans (begins_iff.mp h1))
theorem begins_anti {p f : Pth} (h1 : beginsP p f = true) (h2 : beginsP f p = true) : p = f := (begins_iff.mp h2).eq_of_length_le (begins_iff.mp h1).length_le
theorem begins_len {p f : Pth} (h : beginsP p f = true) (n : f ≠ p) : f.length < p.length := by
  have q := begins_iff.mp h
  rcases Nat.lt_or_ge f.length p.length with l | l
  · exact l
  · exact absurd (q.eq_of_length_le l) n
theorem covers_iff {ps : List Pth} {p : Pth} : coversP ps p = true ↔ ∃ f ∈ ps, beginsP p f = true := by
  unfold coversP
  rw [List.any_eq_true]
theorem covers_false {ps : List Pth} {p : Pth} : coversP ps p = false ↔ ∀ f ∈ ps, beginsP p f = false := by
  constructor
  · intro h f hf
    cases e : beginsP p f with
    | false => rfl
    | true => rw [covers_iff.mpr ⟨f, hf, e⟩] at h; cases h
  · intro h
    cases e : coversP ps p with
    | false => rfl
    | true =>
      obtain ⟨f, hf, e⟩ := covers_iff.mp e
      rw [h f hf] at e
      cases e
/-- rows qs are the mask made of the paths ps -/
structure Canon (ps qs : List Pth) : Prop where
  asc : Asc qs
  mem : ∀ q, q ∈ qs ↔ q ∈ ps ∧ ∀ f ∈ ps, f ≠ q → beginsP q f = false
theorem Canon.sub {ps qs : List Pth} (c : Canon ps qs) {q : Pth} (h : q ∈ qs) : q ∈ ps := ((c.mem q).mp h).1
/-- each path has a least beginning among some -/
theorem least_front (ps : List Pth) : ∀ (n : Nat) (p : Pth), p.length ≤ n → p ∈ ps → ∃ f ∈ ps, beginsP p f = true ∧ ∀ g ∈ ps, g ≠ f → beginsP f g = false
  | 0, p, l, m => by
    refine ⟨p, m, begins_self p, fun g _ ne => ?_⟩
    cases e : beginsP p g with
    | false => rfl
    | true =>
      have := begins_len e ne
      omega
  | n + 1, p, l, m => by
    by_cases h : ∃ g ∈ ps, g ≠ p ∧ beginsP p g = true
    · obtain ⟨g, mg, ne, b⟩ := h
      have lt := begins_len b ne
      obtain ⟨f, mf, bf, k⟩ := least_front ps n g (by omega) mg
      exact ⟨f, mf, begins_trans b bf, k⟩
    · refine ⟨p, m, begins_self p, fun g mg ne => ?_⟩
      cases e : beginsP p g with
      | false => rfl
      | true => exact absurd ⟨g, mg, ne, e⟩ h
theorem Canon.covers {ps qs : List Pth} (c : Canon ps qs) (x : Pth) : coversP qs x = coversP ps x := by
  cases e : coversP ps x with
  | true =>
    obtain ⟨p, mp, b⟩ := covers_iff.mp e
    obtain ⟨f, mf, bf, k⟩ := least_front ps p.length p (Nat.le_refl _) mp
    exact covers_iff.mpr ⟨f, (c.mem f).mpr ⟨mf, k⟩, begins_trans b bf⟩
  | false => exact covers_false.mpr fun f hf => covers_false.mp e f (c.sub hf)
/-- rows of which none begins with another one -/
theorem Canon.anti {ps qs : List Pth} (c : Canon ps qs) {p q : Pth} (hp : p ∈ qs) (hq : q ∈ qs) (b : beginsP p q = true) : q = p := by
  rcases Classical.em (q = p) with e | ne
  · exact e
  · rw [((c.mem p).mp hp).2 q (c.sub hq) ne] at b
    cases b
/-- rows are known by what they cover -/
theorem canon_ext {ps qs rs ts : List Pth} (c : Canon ps qs) (d : Canon rs ts) (h : ∀ x, coversP qs x = coversP ts x) : qs = ts := by
  have half : ∀ {ps qs rs ts : List Pth}, Canon ps qs → Canon rs ts → (∀ x, coversP qs x = coversP ts x) → ∀ p, p ∈ qs → p ∈ ts := by
    intro ps qs rs ts c d h p hp
    have e1 : coversP ts p = true := (h p) ▸ covers_iff.mpr ⟨p, hp, begins_self p⟩
    obtain ⟨f, mf, bf⟩ := covers_iff.mp e1
    have e2 : coversP qs f = true := (h f).symm ▸ covers_iff.mpr ⟨f, mf, begins_self f⟩
    obtain ⟨g, mg, bg⟩ := covers_iff.mp e2
    have e3 := c.anti hp mg (begins_trans bf bg)
    have e4 : f = p := by
      rw [e3] at bg
      exact begins_anti bg bf
    exact e4 ▸ mf
  exact asc_ext c.asc d.asc fun p => ⟨half c d h p, half d c (fun x => (h x).symm) p⟩
theorem canon_one {ps qs ts : List Pth} (c : Canon ps qs) (d : Canon ps ts) : qs = ts := canon_ext c d fun x => (c.covers x).trans (d.covers x).symm
theorem canon_nil {qs : List Pth} (c : Canon [] qs) : qs = [] := by
  cases qs with
  | nil => rfl
  | cons q qs => exact absurd (c.sub List.mem_cons_self) List.not_mem_nil
theorem covers_app (ps qs : List Pth) (x : Pth) : coversP (ps ++ qs) x = (coversP ps x || coversP qs x) := List.any_append
/-- what both cover -/
def bothP (qs rs : List Pth) : List Pth := qs.filter (coversP rs) ++ rs.filter (coversP qs)
theorem covers_both (qs rs : List Pth) (x : Pth) : coversP (bothP qs rs) x = (coversP qs x && coversP rs x) := by
  cases e1 : coversP (bothP qs rs) x with
  | true =>
    obtain ⟨f, mf, b⟩ := covers_iff.mp e1
    have key : ∀ {as bs : List Pth}, f ∈ as.filter (coversP bs) → coversP as x = true ∧ coversP bs x = true := by
      intro as bs m
      obtain ⟨m1, m2⟩ := List.mem_filter.mp m
      obtain ⟨g, mg, bg⟩ := covers_iff.mp m2
      exact ⟨covers_iff.mpr ⟨f, m1, b⟩, covers_iff.mpr ⟨g, mg, begins_trans b bg⟩⟩
    rcases List.mem_append.mp mf with m | m
    · obtain ⟨h1, h2⟩ := key m
      rw [h1, h2] <;> rfl
    · obtain ⟨h1, h2⟩ := key m
      rw [h1, h2] <;> rfl
  | false =>
    cases e2 : coversP qs x with
    | false => rfl
    | true =>
      cases e3 : coversP rs x with
      | false => rfl
      | true =>
        obtain ⟨f, mf, bf⟩ := covers_iff.mp e2
        obtain ⟨g, mg, bg⟩ := covers_iff.mp e3
        have no := covers_false.mp e1
        rcases Nat.le_total g.length f.length with l | l
        · have bfg : beginsP f g = true := begins_iff.mpr (List.prefix_of_prefix_length_le (begins_iff.mp bg) (begins_iff.mp bf) l)
          have := no f (List.mem_append_left _ (List.mem_filter.mpr ⟨mf, covers_iff.mpr ⟨g, mg, bfg⟩⟩))
          rw [bf] at this
          cases this
        · have bgf : beginsP g f = true := begins_iff.mpr (List.prefix_of_prefix_length_le (begins_iff.mp bf) (begins_iff.mp bg) l)
          have := no g (List.mem_append_right _ (List.mem_filter.mpr ⟨mg, covers_iff.mpr ⟨f, mf, bgf⟩⟩))
          rw [bg] at this
          cases this
def withinP (qs rs : List Pth) : Bool := qs.all (coversP rs)
theorem within_iff {qs rs : List Pth} : withinP qs rs = true ↔ ∀ x, coversP qs x = true → coversP rs x = true := by
  unfold withinP
  rw [List.all_eq_true]
  constructor
  · intro h x hx
    obtain ⟨f, mf, b⟩ := covers_iff.mp hx
    obtain ⟨g, mg, bg⟩ := covers_iff.mp (h f mf)
    exact covers_iff.mpr ⟨g, mg, begins_trans b bg⟩
  · intro h q hq
    exact h q (covers_iff.mpr ⟨q, hq, begins_self q⟩)

/-! ### the list that fewest makes -/
def keepP (ks : List Pth) (p : Pth) : Bool := !(ks.any fun f => decide (p ≠ f) && beginsP p f)
theorem canon_fewest {ps ks : List Pth} (asc : Asc ks) (same : ∀ p, p ∈ ks ↔ p ∈ ps) : Canon ps (ks.filter (keepP ks)) := by
  refine ⟨asc.filter _, fun q => ?_⟩
  rw [List.mem_filter]
  constructor
  · rintro ⟨m, k⟩
    refine ⟨(same q).mp m, fun f mf ne => ?_⟩
    cases e : beginsP q f with
    | false => rfl
    | true =>
      unfold keepP at k
      rw [List.any_eq_true.mpr ⟨f, (same f).mpr mf, Bool.and_eq_true_iff.mpr ⟨decide_eq_true (show q ≠ f from fun z => ne z.symm), e⟩⟩] at k
      cases k
  · rintro ⟨m, k⟩
    refine ⟨(same q).mpr m, ?_⟩
    unfold keepP
    cases e : ks.any fun f => decide (q ≠ f) && beginsP q f with
    | false => rfl
    | true =>
      obtain ⟨f, mf, h⟩ := List.any_eq_true.mp e
      rw [Bool.and_eq_true] at h
      rw [k f ((same f).mp mf) (fun z => of_decide_eq_true h.1 z.symm)] at h
      cases h.2

/-! ### the keys of a dict that is filled -/
theorem keys_putK {κ : Type} [DecidableEq κ] (kvs : List (κ × V)) (k : κ) (v : V) : (putK kvs k v).map (·.1) = if k ∈ kvs.map (·.1) then kvs.map (·.1) else kvs.map (·.1) ++ [k] := by
  unfold putK
  have e : (kvs.any fun kv => decide (kv.1 = k)) = true ↔ k ∈ kvs.map (·.1) := by
    rw [List.any_eq_true, List.mem_map]
    exact ⟨fun ⟨x, m, h⟩ => ⟨x, m, of_decide_eq_true h⟩, fun ⟨x, m, h⟩ => ⟨x, m, decide_eq_true h⟩⟩
  by_cases h : k ∈ kvs.map (·.1)
  · rw [if_pos (e.mpr h), if_pos h, List.map_map]
    refine List.map_congr_left fun x _ => ?_
    show (if x.1 = k then (x.1, v) else x).1 = x.1
    split <;> rfl
  · rw [if_neg (fun z => h (e.mp z)), if_neg h, List.map_append] <;> rfl
theorem inr_inj {p q : Pth} (h : p.map (Sum.inr : Str → L2.Key) = q.map Sum.inr) : p = q := by
  induction p generalizing q with
  | nil => cases q with
    | nil => rfl
    | cons y q => exact nomatch h
  | cons x p ih => cases q with
    | nil => exact nomatch h
    | cons y q =>
      injection h with h1 h2
      rw [Sum.inr.inj h1, ih h2]
theorem keys_step {kvs : List (List L2.Key × V)} {ks : List Pth} (p : Pth) (v : V) (e : kvs.map (·.1) = ks.map (List.map Sum.inr)) (nd : ks.Nodup) :
    ∃ ks2 : List Pth, (putK kvs (p.map Sum.inr) v).map (·.1) = ks2.map (List.map Sum.inr) ∧ ks2.Nodup ∧ ∀ q, q ∈ ks2 ↔ q ∈ ks ∨ q = p := by
  have mem : p.map Sum.inr ∈ kvs.map (·.1) ↔ p ∈ ks := by
    rw [e, List.mem_map]
    exact ⟨fun ⟨q, m, h⟩ => inr_inj h ▸ m, fun m => ⟨p, m, rfl⟩⟩
  rw [keys_putK]
  by_cases h : p ∈ ks
  · rw [if_pos (mem.mpr h)]
    exact ⟨ks, e, nd, fun q => ⟨.inl, fun z => z.elim id fun z => z ▸ h⟩⟩
  · rw [if_neg (fun z => h (mem.mp z))]
    refine ⟨ks ++ [p], by rw [e, List.map_append]; rfl, ?_, fun q => by rw [List.mem_append, List.mem_singleton]⟩
    rw [List.nodup_append]
    refine ⟨nd, List.nodup_cons.mpr ⟨List.not_mem_nil, List.nodup_nil⟩, fun a ha b hb z => ?_⟩
    rw [List.mem_singleton] at hb
    exact h (hb ▸ z ▸ ha)
theorem mem_take_succ {α : Type} {l : List α} {i : Nat} {x : α} (h : l[i]? = some x) (y : α) : y ∈ l.take (i + 1) ↔ y ∈ l.take i ∨ y = x := by
  rw [List.take_add_one, h, Option.toList_some, List.mem_append, List.mem_singleton]
theorem take_succ_filter {α : Type} {l : List α} {i : Nat} {x : α} (h : l[i]? = some x) (f : α → Bool) : (l.take (i + 1)).filter f = if f x = true then (l.take i).filter f ++ [x] else (l.take i).filter f := by
  rw [List.take_add_one, h, Option.toList_some, List.filter_append]
  cases e : f x with
  | true => rw [if_pos rfl, List.filter_cons_of_pos e] <;> rfl
  | false => rw [if_neg Bool.false_ne_true, List.filter_cons_of_neg (by rw [e]; exact Bool.false_ne_true), List.filter_nil, List.append_nil]
end Gk
/-! Gk7: masks in the heap; what their methods promise. -/
namespace Gk
open PySem PySem.Spec PyProof.Rows L2

abbrev MOST : Nat := 100000
theorem most_line : MOST < sizeLine := by rw [sizeLine_eq]; decide
/-- v is a mask whose rows are qs -/
def IsM (C : Addr) (H : Hp) (v : V) (qs : List Pth) : Prop := ∃ (x dx r : Addr) (ys : List V), v = .ref x ∧ H x = some (.ins C dx [("rows", .ref r)]) ∧ H r = some (.tup ys) ∧ Ps H ys qs ∧ ys.length ≤ MOST ∧
  (∀ q ∈ qs, OkP q ∧ q ≠ []) ∧ ∃ ps, Canon ps qs
/-- addresses of T hold no tuple and no instance -/
def Loose (T : Addr → Prop) (H : Hp) : Prop := ∀ a o, T a → H a = some o → (∀ xs, o ≠ .tup xs) ∧ ∀ C dx fs, o ≠ .ins C dx fs
theorem loose0 (H : Hp) : Loose T0 H := fun _ _ z => z.elim
theorem IsM.keep {T : Addr → Prop} {C : Addr} {H H2 : Hp} {v : V} {qs : List Pth} (h : IsM C H v qs) (k : Kp T H H2) (hT : Loose T H) : IsM C H2 v qs := by
  obtain ⟨x, dx, r, ys, e, hx, hr, hp, l, o, c⟩ := h
  exact ⟨x, dx, r, ys, e, k x _ (fun t => (hT x _ t hx).2 _ _ _ rfl) hx, k r _ (fun t => (hT r _ t hr).1 _ rfl) hr, hp.keep k fun a o t e => (hT a o t e).1, l, o, c⟩
theorem IsM.keep0 {C : Addr} {H H2 : Hp} {v : V} {qs : List Pth} (h : IsM C H v qs) (k : Kp T0 H H2) : IsM C H2 v qs := h.keep k (loose0 H)
theorem IsM.canon {C : Addr} {H : Hp} {v : V} {qs : List Pth} (h : IsM C H v qs) : ∃ ps, Canon ps qs := by
  obtain ⟨_, _, _, _, _, _, _, _, _, _, c⟩ := h
  exact c
theorem IsM.len {C : Addr} {H : Hp} {v : V} {qs : List Pth} (h : IsM C H v qs) : qs.length ≤ MOST := by
  obtain ⟨_, _, _, ys, _, _, _, hp, l, _⟩ := h
  rw [← Paired.length hp]
  exact l
theorem IsM.ok {C : Addr} {H : Hp} {v : V} {qs : List Pth} (h : IsM C H v qs) : ∀ q ∈ qs, OkP q ∧ q ≠ [] := by
  obtain ⟨_, _, _, _, _, _, _, _, _, o, _⟩ := h
  exact o

/-! ### promises -/
/-- a list or a tuple of paths -/
def SqP (K : PySem.W.Frag) (H : Hp) (a : Addr) (xs : List V) (ps : List Pth) : Prop := (SqL K H a xs ∨ SqT K H a xs) ∧ Ps H xs ps ∧ ∀ p ∈ ps, OkP p ∧ p ≠ []
theorem SqP.keep0 {K : PySem.W.Frag} {H H2 : Hp} {a : Addr} {xs : List V} {ps : List Pth} (h : SqP K H a xs ps) (k : Kp T0 H H2) : SqP K H2 a xs ps :=
  ⟨h.1.imp (fun z => SqL.ext z fun b o e => k.at0 e) fun z => SqT.ext z fun b o e => k.at0 e, h.2.1.keep0 k, h.2.2⟩
def spFewest (K : PySem.W.Frag) : Sp := fun vs H Q _ => ∃ (a : Addr) (xs : List V) (ps : List Pth), vs = [.ref a] ∧ SqP K H a xs ps ∧ xs.length < sizeLine ∧
  ∀ (H2 : Hp) (l : Addr) (ys : List V) (qs : List Pth), Kp T0 H H2 → H l = none → H2 l = some (.lst ys) → Ps H2 ys qs → ys.length ≤ xs.length → Canon ps qs → Q (.ref l) H2
def spInit (K : PySem.W.Frag) (C : Addr) : Sp := fun vs H Q _ => ∃ (x dx a : Addr) (xs : List V) (ps : List Pth), vs = [.ref x, .ref a] ∧ H x = some (.ins C dx []) ∧ SqP K H a xs ps ∧ xs.length ≤ MOST ∧
  ∀ (H2 : Hp) (qs : List Pth), Kp (fun b => b = x) H H2 → IsM C H2 (.ref x) qs → qs.length ≤ xs.length → Canon ps qs → Q .non H2
def spEqM (C : Addr) : Sp := fun vs H Q _ => ∃ (v u : V) (qs rs : List Pth), vs = [v, u] ∧ IsM C H v qs ∧ IsM C H u rs ∧ Q (.bl (decide (qs = rs))) H
def spAndM (C : Addr) : Sp := fun vs H Q _ => ∃ (v u : V) (qs rs : List Pth), vs = [v, u] ∧ IsM C H v qs ∧ IsM C H u rs ∧ qs.length + rs.length ≤ MOST ∧
  ∀ H2 z ts, Kp T0 H H2 → IsM C H2 z ts → ts.length ≤ qs.length + rs.length → Canon (bothP qs rs) ts → Q z H2
def spOrM (C : Addr) : Sp := fun vs H Q _ => ∃ (v u : V) (qs rs : List Pth), vs = [v, u] ∧ IsM C H v qs ∧ IsM C H u rs ∧ qs.length + rs.length ≤ MOST ∧
  ∀ H2 z ts, Kp T0 H H2 → IsM C H2 z ts → ts.length ≤ qs.length + rs.length → Canon (qs ++ rs) ts → Q z H2
def spWithinM (C : Addr) : Sp := fun vs H Q _ => ∃ (v u : V) (qs rs : List Pth), vs = [v, u] ∧ IsM C H v qs ∧ IsM C H u rs ∧ ∀ H2, Kp T0 H H2 → Q (.bl (withinP qs rs)) H2
def spLenM (C : Addr) : Sp := fun vs H Q _ => ∃ (v : V) (qs : List Pth), vs = [v] ∧ IsM C H v qs ∧ Q (.int (qs.length : Nat)) H
def spPathsM (C : Addr) : Sp := fun vs H Q _ => ∃ (v : V) (qs : List Pth), vs = [v] ∧ IsM C H v qs ∧ ∀ l ys, H l = none → Ps H ys qs → Q (.ref l) (upd H l (.lst ys))
/-- path in mask, or a value that is no row -/
def spInM (K : PySem.W.Frag) (C : Addr) : Sp := fun vs H Q E => ∃ (v u : V) (qs : List Pth), vs = [v, u] ∧ IsM C H v qs ∧
  ((∃ p, IsP H u p ∧ OkP p ∧ p ≠ [] ∧ ∀ H2, Kp T0 H H2 → Q (.bl (coversP qs p)) H2) ∨ spIsRow K [u] H (fun r H2 => r = .bl false ∧ Q (.bl false) H2) E)

/-! ### a new mask -/
theorem Kp.made {H H2 : Hp} {x dx C : Addr} (nx : H x = none) (nd : H dx = none) (k : Kp (fun b => b = x) (upd (upd H dx (.own x)) x (.ins C dx [])) H2) : Kp T0 H H2 := by
  intro b o _ e
  have nb : b ≠ x := ne_of_none e nx
  refine k b o nb ?_
  rw [upd_ne nb, upd_ne (ne_of_none e nd)]
  exact e
theorem Kp.mk {H : Hp} {x dx C : Addr} (nx : H x = none) (nd : H dx = none) : Kp T0 H (upd (upd H dx (.own x)) x (.ins C dx [])) := ((Kp.refl H).over nd).over nx
theorem putF_nil (f : Str) (v : V) : putF f v [] = [(f, v)] := rfl
theorem sqL_at {K : PySem.W.Frag} {T : Addr → Prop} {H H2 : Hp} {a : Addr} {xs : List V} (h : SqL K H a xs) (k : Kp T H H2) (n : ¬ T a) : SqL K H2 a xs :=
  h.imp (fun h => h.imp (fun h => k a _ n h) fun ⟨o, h⟩ => ⟨o, k a _ n h⟩) id
theorem sqT_at {K : PySem.W.Frag} {T : Addr → Prop} {H H2 : Hp} {a : Addr} {xs : List V} (h : SqT K H a xs) (k : Kp T H H2) (n : ¬ T a) : SqT K H2 a xs :=
  h.imp (fun h => h.imp (fun h => k a _ n h) fun ⟨o, h⟩ => ⟨o, k a _ n h⟩) id
/-- a for over a list or a tuple -/
theorem for_seq {K : PySem.W.Frag} {T : Addr → Prop} {i1 : Nat} {a : Addr} {xs : List V} {g : TG} {tb : TS} {D : Ends} {st : L2.St} {H : Hp} (hv : st[i1]? = some (some (.ref a))) (hq : SqL K H a xs ∨ SqT K H a xs) (hT : ¬ T a)
    (Pv : Nat → L2.St → Hp → Prop) (h0 : Pv 0 st H) (hk : ∀ i s2 H2, Pv i s2 H2 → Kp T H H2)
    (hs : ∀ i x s2 H2, xs[i]? = some x → Pv i s2 H2 → g x s2 H2 fun s3 H3 => tb { D with nx := Pv (i + 1), ct := Pv (i + 1), bk := D.nx } s3 H3) (hd : ∀ s2 H2, Pv xs.length s2 H2 → D.nx s2 H2) :
    tFor (fun st H R => iList K (tVar i1) st H R ∨ iTup K (tVar i1) st H R) g tb D st H := by
  rcases hq with h | h
  · refine .inl ⟨_, hv, a, rfl, ⟨xs, h⟩, for_it walk_list Pv h0 (fun i s2 H2 _ p => sqL_at h (hk i s2 H2 p) hT) (fun i x s2 H2 H3 hi p y => ?_) hd⟩
    obtain ⟨rfl, y⟩ := y
    exact hs i x s2 H3 y p
  · refine .inr ⟨_, hv, a, rfl, ⟨xs, h⟩, for_it walk_tup Pv h0 (fun i s2 H2 _ p => sqT_at h (hk i s2 H2 p) hT) (fun i x s2 H2 H3 hi p y => ?_) hd⟩
    obtain ⟨rfl, y⟩ := y
    exact hs i x s2 H3 y p
/-- a path is a row -/
theorem row_of {K : PySem.W.Frag} {H : Hp} {v : V} {p : Pth} {Q : VK} {E : XK} (h : IsP H v p) (o : OkP p) (n : p ≠ []) (q : ∀ H2, Kp T0 H H2 → Q (.bl true) H2) : spIsRow K [v] H Q E := by
  obtain ⟨a, rfl, h⟩ := h
  refine ⟨_, true, rfl, .inl ⟨a, _, _, _, rfl, h, o.1.items, dp_strs p, lay_dP o, ?_, ?_⟩, q⟩
  · rw [List.length_map, sizeLine_eq]
    have := o.2
    omega
  · cases p with
    | nil => exact absurd rfl n
    | cons x p =>
      symm
      show (true && List.all _ id) = true
      rw [Bool.true_and, List.all_map, List.all_eq_true]
      exact fun _ _ => rfl
end Gk
namespace Lw
open PySem L2 Gk
abbrev sBelow : Stmt := topS 23
theorem msgs_at {H : Hp} {v : V} {ms : Msgs} {x : Str} (im : IsMs H v ms) (h : (ms.lookup x).isSome = true) : ∃ a vF, v = .ref a ∧ DGet H a (.str x) (some vF) ∧ IsF H vF (fldsOf ms x) ∧ (x, fldsOf ms x) ∈ ms := by
  obtain ⟨a, kvs, e, rd, pr⟩ := im
  obtain ⟨vF, dg, isF, mem⟩ := msgs_get rd pr h
  exact ⟨a, vF, e, dg, isF, mem⟩
theorem flds_at {H : Hp} {v : V} {fs : Flds} {y : Str} {k : Gk.Kind} (isF : IsF H v fs) (h : fs.lookup y = some k) : ∃ a vk, v = .ref a ∧ DGet H a (.str y) (some vk) ∧ IsP H vk k := by
  obtain ⟨a, kvs, e, ha, pr⟩ := isF
  rcases ent_find y pr with ⟨z, _⟩ | ⟨f, vk, e1, e2, ip⟩
  · rw [h] at z
    cases z
  · rw [h] at e1
    cases e1
    exact ⟨a, vk, e, .inl ⟨kvs, .inr y, .inl ha, rfl, e2.symm⟩, ip⟩
theorem ent_keys {α : Type} {R : V → α → Prop} : ∀ {kvs : List (L2.Key × V)} {fs : List (Str × α)}, Paired (Ent R) kvs fs → kvs.map (·.1) = (fs.map (·.1)).map Sum.inr
  | _, _, .nil => rfl
  | _, _, .cons a r => by
    rw [List.map_cons, List.map_cons, List.map_cons, ent_keys r, a.1]
theorem sum_take (c : Str → Nat) (ys : List Str) (i : Nat) : ((ys.take i).map c).sum ≤ (ys.map c).sum := by
  have e := congrArg (fun l => (l.map c).sum) (List.take_append_drop i ys)
  simp only [List.map_append, List.sum_append] at e
  omega
section
variable {P : Program} {w : World} {K : PySem.W.Frag} {mg : Str → Option Value} {base : Heap}
theorem scBelow : FnScope ["messages", "name", "front", "found", "field", "kind"] ["messages", "name", "front"] (defScope sBelow) := ⟨rfl, rfl, rfl, by decide +kernel, rfl, by decide +kernel, by decide +kernel⟩
theorem ok_below {f : Addr} {fd : FuncData} (F : Fun K "paths_below" "paths_below" sBelow f fd) (zs : mg "sorted" = none) (b : Binds K fd ["messages", "name", "front"] []) (mgf : mg "paths_below" = some (.ref f)) (kf : PySem.W.keepIn K (.ref f) = true) :
    ∀ n, FnOk P w K mg base CX0 (1 + n) f fd ["messages", "name", "front"] (spBelow n)
  | 0 => fn_none fun vs H Q E h => by
    obtain ⟨_, ms, x, _, _, _, _, _, _, _, _, _, z, _⟩ := h
    cases z
  | n + 1 => by
    have D : Df P w K mg base (1 + n) f "paths_below" ["messages", "name", "front"] (spBelow n) := ⟨⟨fd, ok_below F zs b mgf kf n, b⟩, mgf, kf⟩
    refine F.ok scBelow (fun vs H Q E h => ?_) (fun cdv A outer s H vs Q E hr h => ?_)
    · obtain ⟨_, _, _, _, _, rfl, _⟩ := h
      rfl
    · obtain ⟨v, ms, x, t, p, rfl, ht, lp, n6, im, mok, forms, fits, q⟩ := h
      have hz : (16777216 : Nat) = PySem.sizeLine := PySem.sizeLine_eq.symm
      refine ⟨_, pss_cons (ps_set (i := 3) scBelow.nd rfl (Or.inl rfl) (pe_lst pa_nil))
        (pss_cons (ps_for PassesOwn.never rfl (pi_list (pe_callB (call_sortedD rfl) (by rfl) zs (by decide +kernel) (pa_cons (pe_dget (hu_of hr) (pv 0) (pv 1) (fun _ _ => rfl)) pa_nil))) (pg_name (i := 4) scBelow.nd rfl (Or.inl rfl))
          (pss_cons (ps_set (i := 5) scBelow.nd rfl (Or.inl rfl) (pe_dget (hu_of hr) (pe_dget (hu_of hr) (pv 0) (pv 1) (fun _ _ => rfl)) (pv 4) (fun _ _ => rfl)))
          (pss_cons (ps_expr (pe_bm PySem.F.plainAttrs_list PySem.F.slot_list_append PySem.F.type_list_append mt_append (pv 3) (pa_cons (pe_tup (StX.pa_star (pv 2) (pa_cons (pv 4) pa_nil))) pa_nil)))
          (pss_one (ps_if (pt_cmpR op_eq (pe_ix (r := rIx K) ix_seq (pv 5) pe_int (fun _ _ => rfl)) pe_str (nomark _))
            (pss_one (ps_expr (pe_bm PySem.F.plainAttrs_list PySem.F.slot_list_extend PySem.F.type_list_extend mt_extend (pv 3) (pa_cons (pe_df D hr (by rfl) (pa_cons (pv 0) (pa_cons (pe_ix (r := rIx K) ix_seq (pv 5) pe_int (fun _ _ => rfl)) (pa_cons (pe_tup (StX.pa_star (pv 2) (pa_cons (pv 4) pa_nil))) pa_nil)))) pa_nil)))) pss_nil)))))
        (pss_one (ps_ret (pv 3)))), ?_⟩
      unfold fitsP at fits
      rw [Bool.and_eq_true] at fits
      obtain ⟨hx, inn⟩ := fits
      have inn : ∀ i ∈ innersP (fldsOf ms x), fitsP ms n i = true := List.all_eq_true.mp inn
      obtain ⟨a, kvs, rfl, rd, pr⟩ := id im
      obtain ⟨vF0, _, _, mem⟩ := msgs_get rd pr hx
      have fok : FldOk (fldsOf ms x) := (mok.2.2 _ mem).2
      have fm : formP (fldsOf ms x) = true := forms _ mem

      generalize eC : costP ms n (fldsOf ms x) = cost
      refine ⟨Nat.zero_le _, fun lF hlF => ?_⟩
      have g1 := (Kp.refl (T := T0) H).new (o := .lst []) hlF
      have d1 : (upd H lF (.lst [])) lF = some (.lst []) := upd_same
      generalize upd H lF (.lst []) = H1 at g1 d1 ⊢
      obtain ⟨a1, vF, e1, dg, isF, _⟩ := msgs_at (im.keep0 g1) hx
      cases e1
      obtain ⟨aF, kF, rfl, hF, pF⟩ := isF
      refine ⟨_, rfl, _, rfl, a, _, rfl, dg, aF, kF, (fldsOf ms x).map (·.1), rfl, .inl hF, ent_keys pF, (by rw [List.length_map]; exact fok.1), fun ys ls perm srt hls => ⟨ls, rfl, ⟨_, SqL.of upd_same⟩, ?_⟩⟩
      have tot : (ys.map cost).sum = pcount ms (n + 1) x := by rw [← eC]; exact pcount_succ fok.2.1 perm
      have small : pcount ms (n + 1) x ≤ 60000 := Nat.le_trans (pcount_le forms (n + 1) x) (bnd_small n6)
      have nls : ls ≠ lF := fun z => by
        rw [z, d1] at hls
        cases hls
      have g2 := g1.new (o := .lst (ys.map V.str)) hls
      have d2 : (upd H1 ls (.lst (ys.map V.str))) lF = some (.lst []) := ((Kp.refl (T := T0) H1).new hls).at0 d1
      have s2 : (upd H1 ls (.lst (ys.map V.str))) ls = some (.lst (ys.map V.str)) := upd_same
      generalize upd H1 ls (.lst (ys.map V.str)) = H2 at g2 d2 s2 ⊢
      clear dg hF pF hls g1 d1
      refine for_it (walk_list (xs := ys.map V.str)) (fun i st H3 => ∃ (zs : List V) (o4 o5 : Option V), Kp T0 H H3 ∧ H3 lF = some (.lst zs) ∧ zs.length = ((ys.take i).map cost).sum ∧ H3 ls = some (.lst (ys.map V.str)) ∧ st = [some (.ref a), some (.str x), some (.ref t), some (.ref lF), o4, o5])
        ⟨[], none, none, g2, d2, rfl, s2, rfl⟩ (fun i st H3 _ p => ?_) (fun i v st Hx H3 hi p y => ?_) (fun st H3 p => ?_)
      · obtain ⟨zs, o4, o5, k3, e3, l3, s3, rfl⟩ := p
        exact SqL.of s3
      · obtain ⟨zs, o4, o5, k3, e3, l3, s3, rfl⟩ := p
        obtain ⟨rfl, sx⟩ := y
        rw [List.getElem?_map] at sx
        cases ey : ys[i]? with
        | none =>
          rw [ey] at sx
          cases sx
        | some y =>
          rw [ey] at sx
          cases Option.some.inj sx
          have my : y ∈ (fldsOf ms x).map (·.1) := perm.mem_iff.mp (List.mem_of_getElem? ey)
          obtain ⟨f, mf, rfl⟩ := List.mem_map.mp my
          have lk := lookup_of fok.2.1 mf
          obtain ⟨m, r, ek, sh⟩ := kind_shape (form_kinds fm f mf).2
          have ec : cost f.1 = 1 + match msgOf f.2 with
              | some y => pcount ms n y
              | none => 0 := by
            rw [← eC]
            unfold costP
            rw [lk]
            rfl
          have st1 : ((ys.take (i + 1)).map cost).sum = zs.length + cost f.1 := by
            rw [List.take_add_one, ey, List.map_append, List.sum_append, l3]
            simp
          have le1 := sum_take cost ys (i + 1)
          obtain ⟨a1, vF, z1, dg, isF, _⟩ := msgs_at (im.keep0 k3) hx
          cases z1
          obtain ⟨aF, vk, rfl, dk, b, rfl, hb⟩ := flds_at isF lk
          refine ⟨_, rfl, _, rfl, a, _, rfl, dg, _, rfl, aF, _, rfl, dk, ?_⟩
          try dsimp only
          refine ⟨_, rfl, .inl ⟨rfl, _, SqL.of e3⟩, _, rfl, t, p.map V.str, rfl, .inl (SqT.of (k3.at0 ht)), _, rfl, ?_, fun q1 hq1 => ?_⟩
          · show (p.map V.str ++ [V.str f.1]).length ≤ sizeLine
            rw [List.length_append, List.length_map]
            show p.length + 1 ≤ sizeLine
            omega
          have h4 := (Kp.refl (T := T0) H3).new (o := .tup (p.map V.str ++ [V.str f.1])) hq1
          refine ⟨lF, zs, .ref q1, rfl, rfl, h4.at0 e3, by omega, ?_⟩
          have k4 : Kp T0 H (upd (upd H3 q1 (.tup (p.map V.str ++ [V.str f.1]))) lF (.lst (zs ++ [.ref q1]))) := (k3.trans h4).over hlF
          have e4 : (upd (upd H3 q1 (.tup (p.map V.str ++ [V.str f.1]))) lF (.lst (zs ++ [.ref q1]))) lF = some (.lst (zs ++ [.ref q1])) := upd_same
          have s4 : (upd (upd H3 q1 (.tup (p.map V.str ++ [V.str f.1]))) lF (.lst (zs ++ [.ref q1]))) ls = some (.lst (ys.map V.str)) := by
            rw [upd_ne nls]
            exact h4.at0 s3
          have b4 : (upd (upd H3 q1 (.tup (p.map V.str ++ [V.str f.1]))) lF (.lst (zs ++ [.ref q1]))) b = some (.tup (f.2.map V.str)) := by
            rw [upd_ne (fun z => by rw [z, e3] at hb; cases hb)]
            exact h4.at0 hb
          generalize upd (upd H3 q1 (.tup (p.map V.str ++ [V.str f.1]))) lF (.lst (zs ++ [.ref q1])) = H4 at k4 e4 s4 b4 ⊢
          have l4 : (zs ++ [V.ref q1]).length = zs.length + 1 := by rw [List.length_append]; rfl
          generalize zs ++ [V.ref q1] = zs4 at e4 l4 ⊢
          try dsimp only
          refine ⟨_, rfl, .inr (.inl ⟨b, _, 0, .str m, rfl, rfl, SqT.of b4, ?_, rfl, _, rfl, ?_⟩)⟩
          · rw [ek]
            exact at_0 _ _
          rcases sh with ⟨em, y2, er, mo⟩ | ⟨nm, mo⟩
          · rw [decide_eq_true (by rw [em] : V.str m = V.str "message")]
            replace ec : cost f.1 = 1 + pcount ms n y2 := by
              rw [mo] at ec
              exact ec
            have f2 : y2 ∈ innersP (fldsOf ms x) := List.mem_filterMap.mpr ⟨f, mf, mo⟩
            refine iteT ?_
            refine ⟨_, rfl, .inl ⟨rfl, _, SqL.of e4⟩, _, rfl, _, rfl, .inr (.inl ⟨b, _, 1, .str y2, rfl, rfl, SqT.of b4, ?_, ?_⟩)⟩
            · rw [ek, er]
              exact at_1 _ _ _
            refine ⟨_, rfl, t, p.map V.str, rfl, .inl (SqT.of (k4.at0 ht)), _, rfl, ?_, fun q2 hq2 => ?_⟩
            · show (p.map V.str ++ [V.str f.1]).length ≤ sizeLine
              rw [List.length_append, List.length_map]
              show p.length + 1 ≤ sizeLine
              omega
            have h5 := (Kp.refl (T := T0) H4).new (o := .tup (p.map V.str ++ [V.str f.1])) hq2
            refine ⟨.ref a, ms, y2, q2, p ++ [f.1], rfl, ?_, ?_, by omega, im.keep0 (k4.trans h5), mok, forms, inn y2 f2, fun H6 l6 ys6 k6 hl6 dl6 ly6 => ?_⟩
            · rw [List.map_append]
              exact upd_same
            · rw [List.length_append]
              show p.length + 1 + n ≤ 64
              omega
            have e6 := (h5.trans k6).at0 e4
            have s6 := (h5.trans k6).at0 s4
            refine ⟨lF, l6, zs4, ys6, rfl, rfl, e6, dl6, by omega, ?_⟩
            refine ⟨zs4 ++ ys6, _, _, ((k4.trans h5).trans k6).over hlF, upd_same, ?_, ?_, rfl⟩
            · rw [List.length_append, st1, ec, ly6, l4]
              omega
            · rw [upd_ne nls]
              exact s6
          · rw [decide_eq_false (fun z => nm (by injection z) : ¬ V.str m = V.str "message")]
            replace ec : cost f.1 = 1 := by
              rw [mo] at ec
              exact ec
            exact iteF ⟨zs4, _, _, k4, e4, by rw [st1, ec, l4], s4, rfl⟩
      · obtain ⟨zs, o4, o5, k3, e3, l3, s3, rfl⟩ := p
        refine ⟨_, rfl, q H3 lF zs k3 hlF e3 ?_⟩
        rw [l3, List.length_map, List.take_length, tot]
end
end Lw
namespace Lw
open PySem L2 Gk
abbrev sAreM : Stmt := topS 24
structure TxtA (K : PySem.W.Frag) (mg : Str → Option Value) : Prop where
  z_isinstance : mg "isinstance" = none
  z_dict : mg "dict" = none
  z_len : mg "len" = none
  z_all : mg "all" = none
  z_any : mg "any" = none
  mm : ∃ t, mg "MOST_MESSAGES" = some (.int 6 t)
  ml : ∃ t, mg "MOST_LEVELS" = some (.int 4 t)
  mp : ∃ t, mg "MOST_PATHS" = some (.int 40 t)
theorem boot_anyA : bootBuiltins "any" = some (.builtin "any") := by decide +kernel
section
variable {P : Program} {w : World} {K : PySem.W.Frag} {mg : Str → Option Value} {base : Heap}
abbrev NA : List Str := ["value", "name", "fields", "inner"]
theorem scAreM : FnScope NA ["value"] (defScope sAreM) := ⟨rfl, rfl, rfl, by decide +kernel, rfl, by decide +kernel, by decide +kernel⟩
theorem ok_areM {f fN fM fI fL fB : Addr} {fd : FuncData} (F : Fun K "are_messages" "are_messages" sAreM f fd) (T : TxtA K mg) (DN : Df P w K mg base 2 fN "is_name" ["value"] (spIsName K)) (DM : Df P w K mg base 4 fM "is_message_form" ["value"] spForm)
    (DI : Df P w K mg base 1 fI "inner_names" ["fields"] spInner) (DL : Df P w K mg base 8 fL "levels" ["messages", "name", "most"] (spLevels 7)) (DB : Df P w K mg base 5 fB "paths_below" ["messages", "name", "front"] (spBelow 4)) : FnOk P w K mg base CX0 9 f fd ["value"] spAreMsgs := by
  obtain ⟨t6, m6⟩ := T.mm
  obtain ⟨t4, m4⟩ := T.ml
  obtain ⟨t40, m40⟩ := T.mp
  refine F.ok scAreM (fun vs H Q E h => ?_) (fun cdv A outer s H vs Q E hr h => ?_)
  · obtain ⟨v, k, rfl, _⟩ := h
    rfl
  · obtain ⟨v, ms, rfl, im, ⟨a, kvs, rfl, ha⟩, mok, q⟩ := h
    have hz : (16777216 : Nat) = PySem.sizeLine := PySem.sizeLine_eq.symm
    have r1 : Room 1 _ := hr.mono (by decide)
    have r2 : Room 2 _ := hr.mono (by decide)
    have r4 : Room 4 _ := hr.mono (by decide)
    have r5 : Room 5 _ := hr.mono (by decide)
    refine ⟨_, pss_cons (ps_if (PW.pt (pw_or (pt_not (pt_val (pe_callB call_isi (by rfl) T.z_isinstance (by decide +kernel) (pa_cons (pv 0) (pa_cons (pe_bltn (v := .ty "dict") (by rfl) T.z_dict (by decide +kernel) rfl) pa_nil)))))
        (pw_or (pt_cmpR op_gt (pe_callB call_lenD (by rfl) T.z_len PySem.boot_len (pa_cons (pv 0) pa_nil)) (pe_glob (v := .int 6) (by rfl) m6 ⟨_, rfl⟩) (nomark _)) (pw_or1 (pt_cmp (pc_dnotin (hu_of hr) pe_str (pv 0))))))) (pss_one (ps_ret pe_bl)) pss_nil)
      (pss_cons (ps_if (pt_not (pt_val (pe_callB (r := rAll K) (cr_all rfl) (by rfl) T.z_all (by decide +kernel) (pa_cons (pe_lock (pe_lc (own := [("name", 1), ("fields", 2)]) (g := g2 K 1 2) (tt := tYes) rfl scAreM.nd (pi_items (pv 0))
        (blkOk_by (N := NA) (sc := defScope sAreM) (by decide +kernel)) (fun _ _ _ _ _ => pg_tup rfl (pgs_cons (pg_name (i := 1) scAreM.nd rfl (Or.inl rfl)) (pgs_cons (pg_name (i := 2) scAreM.nd rfl (Or.inl rfl)) pgs_nil))) (fun _ _ _ _ _ => pts_nil)
        (fun _ _ _ _ _ => pe_and (pe_df DN r2 (by rfl) (pa_cons (pv 1) pa_nil)) (pe_one (pe_df DM r4 (by rfl) (pa_cons (pv 2) pa_nil)))))) pa_nil)))) (pss_one (ps_ret pe_bl)) pss_nil)
      (pss_cons (ps_if (pt_not (pt_val (pe_callB (r := rAll K) (cr_all rfl) (by rfl) T.z_all (by decide +kernel) (pa_cons (pe_lock (pe_lc2 (own := [("fields", 2), ("inner", 3)]) (vs1 := [3]) (wi1 := iList K (tCall spInner [] E0 (tCons (tVar 2) tNil))) (g := gName 2) (g1 := gName 3) (tt := tYes) (tt1 := tYes) rfl scAreM.nd (pi_values (pv 0))
        (blkOk_by (N := NA) (sc := defScope sAreM) (by decide +kernel)) (by decide) (fun _ _ _ _ _ => pg_name (i := 2) scAreM.nd rfl (Or.inl rfl)) (fun _ _ _ _ _ => pts_nil)
        (fun _ _ _ _ _ => pi_list (pe_df DI r1 (by rfl) (pa_cons (pv 2) pa_nil))) (fun _ _ _ _ _ => pg_name (i := 3) scAreM.nd rfl (Or.inl rfl)) (fun _ _ _ _ _ => pts_nil)
        (fun _ _ _ _ _ => pe_cmp (pc_din (hu_of hr) (pv 3) (pv 0))))) pa_nil)))) (pss_one (ps_ret pe_bl)) pss_nil)
      (pss_cons (ps_if (pt_val (pe_callB (r := rAny K) (cr_any rfl) (by rfl) T.z_any boot_anyA (pa_cons (pe_lock (pe_lc (own := [("name", 1)]) (g := gName 1) (tt := tYes) rfl scAreM.nd (pi_keys (pv 0))
        (blkOk_by (N := NA) (sc := defScope sAreM) (by decide +kernel)) (fun _ _ _ _ _ => pg_name (i := 1) scAreM.nd rfl (Or.inl rfl)) (fun _ _ _ _ _ => pts_nil)
        (fun _ _ _ _ _ => pe_cmpR op_gt (pe_df DL hr (by rfl) (pa_cons (pv 0) (pa_cons (pv 1) (pa_cons (pe_glob (v := .int 6) (by rfl) m6 ⟨_, rfl⟩) pa_nil)))) (pe_glob (v := .int 6) (by rfl) m6 ⟨_, rfl⟩) (nomark _)))) pa_nil))) (pss_one (ps_ret pe_bl)) pss_nil)
      (pss_one (ps_ret (pe_and (pe_cmpR op_le (pe_df DL hr (by rfl) (pa_cons (pv 0) (pa_cons pe_str (pa_cons (pe_glob (v := .int 6) (by rfl) m6 ⟨_, rfl⟩) pa_nil)))) (pe_glob (v := .int 4) (by rfl) m4 ⟨_, rfl⟩) (nomark _))
        (pe_one (pe_cmpR op_le (pe_callB call_len (by rfl) T.z_len PySem.boot_len (pa_cons (pe_df DB r5 (by rfl) (pa_cons (pv 0) (pa_cons pe_str (pa_cons (pe_tup pa_nil) pa_nil)))) pa_nil)) (pe_glob (v := .int 40) (by rfl) m40 ⟨_, rfl⟩) (nomark _))))))))), ?_⟩
    have pr : Paired (Ent (IsF H)) kvs ms := by
      obtain ⟨a2, kvs2, e, rd, pr⟩ := im
      cases e
      rcases rd with rd | ⟨o, rd⟩
      · rw [ha] at rd
        cases rd
        exact pr
      · rw [ha] at rd
        cases rd
    have ll : kvs.length = ms.length := Paired.length pr
    have few := mok.1
    have fetch : ∀ (H2 : Hp) (o : HO) (y : Str), Rd H2 a (.dK kvs) → ∃ r, DGet H2 a (.str y) r ∧ r.isSome = (ms.lookup y).isSome := fun H2 o y rd => by
      rcases ent_find y pr with ⟨e1, e2⟩ | ⟨f, v, e1, e2, _⟩
      · exact ⟨none, .inl ⟨kvs, .inr y, rd, rfl, e2.symm⟩, by rw [e1]; rfl⟩
      · exact ⟨some v, .inl ⟨kvs, .inr y, rd, rfl, e2.symm⟩, by rw [e1]; rfl⟩
    refine ⟨_, rfl, _, _, _, _, true, rfl, .ty "dict", .base (.dK ha), kit_ty (by decide +kernel), true, rfl, ?_⟩
    refine iteF ?_
    refine ⟨_, rfl, a, kvs, rfl, ha, _, _, rfl, rfl, _, rfl, ?_⟩
    by_cases cA : ms.length ≤ 6
    rotate_left
    · have e : decide ((6 : Int) < (kvs.length : Int)) = true := decide_eq_true (by omega)
      rw [e]
      refine iteT ?_
      have z := q H (Kp.refl H)
      rw [show areMsgsP ms = false by simp [areMsgsP, cA]] at z
      exact z
    have e : decide ((6 : Int) < (kvs.length : Int)) = false := decide_eq_false (by omega)
    rw [e]
    refine iteF ?_
    obtain ⟨o, dg, eo⟩ := fetch H (.dK kvs) "top" (.inl ha)
    refine ⟨_, rfl, a, o, rfl, dg, _, rfl, ?_⟩
    cases hB : (ms.lookup ("top" : Str)).isSome with
    | false =>
      rw [eo, hB]
      refine iteT ?_
      have z := q H (Kp.refl H)
      rw [show areMsgsP ms = false by simp [areMsgsP, hB]] at z
      exact z
    | true =>
    rw [eo, hB]
    refine iteF ?_
    -- the names and the fields
    refine ⟨a, .dK kvs, ha, trivial, fun od => ⟨_, rfl, a, od, kvs, rfl, upd_same, fun D hD => ?_⟩⟩
    have pr2 := ents_frz (o := .frz od (.dK kvs)) ha pr
    have nD : D ≠ a := fun z => by
      rw [z, upd_same] at hD
      cases hD
    have hDn : H D = none := by rw [upd_ne nD] at hD; exact hD
    refine lc_pr (T := T0) (walk_items (kvs := kvs)) (i0 := 1) (i1 := 2) (fun i zs _ => zs = (ms.take i).map fun m => V.bl (isNm m.1 && formP m.2)) (fun _ _ _ _ _ p => p) hD id (by omega) (fun x y => wipe2 _ 1 2 _ _) (fun H1 k1 => k1.at0 upd_same) rfl
      (fun i x y zs H1 Ky Kn hi ex ey k1 d1 p ky kn => ?_) (fun zs H1 k1 d1 lz p => ?_)
    · have hk : kvs[i]? = some kvs[i] := List.getElem?_eq_getElem hi
      rw [hk] at ex ey
      obtain ⟨m, hm, e1, isf⟩ := ent_at pr2 hk
      obtain ⟨l1, fok⟩ := mok.2.2 m (List.mem_of_getElem? hm)
      cases Option.some.inj ey
      have ex2 : x = .str m.1 := by
        have z : kV kvs[i].1 = x := Option.some.inj ex
        rw [e1] at z
        exact z.symm
      subst ex2
      refine yes_ ?_
      have nx : ∀ b : Bool, b = (isNm m.1 && formP m.2) → zs ++ [V.bl b] = (ms.take (i + 1)).map fun m => V.bl (isNm m.1 && formP m.2) := fun b hb => by
        rw [p, List.take_add_one, hm, List.map_append, hb]
        rfl
      refine ⟨_, rfl, .str m.1, isNm m.1, rfl, .inl ⟨m.1, rfl, l1, rfl⟩, fun H2 k2 => ⟨_, rfl, ?_⟩⟩
      cases en : isNm m.1 with
      | false => exact iteF (ky _ _ k2 (nx false (by rw [en]; rfl)))
      | true => exact iteT ⟨_, rfl, _, m.2, rfl, (isf.keep0 k1).keep0 k2, fok, fun H3 k3 => ky _ _ (k2.trans k3) (nx _ (by rw [en, Bool.true_and]))⟩
    rw [ll, List.take_length] at p
    refine ⟨k1.at0 upd_same, D, ms.map fun m => isNm m.1 && formP m.2, rfl, SqL.of (by rw [upd_ne nD, d1, p, List.map_map]; rfl), _, rfl, ?_⟩
    have K1 := kp_unlock ha k1
    rw [List.all_map]
    cases hC : ms.all (id ∘ fun m => isNm m.1 && formP m.2) with
    | false =>
      refine iteT ?_
      have hC2 : (ms.all fun m => isNm m.1 && formP m.2) = false := hC
      have z := q _ K1
      rw [show areMsgsP ms = false by unfold areMsgsP; rw [hC2]; simp] at z
      exact z
    | true =>
    refine iteF ?_
    have hC2 : (ms.all fun m => isNm m.1 && formP m.2) = true := hC
    have forms : ∀ m ∈ ms, formP m.2 = true := fun m mm => by
      have z := List.all_eq_true.mp hC2 m mm
      rw [Bool.and_eq_true] at z
      exact z.2
    have ha2 := K1.at0 ha
    have pr3 : Paired (Ent (IsF _)) kvs ms := ent_map pr fun _ _ _ z => z.keep0 K1
    clear pr2 hD nD hDn lz p d1 k1 dg
    generalize upd H1 a (.dK kvs) = G1 at K1 ha2 pr3 ⊢
    -- the inner names are there
    refine ⟨a, .dK kvs, ha2, trivial, fun od => ⟨_, rfl, a, od, kvs, rfl, upd_same, fun D hD => ?_⟩⟩
    have pr2 := ents_frz (o := .frz od (.dK kvs)) ha2 pr3
    have nD : D ≠ a := fun z => by
      rw [z, upd_same] at hD
      cases hD
    have na : (upd G1 a (.frz od (.dK kvs))) a = some (.frz od (.dK kvs)) := upd_same
    generalize eG : upd G1 a (.frz od (.dK kvs)) = G2 at pr2 hD na ⊢
    refine lc2_it (g := gName 2) (g1 := gName 3) (tt := tYes) (tt1 := tYes) (te := tDIn (tVar 3) (tVar 0)) (wi1 := iList K (tCall spInner [] E0 (tCons (tVar 2) tNil))) (vs := [2, 3]) (vs1 := [3]) (walk_values (d := a) (o := od) (kvs := kvs)) (fun i Ha => ∃ zs, Kp T0 G2 Ha ∧ Ha D = some (.lst zs) ∧ zs.length ≤ i * 64 ∧ zs = (ms.take i).flatMap fun m => (innersP m.2).map fun y => V.bl (ms.lookup y).isSome)
      ⟨[], (Kp.refl G2).over hD, upd_same, Nat.zero_le _, rfl⟩ (fun i Ha _ p => ?_) (fun i x Ha Hb hi p y => ?_) (fun Ha p => ?_)
    · obtain ⟨zs, k1, _⟩ := p
      exact k1.at0 na
    · obtain ⟨zs, k1, d1, l1, ez⟩ := p
      obtain ⟨rfl, key, hk⟩ := y
      obtain ⟨m, hm, e1, isf⟩ := ent_at pr2 hk
      have mm := List.mem_of_getElem? hm
      obtain ⟨_, fok⟩ := mok.2.2 m mm
      refine ⟨wipe2x _ 2 3 _, ?_⟩
      refine yes_ ?_
      refine ⟨_, rfl, x, m.2, rfl, isf.keep0 k1, fok, fun f mf => (form_kinds (forms m mm) f mf).2, fun H4 l k4 hl dl => ⟨l, rfl, ⟨_, SqL.of dl⟩, ?_⟩⟩
      have lin : (innersP m.2).length ≤ 64 := Nat.le_trans (List.length_filterMap_le _ _) (Nat.le_of_lt fok.1)
      have i64 : i < 64 := by omega
      have nl : l ≠ D := fun z => by
        rw [z, d1] at hl
        cases hl
      refine run2_it (walk_list (xs := (innersP m.2).map V.str)) (fun j Hc => ∃ ws, Kp T0 G2 Hc ∧ Hc D = some (.lst ws) ∧ Hc l = some (.lst ((innersP m.2).map V.str)) ∧ ws.length ≤ i * 64 + j ∧ ws = zs ++ ((innersP m.2).take j).map fun y => V.bl (ms.lookup y).isSome)
        ⟨zs, k1.trans k4, k4.at0 d1, dl, by omega, by simp⟩ (fun j Hc _ p => ?_) (fun j y Hc Hd hj p yy => ?_) (fun Hc p => ?_)
      · obtain ⟨ws, _, _, s5, _⟩ := p
        exact SqL.of s5
      · obtain ⟨ws, k5, d5, s5, l5, ew⟩ := p
        obtain ⟨rfl, sx⟩ := yy
        rw [List.length_map] at hj
        rw [List.getElem?_map] at sx
        cases ey : (innersP m.2)[j]? with
        | none =>
          rw [ey] at sx
          cases sx
        | some y =>
          rw [ey] at sx
          cases Option.some.inj sx
          refine ⟨wipe2b _ 2 3 _ _, ?_⟩
          refine yes_ ?_
          obtain ⟨o, dg, eo⟩ := fetch Hd (.dK kvs) y (.inr ⟨od, k5.at0 na⟩)
          refine ⟨_, rfl, _, rfl, a, o, rfl, dg, ws, d5, by omega, ws ++ [.bl o.isSome], k5.over hD, upd_same, ?_, ?_, ?_⟩
          · rw [upd_ne nl]
            exact s5
          · rw [List.length_append]
            show ws.length + 1 ≤ _
            omega
          · rw [ew, List.take_add_one, ey, List.map_append, List.append_assoc, eo]
            rfl
      · obtain ⟨ws, k5, d5, s5, l5, ew⟩ := p
        rw [List.length_map] at l5 ew
        refine ⟨ws, k5, d5, by omega, ?_⟩
        rw [ew, List.take_length, List.take_add_one, hm, List.flatMap_append, ez]
        simp
    obtain ⟨zs, k1, d1, l1, ez⟩ := p
    rw [ll, List.take_length] at ez
    have eb : zs = (ms.flatMap fun m => (innersP m.2).map fun y => (ms.lookup y).isSome).map V.bl := by
      rw [ez, List.map_flatMap]
      simp only [List.map_map]
      rfl
    refine ⟨k1.at0 na, D, _, rfl, SqL.of (by rw [upd_ne nD, d1, eb]), _, rfl, ?_⟩
    have K2 := K1.trans (kp_unlock ha2 (eG ▸ k1))
    have eK : (ms.flatMap fun m => (innersP m.2).map fun y => (ms.lookup y).isSome).all id = knownP ms := by
      unfold knownP
      rw [List.all_flatMap]
      simp only [List.all_map]
      rfl
    rw [eK]
    cases hK : knownP ms with
    | false =>
      refine iteT ?_
      have z := q _ K2
      rw [show areMsgsP ms = false by unfold areMsgsP; rw [hK]; simp] at z
      exact z
    | true =>
    refine iteF ?_
    have ha3 := K2.at0 ha
    have pr4 : Paired (Ent (IsF _)) kvs ms := ent_map pr fun _ _ _ z => z.keep0 K2
    clear pr2 hD nD l1 d1 k1 na eb ez eG ha2 pr3 K1
    generalize upd Ha a (.dK kvs) = G3 at K2 ha3 pr4 ⊢
    -- levels
    refine ⟨a, .dK kvs, ha3, trivial, fun od => ⟨_, rfl, a, od, rfl, .inl ⟨kvs, upd_same, fun D hD => ?_⟩⟩⟩
    have im2 := IsMs.frz (od := od) ha3 pr4
    have nD : D ≠ a := fun z => by
      rw [z, upd_same] at hD
      cases hD
    have na : (upd G3 a (.frz od (.dK kvs))) a = some (.frz od (.dK kvs)) := upd_same
    generalize eG : upd G3 a (.frz od (.dK kvs)) = G4 at im2 hD na ⊢
    refine lc_kp (T := T0) (walk_keys (kvs := kvs)) (i0 := 1) (fun i v => ∃ k u, kvs[i]? = some (k, u) ∧ v = kV k) (fun i zs _ => zs = (ms.take i).map fun m => V.bl (decide (6 < levelsP ms 6 m.1))) (fun _ _ _ _ _ y => y) hD id (by omega) (wipe1 _ 1) (fun H1 k1 => k1.at0 na) rfl
      (fun i v zs H5 Ky Kn hi sx k5 d5 p ky kn => ?_) (fun zs H5 k5 d5 lz p => ?_)
    · obtain ⟨key, u, hk, rfl⟩ := sx
      obtain ⟨m, hm, e1, _⟩ := ent_at pr4 hk
      have e1 : key = .inr m.1 := e1
      subst e1
      have mm := List.mem_of_getElem? hm
      refine yes_ ?_
      refine ⟨_, rfl, _, rfl, .ref a, ms, m.1, 6, rfl, by decide, im2.keep0 k5, mok, forms, hK, by rw [lookup_of mok.2.1 mm]; rfl, fun H6 k6 => ⟨_, _, rfl, rfl, ?_⟩⟩
      refine ky _ _ k6 ?_
      have e : decide ((6 : Int) < (levelsP ms 6 m.1 : Nat)) = decide (6 < levelsP ms 6 m.1) := decide_eq_decide.mpr (by omega)
      rw [p, List.take_add_one, hm, List.map_append]
      show _ ++ [V.bl (decide ((6 : Int) < (levelsP ms 6 m.1 : Nat)))] = _
      rw [e]
      rfl
    rw [ll, List.take_length] at p
    refine ⟨k5.at0 na, D, ms.map fun m => decide (6 < levelsP ms 6 m.1), rfl, SqL.of (by rw [upd_ne nD, d5, p, List.map_map]; rfl), _, rfl, ?_⟩
    have K3 := K2.trans (kp_unlock ha3 (eG ▸ k5))
    rw [List.any_map]
    cases hL : ms.any (id ∘ fun m => decide (6 < levelsP ms 6 m.1)) with
    | true =>
      refine iteT ?_
      have hL2 : (ms.any fun m => decide (6 < levelsP ms 6 m.1)) = true := hL
      have z := q _ K3
      rw [show areMsgsP ms = false by unfold areMsgsP; rw [hL2]; simp] at z
      exact z
    | false =>
    refine iteF ?_
    have hL2 : (ms.any fun m => decide (6 < levelsP ms 6 m.1)) = false := hL
    have im5 := im.keep0 K3
    generalize upd H5 a (.dK kvs) = G5 at K3 im5 ⊢
    have all : areMsgsP ms = (decide (levelsP ms 6 "top" ≤ 4) && decide (pcount ms 4 "top" ≤ 40)) := by
      unfold areMsgsP
      rw [decide_eq_true cA, hB, hC2, hK, hL2]
      rfl
    rw [all] at q
    refine ⟨_, rfl, .ref a, ms, "top", 6, rfl, by decide, im5, mok, forms, hK, hB, fun H6 k6 => ⟨_, _, rfl, rfl, _, rfl, ?_⟩⟩
    have e4 : decide (((levelsP ms 6 "top" : Nat) : Int) ≤ 4) = decide (levelsP ms 6 "top" ≤ 4) := decide_eq_decide.mpr (by omega)
    rw [e4]
    by_cases c4 : levelsP ms 6 "top" ≤ 4
    rotate_left
    · rw [decide_eq_false c4]
      refine iteF ?_
      have z := q _ (K3.trans k6)
      rw [decide_eq_false c4, Bool.false_and] at z
      exact z
    rw [decide_eq_true c4]
    refine iteT ?_
    refine ⟨_, rfl, Nat.zero_le _, fun t ht => ?_⟩
    have g7 := (Kp.refl (T := T0) H6).new (o := .tup []) ht
    refine ⟨.ref a, ms, "top", t, [], rfl, upd_same, by decide, by decide, (im5.keep0 k6).keep0 g7, mok, forms, fits_of hK 6 4 "top" hB c4 (by decide), fun H7 l ys k7 hl dl ly => ?_⟩
    refine ⟨_, ys.length, rfl, .inl ⟨ys, SqL.of dl, rfl⟩, _, _, rfl, rfl, ?_⟩
    have e5 : decide (((ys.length : Nat) : Int) ≤ 40) = decide (pcount ms 4 "top" ≤ 40) := by
      rw [ly]
      exact decide_eq_decide.mpr (by omega)
    show Q (V.bl (decide (((ys.length : Nat) : Int) ≤ 40))) H7
    rw [e5]
    have z := q _ (((K3.trans k6).trans g7).trans k7)
    rw [decide_eq_true c4, Bool.true_and] at z
    exact z
end
end Lw
/-! Gk43: len(set(e)) of texts: as many as there are just if none stands twice. -/
namespace Gk
open PySem PySem.Spec PyProof.Rows L2
theorem snoc_nodup {α : Type} {l : List α} {x : α} : (l ++ [x]).Nodup ↔ l.Nodup ∧ x ∉ l := by
  rw [List.nodup_append]
  constructor
  · rintro ⟨a, _, c⟩
    exact ⟨a, fun m => c x m x (List.mem_singleton.mpr rfl) rfl⟩
  · rintro ⟨a, n⟩
    exact ⟨a, by simp, fun y m z mz e => n (by rw [List.mem_singleton.mp mz] at e; exact e ▸ m)⟩
/-- the set of the first i texts -/
structure SetS (P : Program) (w : World) (h : Heap) (a : Addr) (ys : List Str) (m : Nat) : Prop where
  set : h.SetOf (PySem.strKind P w) a (fun k => ys.any (· == k)) m
  le : m ≤ ys.length
  iff : m = ys.length ↔ ys.Nodup
section
variable {P : Program} {w : World} {A : Around} {R : Result → Shared → Prop} {I : Addr} {fp wr : List Addr} {G : Array GenState → Array GenState → Prop} {n : Nat} {Y : Nat → Value → Prop} {St : Nat → Shared → Prop}
theorem fillS (W : WalksS P w A.in1 I fp wr G n Y St) (a : Addr) (af : a ∉ fp) (xs : List Str) (sz : xs.length = n) (few : n + 1 < scanBound)
    (val : ∀ i v, Y i v → ∃ t, v = .str (xs.getD i Str.empty) t) :
    ∀ (k i : Nat) (s : Shared) (m : Nat), n - i = k → i ≤ n → St i s → SetS P w s.heap a (xs.take i) m →
      (∀ s2 m2, Moved (a :: wr) G s s2 → SetS P w s2.heap a xs m2 → R (.ok (.ret .none)) s2) →
      codeAny (model P w) A (.builtin "set.update.loop" ⟨[.ref a, .ref I], []⟩) R s := by
  have aw : a ∉ wr := fun h => af (W.sub _ h)
  have mono_ : ∀ b ∈ wr, b ∈ a :: wr := fun b hb => List.mem_cons_of_mem _ hb
  intro k
  induction k with
  | zero =>
    intro i s m hk hi st S go
    obtain rfl : i = n := by omega
    refine codeAny_builtin PyProof.Rows.F.entry_set_update_loop ?_
    rw [Around.under_plainId PyProof.Rows.F.plain_set_update_loop _]
    refine wpAny_bind (W.done s _ _ st fun s2 mv => ?_)
    refine wpAny_pure (go s2 m (mv.mono mono_) ?_)
    obtain ⟨⟨o, es, ep, t, ho, rest⟩, le, iff_⟩ := S
    rw [← sz, List.take_length] at rest le iff_
    exact ⟨⟨o, es, ep, t, mv.heap a _ aw ho, rest⟩, le, iff_⟩
  | succ k ih =>
    intro i s m hk hi st S go
    have lt : i < n := by omega
    refine codeAny_builtin PyProof.Rows.F.entry_set_update_loop ?_
    rw [Around.under_plainId PyProof.Rows.F.plain_set_update_loop _]
    refine wpAny_bind (W.item i s _ _ lt st fun v s2 hY st2 mv => ?_)
    obtain ⟨t, rfl⟩ := val i v hY
    have S2 : s2.heap.SetOf (PySem.strKind P w) a (fun k => (xs.take i).any (· == k)) m := by
      obtain ⟨⟨o, es, ep, tb, ho, rest⟩, _⟩ := S
      exact ⟨o, es, ep, tb, mv.heap a _ aw ho, rest⟩
    have ltx : i < xs.length := by omega
    have tk : xs.take (i + 1) = xs.take i ++ [xs.getD i Str.empty] := by
      rw [List.take_add_one, List.getElem?_eq_getElem ltx, List.getD_eq_getElem?_getD, List.getElem?_eq_getElem ltx]
      rfl
    have ln : (xs.take i).length = i := by
      rw [List.length_take]
      omega
    generalize xs.getD i Str.empty = x at tk ⊢
    have mle : m ≤ i := ln ▸ S.le
    refine wpAny_bind (wpAny_holding ?_)
    unfold setAdd
    refine wpAny_holding ?_
    refine wpAny_bind ((PySem.strKind P w).pyHash (k := x) (strKind_is _ _ _ _) ?_)
    refine wpAny_setAddHashed_of (knd := PySem.strKind P w) (s := { s2 with toks := s2.toks + 1 }) (strKind_is _ _ _ _) rfl S2 (by omega) fun h3 sb S3 => ?_
    have S4 : SetS P w h3 a (xs.take (i + 1)) (if (xs.take i).any (· == x) then m else m + 1) := by
      rw [tk]
      refine ⟨SetOf_congr S3 (fun k => ?_) rfl, ?_, ?_⟩
      · rw [List.any_append]
        by_cases e : k = x
        · subst e
          simp
        · have e2 : (x == k) = false := beq_eq_false_iff_ne.mpr fun z => e z.symm
          show ((xs.take i).any (· == k) || decide (k = x)) = ((xs.take i).any (· == k) || ((x == k) || false))
          rw [e2, decide_eq_false e, Bool.or_self]
      · rw [List.length_append, ln, List.length_singleton]
        split <;> omega
      · rw [List.length_append, ln, List.length_singleton, snoc_nodup]
        have iff_ := S.iff
        rw [ln] at iff_
        by_cases c : (xs.take i).any (· == x) = true
        · rw [if_pos c]
          obtain ⟨y, my, ey⟩ := List.any_eq_true.mp c
          have : x ∈ xs.take i := eq_of_beq ey ▸ my
          exact ⟨fun z => absurd z (by omega), fun z => absurd this z.2⟩
        · rw [if_neg c]
          have nx : x ∉ xs.take i := fun mx => c (List.any_eq_true.mpr ⟨x, mx, beq_self_eq_true x⟩)
          exact ⟨fun z => ⟨iff_.mp (by omega), nx⟩, fun z => by rw [iff_.mpr z.1]⟩
    refine wpAny_pure ⟨plainId_quiet PyProof.Rows.F.plain_set_update_loop _, ih (i + 1) _ _ (by omega) lt (W.frame _ s2 _ _ st2 (Nat.le_succ _) fun b hb o e => ?_) S4 fun s5 m5 mv5 S5 => ?_⟩
    · rw [sb.2 b (fun z : b = a => af (z ▸ hb))]
      exact e
    · refine go s5 m5 (Moved.trans W.gtrans ((mv.mono mono_).then_heap (Nat.le_succ _) fun b o hb e => ?_) mv5) S5
      rw [sb.2 b (fun z : b = a => hb (z ▸ List.mem_cons_self))]
      exact e
end
section
variable {P : Program} {w : World} {A : Around} {E : Value → Shared → Prop} {s : Shared}
abbrev bare0 (led : Bool) : PySem.Obj := { cls := .type "set", dict := none, data := .set #[] 0 (.fresh 0 0 led) }
set_option maxHeartbeats 8000000 in
theorem setS_call {l : Addr} {its : Array Value} {xs : List Str} {Q : Value → Shared → Prop} (calm : A.handled = none) (hl : s.heap.IsList l its) (hi : PyProof.Rows.StrsAre its.toList xs) (few : its.size + 1 < scanBound)
    (go : ∀ (h2 : Heap) (tk m : Nat), SetS P w h2 s.heap.objs.size xs m → (∀ b o, b < s.heap.objs.size → s.heap.get? b = some o → h2.get? b = some o) → Q (.ref s.heap.objs.size) { s with heap := h2, toks := tk }) :
    wpAny (model P w) A (call (.type "set") [.ref l]) Q E s := by
  obtain ⟨c, tl, hmro⟩ := F.called_set.mro
  have made := F.called_set.made
  have sub_ := F.called_set.sub
  refine wpAny_call (codeAny_of_tree ?_)
  show wpAny _ _ (callAny (.type "set") _) _ _ _
  refine wpAny_pure ⟨Code.quiet_builtin _ (by decide +kernel), codeAny_builtin F.entry_type_call ?_⟩
  rw [Around.under_plain (weight_type_call_type "set" [.ref l] []) rfl]
  have nt := F.called_set.notType
  have can := F.called_set.canCreate
  have tc := F.typeCall_set_1 (.ref l)
  repeat (any_goals (first | assumption | wp_step))
  refine codeAny_mono (code_set_new_1 (.ref l) (E := E) (Q₁ := fun ob s1 => ∃ led, ob = .ref s.heap.objs.size ∧ s1 = { s with heap := s.heap.push (bare0 led) }) fun led => ⟨led, rfl, rfl⟩) fun r s1 hr => ?_
  cases r with
  | error e => exact hr
  | ok fl =>
    cases fl with
    | ret ob =>
      obtain ⟨led, rfl, rfl⟩ := hr
      have at_ : (s.heap.push (bare0 led)).get? s.heap.objs.size = some (bare0 led) := Heap.get?_push_size _ rfl
      have ty : Shared.TypeIs { s with heap := s.heap.push (bare0 led) } (.ref s.heap.objs.size) "set" := ⟨_, at_, rfl⟩
      have li := F.called_set.init.lookup
      have bi := F.called_set.init.bind (.ref s.heap.objs.size)
      repeat (any_goals (first | assumption | wp_step))
      refine codeAny_mono (codeAny_call_builtin (R := wants (fun r s2 => r = .none ∧ ∃ h2 tk m, s2 = { s with heap := h2, toks := tk } ∧ SetS P w h2 s.heap.objs.size xs m ∧
          ∀ b o, b < s.heap.objs.size → s.heap.get? b = some o → h2.get? b = some o) E) F.called_set.init.plain F.entry_set_init (check_set_init_1 ty ?_)) fun r2 s2 hr2 => ?_
      · obtain ⟨⟨cls, dict, data, slots⟩, al, hc, nl, hd⟩ := hl
        simp only at hc hd
        subst hc hd
        have al1 : (s.heap.push (bare0 led)).get? l = some { cls := .type "list", dict := dict, data := .seq its nl, slots := slots } := Heap.get?_push_of_some _ al
        have nsub := F.sub_list_set
        have nfro := F.sub_list_frozenset
        have ndic : (Value.type "list" == Value.type "dict") = false := by decide
        have il : (s.heap.push (bare0 led)).IsList l its := ⟨_, al1, rfl, nl, rfl⟩
        unfold Builtin.«set.__init__» noKeywords Builtin.Frozenset.updateFrom
        generalize hI : pyIter = PI
        wp_walk
        subst hI
        refine wpAny_pyIter_list il ?_
        refine wpAny_bind (wpAny_runValue ?_)
        have old : l < s.heap.objs.size := Heap.lt_size al
        have calm3 : A.in1.in1.in1.handled = none := by simp [calm]
        have sz : (s.heap.push (bare0 led)).objs.size = s.heap.objs.size + 1 := Heap.size_push ..
        have apart : l ≠ (s.heap.push (bare0 led)).objs.size := by
          rw [sz]
          exact Nat.ne_of_lt (Nat.lt_succ_of_lt old)
        have out : s.heap.objs.size ∉ [(s.heap.push (bare0 led)).objs.size, l] := by
          rw [sz]
          simp only [List.mem_cons, List.not_mem_nil, or_false, not_or]
          exact ⟨Nat.ne_of_lt (Nat.lt_succ_self _), Nat.ne_of_gt old⟩
        have xsz : xs.length = its.size := by rw [← StrsAre.len_eq hi, Array.length_toList]
        have val : ∀ (i : Nat) (v : Value), its[i]? = some v → ∃ t, v = .str (xs.getD i Str.empty) t := fun i v hv => SS.strs_at hi i v (by rw [Array.getElem?_toList]; exact hv)
        refine fillS ((Walks.list calm3 _ l apart its).toS) s.heap.objs.size out xs xsz few val (its.size - 0) 0 _ 0 (by omega) (Nat.zero_le _)
          ⟨⟨_, Heap.get?_push_size _ rfl, rfl, rfl⟩, il.push _⟩ ?fresh ?fin
        case fresh =>
          have at2 : ((s.heap.push (bare0 led)).push { cls := .type "list_iterator", data := .fields #[.ref l, .int 0 0] }).get? s.heap.objs.size = some (bare0 led) := Heap.get?_push_of_some _ at_
          exact ⟨PyProof.Rows.SetOf_congr ((PyProof.Rows.setObjOf_fresh (knd := PySem.strKind P w) led).setOf at2 (by unfold scanBound; omega)) (fun _ => rfl) rfl, Nat.zero_le _, ⟨fun _ => .nil, fun _ => rfl⟩⟩
        case fin =>
          intro s3 m mv S
          obtain ⟨h3, g3, d3, tk3, os3⟩ := s3
          have e1 : g3 = s.gens := mv.gens
          have e2 : d3 = s.drawn := mv.drawn
          have e3 : os3 = s.os := mv.os
          subst e1 e2 e3
          show wpAny _ _ _ _ _ _
          refine wpAny_pure ?_
          show wpAny _ _ (ret Value.none) _ _ _
          refine wpAny_pure ⟨rfl, h3, tk3, m, rfl, S, fun b o hb e => ?_⟩
          have b1 : b ≠ s.heap.objs.size := Nat.ne_of_lt hb
          have b2 : b ≠ (s.heap.push (bare0 led)).objs.size := by
            rw [sz]
            exact Nat.ne_of_lt (Nat.lt_succ_of_lt hb)
          exact mv.heap b o (by simp only [List.mem_cons, List.not_mem_nil, or_false, not_or]; exact ⟨b1, b2⟩) (Heap.get?_push_of_some _ (Heap.get?_push_of_some _ e))
      · cases r2 with
        | error e => exact hr2
        | ok fl2 =>
          cases fl2 with
          | ret r =>
            obtain ⟨rfl, h2, tk, m, rfl, S, kp⟩ := hr2
            repeat (any_goals (first | assumption | wp_step))
            exact go _ _ _ S kp
          | _ => exact hr2.elim
    | _ => exact hr.elim
end
section
variable {X : Cx}
/-- len(set(e)), e a list of texts -/
def tLenSetT (K : PySem.W.Frag) (ta : TE) : TE := fun σ H Q => ta σ H fun x H1 => ∃ (l : Addr) (xs : List Str), x = .ref l ∧ SqL K H1 l (xs.map V.str) ∧ xs.length + 1 < scanBound ∧ ∀ m : Nat, m ≤ xs.length → (m = xs.length ↔ xs.Nodup) → Q (.int (m : Nat)) H1
theorem strsVals : ∀ {ys : List Str} {us : List Value}, Vals (ys.map V.str) us → StrsAre us ys
  | [], _, .nil => .nil
  | y :: ys, _, .cons r t => by
    obtain ⟨k, rfl⟩ := r
    exact .cons y k (strsVals t)
theorem pe_lenSetT {a : Expr} {ta : TE} {p p2 q pos : Pos} (hg : Gl X "len") (hm : X.mg "len" = none) (hg2 : Gl X "set") (hm2 : X.mg "set" = none) (ha : PE X a ta) (calm : X.calm = true := by rfl)
    (na : starEach [a] X.env = (false, eval a X.env) :: starEach [] X.env := by rfl) : PE X (.Call (.Name "len" p) [.Call (.Name "set" p2) [a] [] q] [] pos) (tLenSetT X.K ta) := by
  refine ⟨fun pins s σ H Q I h => ?_⟩
  refine Call_ (ld_blt I hg hm boot_len ?_)
  refine PyProof.Rows.callWith_builtin1 (PyProof.Rows.args_cons ?_ rfl) rfl rfl
  refine Call_ (ld_blt I hg2 hm2 boot_set ?_)
  refine PyProof.Rows.callWith_type1 (PyProof.Rows.args_cons (thn (ha.run pins s σ H _ I h) fun v s1 ⟨x, H1, I1, r1, q1⟩ => PyProof.Rows.args_nil ?_) na) na rfl
  obtain ⟨l, xs, rfl, hq, few, q1⟩ := q1
  cases r1
  obtain ⟨its, r, pl, hz⟩ := I1.list hq
  have ln : its.toArray.size = xs.length := by rw [List.size_toArray, ← r.length, List.length_map]
  refine setS_call (I1.ok.hd calm) pl.isList (by simpa using strsVals r) (by rw [ln]; exact few) fun h2 tk m S kp => ?_
  refine PyProof.Rows.args_nil ?_
  obtain ⟨⟨o, es, ep, t, ho, ex, hd, _, _, _, hf, hn⟩, le, iff_⟩ := S
  have I2 : Inv X pins σ H1 { s1 with heap := h2, toks := tk } := I1.kept fun b o e => kp b o (Heap.lt_size e) e
  have small : (m : Int) < 2 ^ 63 := by
    unfold scanBound at few
    omega
  exact call_len_set ho ex hd hf (by rw [hn]; exact small) ⟨.int (m : Nat), H1, I2.tok _, ⟨_, by rw [hn]⟩, q1 m le iff_⟩
end
end Gk
/-! Gk44: sorted of a list of tuples of texts; zip of two tuples as a walk. -/
namespace Gk
open PySem PySem.Spec PyProof.Rows L2
theorem walk_zipT {K : PySem.W.Frag} {a b : Addr} {xs ys : List V} {n : Nat} (hn : n = min xs.length ys.length) : Walk (RZ.ItzT K a b) n (fun H => SqT K H a xs ∧ SqT K H b ys) (YPair (fun i => xs[i]?) (fun i => ys[i]?)) := by
  subst hn
  refine ⟨fun i _ hi q => ?_, fun _ q => ⟨xs, ys, q.1, q.2, by omega⟩, fun i H v H2 _ q y => ?_⟩
  · have h1 : i < xs.length := by omega
    have h2 : i < ys.length := by omega
    exact ⟨xs, ys, xs[i], ys[i], q.1, q.2, by simp [h1], by simp [h2]⟩
  · obtain ⟨T, x, z, h1, h2, h3, h4, h5⟩ := y
    exact ⟨T, x, z, h1, h2, h3, h4 xs q.1, h5 ys q.2⟩
/-- the tuples' addresses -/
theorem ps_bs {H : Hp} : ∀ {xs : List V} {ps : List Pth}, Ps H xs ps → ∃ bs : List (Addr × Pth), bs.map (·.2) = ps ∧ (bs.map fun b => V.ref b.1) = xs ∧ ∀ b ∈ bs, H b.1 = some (.tup (b.2.map V.str))
  | _, _, .nil => ⟨[], rfl, rfl, fun _ h => nomatch h⟩
  | _, _, .cons (b := p) r t => by
    obtain ⟨a, rfl, ha⟩ := r
    obtain ⟨bs, b1, b2, b3⟩ := ps_bs t
    refine ⟨(a, p) :: bs, by rw [List.map_cons, b1], by rw [List.map_cons, b2], fun b hb => ?_⟩
    rcases List.mem_cons.mp hb with rfl | hb
    · exact ha
    · exact b3 b hb
theorem bs_vals : ∀ {bs : List (Addr × Pth)} {its : List Value}, Vals (bs.map fun b => V.ref b.1) its → its = bs.map fun b => Value.ref b.1
  | [], _, .nil => rfl
  | b :: bs, _, .cons r t => by
    cases r
    rw [List.map_cons, ← bs_vals t]
section
variable {X : Cx}
/-- sorted(l), l a list of tuples of one or more texts -/
def rSortLT (K : PySem.W.Frag) : List V → Hp → VK → Prop := fun vs H Q => ∃ (a : Addr) (xs : List V) (ks : List Pth), vs = [V.ref a] ∧ SqL K H a xs ∧ Ps H xs ks ∧ (∀ p ∈ ks, p ≠ []) ∧
  ∀ (bs : List (Addr × Pth)) (l : Addr), (bs.map (·.2)).Perm ks → bs.Pairwise (fun a b => ltP b.2 a.2 = false) → (∀ b ∈ bs, H b.1 = some (.tup (b.2.map V.str))) → H l = none →
    Q (.ref l) (upd H l (.lst (bs.map fun b => V.ref b.1)))
theorem cr_sortedLT : CallR X (.builtin "sorted") (rSortLT X.K) := by
  intro ps st0 st H xs0 us Q I r h
  obtain ⟨a, xs, ks, rfl, hq, pr, hne, q⟩ := h
  obtain ⟨its, rv, hl, hz⟩ := I.list hq
  rw [Vals.ref1 r]
  obtain ⟨bs, b1, b2, b3⟩ := ps_bs pr
  have hb := bs_vals (b2 ▸ rv)
  subst hb
  have lb : bs.length ≤ sizeLine := by
    rw [← b2, List.length_map] at hz
    exact hz
  have lv : (bs.map fun b => Value.ref b.1).length ≤ sizeLine := by
    rw [List.length_map]
    exact lb
  refine Calls.call_function_entry PyProof.Rows.kind_sorted PyProof.Rows.plain_sorted PyProof.Rows.entry_sorted (PyProof.Rows.args_sorted1 _) ?_
  unfold Builtin.«sorted»
  refine wpAny_bind (m := checkCount "sorted" 1 1 _) (wpAny_pure ?_)
  refine wpAny_bind (collect_list hl.isList ?_ lv)
  have I1 : Inv X ps st H { st0 with heap := (st0.heap.push (seqObj "list" #[] 0)).update st0.heap.objs.size (Obj.mapSeq (· ++ (bs.map fun b => Value.ref b.1).toArray)) } := I.kept (t' := st0.toks) fun b o e => by
    rw [Heap.get?_update_ne _ _ _ _ (Nat.ne_of_lt (Heap.lt_size e))]
    exact Heap.get?_push_of_some _ e
  generalize (st0.heap.push (seqObj "list" #[] 0)).update st0.heap.objs.size (Obj.mapSeq (· ++ (bs.map fun b => Value.ref b.1).toArray)) = h1 at I1 ⊢
  have hln := lv
  refine wpAny_bind (wpAny_newList ?_ hln)
  have hoL : (h1.push (seqObj "list" (bs.map fun b => Value.ref b.1).toArray 0)).get? h1.objs.size = some (seqObj "list" (bs.map fun b => Value.ref b.1).toArray 0) := Heap.get?_push_size _ rfl
  show wpAny _ _ _ _ _ { st0 with heap := h1.push (seqObj "list" (bs.map fun b => Value.ref b.1).toArray 0) }
  -- each key, where it stands
  have at1 : ∀ b ∈ bs, ∃ (ob : Obj) (its : List Value) (n : Nat), (h1.push (seqObj "list" (bs.map fun b => Value.ref b.1).toArray 0)).get? b.1 = some ob ∧ ob.cls = .type "tuple" ∧ ob.data = .seq its.toArray n ∧ Vals (b.2.map V.str) its := by
    intro b hb
    obtain ⟨_, its, rv, ob, g1, g2, n, g3⟩ := (show ObjOk X.prog X.w H h1 b.1 (.tup (b.2.map V.str)) from I1.hok b.1 _ (b3 b hb))
    exact ⟨ob, its, n, Heap.get?_push_of_some _ g1, g2, g3, rv⟩
  have key1 : ∀ b ∈ bs, G.tupKeyC (h1.push (seqObj "list" (bs.map fun b => Value.ref b.1).toArray 0)) shT (.ref b.1) = some (pkey b.2) := by
    intro b hb
    obtain ⟨ob, its, n, g1, g2, g3, rv⟩ := at1 b hb
    exact tupKeyC_at g1 g2 g3 (items_pth b.2 its 0 rv)
  have ne1 : ∀ b ∈ bs, b.2 ≠ [] := by
    intro b hb
    exact hne _ (by rw [← b1]; exact List.mem_map.mpr ⟨b, hb, rfl⟩)
  have tups : ∀ cs : List (Addr × Pth), (∀ b ∈ cs, b ∈ bs) → ∃ fs, TupsOf (h1.push (seqObj "list" (bs.map fun b => Value.ref b.1).toArray 0)) shT (cs.map fun b => Value.ref b.1) fs := by
    intro cs
    induction cs with
    | nil => intro _; exact ⟨[], .nil⟩
    | cons c cs ih =>
      intro hc
      obtain ⟨fs, t⟩ := ih fun b hb => hc b (List.mem_cons_of_mem _ hb)
      obtain ⟨ob, its, n, g1, g2, g3, rv⟩ := at1 c (hc c List.mem_cons_self)
      have nz := ne1 c (hc c List.mem_cons_self)
      cases e : c.2 with
      | nil => exact absurd e nz
      | cons x p =>
        rw [e, List.map_cons] at rv
        cases rv with
        | @cons _ u _ its' ru rt =>
          obtain ⟨k, rfl⟩ := ru
          exact ⟨Value.str x k :: fs, .cons ⟨c.1, ob, _, n, rfl, g1, g2, g3, rfl, (fun z => nomatch z), fun _ => ⟨x, k, rfl⟩⟩ t⟩
  obtain ⟨fs, tu⟩ := tups bs fun _ hb => hb
  refine wpAny_bind (wpAny_holding (wpAny_call_entry PyProof.Rows.slot_list_sort ⟨_, hoL, rfl⟩ PyProof.Rows.entry_list_sort
    (G.list_sort_tups (s := { st0 with heap := h1.push (seqObj "list" (bs.map fun b => Value.ref b.1).toArray 0) }) (shape := shT) hoL tu ?_ hln fun so hp hs _ => ⟨_, rfl, ?_⟩)
    (PyProof.Rows.args_list_sort _)))
  · intro v hv
    obtain ⟨b, hb, rfl⟩ := List.mem_map.mp hv
    exact ⟨_, key1 b hb⟩
  · have hpl : (arrOf so).toList.Perm (bs.map fun b => ((Value.ref b.1, Value.ref b.1) : Keyed)) := by
      have e := Array.perm_iff_toList_perm.mp hp
      rw [pairsOf_toList] at e
      have e2 : ((bs.map fun b => Value.ref b.1).zip (bs.map fun b => Value.ref b.1)) = bs.map fun b => ((Value.ref b.1, Value.ref b.1) : Keyed) := by
        rw [List.zip_map'] <;> rfl
      rw [e2] at e
      exact e
    obtain ⟨cs, c1, c2⟩ := perm_lift (fun b : Addr × Pth => ((Value.ref b.1, Value.ref b.1) : Keyed)) hpl bs rfl
    have out : ((arrOf so).map (·.2)).toList = cs.map fun b => Value.ref b.1 := by
      rw [Array.toList_map, ← c2, List.map_map] <;> rfl
    have len : cs.length = bs.length := c1.length_eq
    have kk : ∀ (i : Nat) (hi : i < cs.length), KK (G.tupKindC (h1.push (seqObj "list" (bs.map fun b => Value.ref b.1).toArray 0)) shT) (arrOf so) i = pkey cs[i].2 := by
      intro i hi
      have e : (arrOf so)[i]? = some ((Value.ref cs[i].1, Value.ref cs[i].1) : Keyed) := by
        rw [← Array.getElem?_toList, ← c2, List.getElem?_map, List.getElem?_eq_getElem hi] <;> rfl
      unfold KK
      rw [e]
      show (G.tupKeyC (h1.push (seqObj "list" (bs.map fun b => Value.ref b.1).toArray 0)) shT (.ref cs[i].1)).getD [] = _
      rw [key1 cs[i] (c1.mem_iff.mp (List.getElem_mem hi))] <;> rfl
    have srt : cs.Pairwise (fun a b => ltP b.2 a.2 = false) := by
      rw [List.pairwise_iff_getElem]
      intro i j hi hj lt
      have r : PyProof.Rows.lexLt PyProof.Rows.itemOrd (KK (G.tupKindC (h1.push (seqObj "list" (bs.map fun b => Value.ref b.1).toArray 0)) shT) (arrOf so) j)
          (KK (G.tupKindC (h1.push (seqObj "list" (bs.map fun b => Value.ref b.1).toArray 0)) shT) (arrOf so) i) = false :=
        hs i j (Nat.le_of_lt lt) (by rw [pairsOf_size, List.length_map]; omega)
      rw [kk i hi, kk j hj] at r
      exact r
    obtain ⟨ep2, he2⟩ := PyProof.Rows.sortedHeap_at (vs := bs.map fun b => Value.ref b.1) (out := (arrOf so).map (·.2)) hoL
    have lc : (cs.map fun b => V.ref b.1).length ≤ sizeLine := by rw [List.length_map]; omega
    refine wpAny_pure ⟨_, rfl, .ref h1.objs.size, upd H h1.objs.size (.lst (cs.map fun b => V.ref b.1)), I1.laid (t' := st0.toks) (fun b u e => ?_) (Nat.le_refl _)
      (show ObjOk X.prog X.w _ _ _ (.lst (cs.map fun b => V.ref b.1)) from ⟨lc, ((arrOf so).map (·.2)).toList, ep2, by rw [out]; exact vals_fst cs, by rw [Array.toArray_toList]; exact he2⟩), rfl,
      q cs _ (by rw [← b1]; exact c1.map _) srt (fun b hb => b3 b (c1.mem_iff.mp hb)) (I1.hok.fresh (Nat.le_refl _))⟩
    have lt := Heap.lt_size e
    rw [PyProof.Rows.sortedHeap_old (Nat.ne_of_lt lt) (by rw [size_push']; exact Nat.lt_succ_of_lt lt)]
    exact Heap.get?_push_of_some _ e
end
end Gk
/-! Gk45: choices of a schema: as data, in the heap; promises. -/
namespace Gk
open PySem PySem.Spec PyProof.Rows L2
abbrev Cho := List (Str × List Pth)
/-! ### plain -/
def ascP (p : Pth) : Bool := (p.zip (p.drop 1)).all fun q => decide (q.1.cps.toList < q.2.cps.toList)
def choiceP (fs : Flds) (p : Pth) : Bool := !(decide (p.length < 2)) && ((p.all fun n => isNm n && (fs.lookup n).isSome) && ascP p)
def rowsP (fs : Flds) (rows : List Pth) : Bool := rows.all (choiceP fs) && decide rows.flatten.Nodup
def chosP (ms : Msgs) (cs : Cho) : Bool := (cs.all fun c => isNm c.1 && (ms.lookup c.1).isSome) && cs.all fun c => rowsP (fldsOf ms c.1) c.2
def rowsOf (cs : Cho) (n : Str) : List Pth := (cs.lookup n).getD []
def RowOk (p : Pth) : Prop := p.length < 64 ∧ ∀ x ∈ p, x.length < sizeLine
def ChoOk (cs : Cho) : Prop := cs.length < 64 ∧ (cs.map (·.1)).Nodup ∧ ∀ c ∈ cs, c.1.length < sizeLine ∧ c.2.length < 64 ∧ ∀ p ∈ c.2, RowOk p
/-! ### in the heap -/
/-- a list of tuples -/
def IsRs (H : Hp) (v : V) (rows : List Pth) : Prop := ∃ a xs, v = .ref a ∧ H a = some (.lst xs) ∧ Ps H xs rows
def IsCh (H : Hp) (v : V) (cs : Cho) : Prop := ∃ a kvs, v = .ref a ∧ Rd H a (.dK kvs) ∧ Paired (Ent (IsRs H)) kvs cs
theorem IsRs.keep0 {H H2 : Hp} {v : V} {rows : List Pth} (h : IsRs H v rows) (k : Kp T0 H H2) : IsRs H2 v rows := by
  obtain ⟨a, xs, e, d, p⟩ := h
  exact ⟨a, xs, e, k.at0 d, p.keep0 k⟩
theorem IsCh.keep0 {H H2 : Hp} {v : V} {cs : Cho} (h : IsCh H v cs) (k : Kp T0 H H2) : IsCh H2 v cs := by
  obtain ⟨a, kvs, e, d, p⟩ := h
  exact ⟨a, kvs, e, rd_keep0 d k, ent_map p fun _ _ _ z => z.keep0 k⟩
theorem Ps.frz {H : Hp} {d : Addr} {kvs : List (L2.Key × V)} {o : HO} (e : H d = some (.dK kvs)) : ∀ {xs : List V} {ps : List Pth}, Ps H xs ps → Ps (upd H d o) xs ps
  | _, _, .nil => .nil
  | _, _, .cons r t => .cons (r.frz e) (Ps.frz e t)
theorem IsRs.frz {H : Hp} {v : V} {rows : List Pth} {d : Addr} {kvs : List (L2.Key × V)} {o : HO} (h : IsRs H v rows) (e : H d = some (.dK kvs)) : IsRs (upd H d o) v rows := by
  obtain ⟨a, xs, rfl, t, p⟩ := h
  refine ⟨a, xs, rfl, ?_, p.frz e⟩
  rw [upd_ne (fun z => by rw [z, e] at t; cases t)]
  exact t
theorem rows_frz {H : Hp} {d : Addr} {kvs : List (L2.Key × V)} {cs : Cho} {o : HO} (e : H d = some (.dK kvs)) (p : Paired (Ent (IsRs H)) kvs cs) : Paired (Ent (IsRs (upd H d o))) kvs cs := ent_map p fun _ _ _ z => z.frz e
/-- the messages while the choices' dict is locked -/
theorem IsMs.lock {H : Hp} {v : V} {ms : Msgs} {d : Addr} {kvs : List (L2.Key × V)} {cs : Cho} {o : HO} (im : IsMs H v ms) (e : H d = some (.dK kvs)) (p : Paired (Ent (IsRs H)) kvs cs) (nz : kvs ≠ []) : IsMs (upd H d o) v ms := by
  obtain ⟨kv, m⟩ := List.exists_mem_of_ne_nil _ nz
  obtain ⟨i, hi⟩ := List.mem_iff_getElem?.mp m
  obtain ⟨c, _, _, b, xs, e1, t1, _⟩ := ent_at p hi
  obtain ⟨a, ks, rfl, rd, q⟩ := im
  have ne : a ≠ d := by
    intro z
    subst z
    rcases rd with rd | ⟨o2, rd⟩
    · rw [e] at rd
      cases rd
      obtain ⟨f, _, _, b2, ys, e2, t2, _⟩ := ent_at q hi
      rw [e1] at e2
      cases e2
      rw [t1] at t2
      cases t2
    · rw [e] at rd
      cases rd
  refine ⟨a, ks, rfl, ?_, ent_map q fun kv2 m2 f z => z.frz e ?_⟩
  · rcases rd with rd | ⟨o2, rd⟩
    · exact .inl (by rw [upd_ne ne]; exact rd)
    · exact .inr ⟨o2, by rw [upd_ne ne]; exact rd⟩
  · intro z2
    obtain ⟨b2, ys, e2, t2, q2⟩ := z
    rw [z2] at e2
    cases e2
    rw [e] at t2
    cases t2
    obtain ⟨f2, _, _, b3, e3, t3⟩ := ent_at q2 hi
    rw [e1] at e3
    cases e3
    rw [t1] at t3
    cases t3
/-! ### promises -/
def spChoice : Sp := fun vs H Q _ => ∃ (f v : V) (fs : Flds) (p : Pth), vs = [f, v] ∧ IsF H f fs ∧ IsP H v p ∧ RowOk p ∧ ∀ H2, Kp T0 H H2 → Q (.bl (choiceP fs p)) H2
def spChoices : Sp := fun vs H Q _ => ∃ (m : V) (ms : Msgs) (a : Addr) (kvs : List (L2.Key × V)) (cs : Cho), vs = [m, .ref a] ∧ IsMs H m ms ∧ H a = some (.dK kvs) ∧ Paired (Ent (IsRs H)) kvs cs ∧ MsgOk ms ∧ ChoOk cs ∧ ∀ H2, Kp T0 H H2 → Q (.bl (chosP ms cs)) H2
end Gk
namespace Lw
open PySem L2 Gk
abbrev sChoice : Stmt := topS 25
abbrev sChoices : Stmt := topS 26
structure TxtC (K : PySem.W.Frag) (mg : Str → Option Value) : Prop where
  z_isinstance : mg "isinstance" = none
  z_tuple : mg "tuple" = none
  z_list : mg "list" = none
  z_dict : mg "dict" = none
  z_len : mg "len" = none
  z_all : mg "all" = none
  z_zip : mg "zip" = none
  z_set : mg "set" = none
theorem cut_drop1 (xs : List V) (h : 1 ≤ xs.length) : cutV xs (some 1) none = xs.drop 1 := by
  unfold cutV
  have e : HT.sIx xs.length 0 (some ((1 : Nat) : Int)) = 1 := by rw [HT.sIx_nat]; omega
  have e2 : (some (1 : Int)) = some ((1 : Nat) : Int) := rfl
  rw [e2, e, HT.sIx_none]
  exact List.take_of_length_le (by rw [List.length_drop]; exact Nat.le_refl _)
section
variable {P : Program} {w : World} {K : PySem.W.Frag} {mg : Str → Option Value} {base : Heap}
abbrev NC : List Str := ["fields", "value", "name", "first", "second"]
theorem scChoice : FnScope NC ["fields", "value"] (defScope sChoice) := ⟨rfl, rfl, rfl, by decide +kernel, rfl, by decide +kernel, by decide +kernel⟩
theorem ok_choice {f fN : Addr} {fd : FuncData} (F : Fun K "is_choice" "is_choice" sChoice f fd) (T : TxtC K mg) (DN : Df P w K mg base 2 fN "is_name" ["value"] (spIsName K)) : FnOk P w K mg base CX0 3 f fd ["fields", "value"] spChoice := by
  refine F.ok scChoice (fun vs H Q E h => ?_) (fun cdv A outer s H vs Q E hr h => ?_)
  · obtain ⟨_, _, _, _, rfl, _⟩ := h
    rfl
  · obtain ⟨vf, v, fs, p, rfl, ⟨fa, kvs, rfl, hf, pr⟩, ⟨a, rfl, ha⟩, ⟨few, lens⟩, q⟩ := h
    have hz : (16777216 : Nat) = PySem.sizeLine := PySem.sizeLine_eq.symm
    refine ⟨_, pss_cons (ps_if (PW.pt (pw_or (pt_not (pt_val (pe_callB call_isi (by rfl) T.z_isinstance (by decide +kernel) (pa_cons (pv 1) (pa_cons (pe_bltn (v := .ty "tuple") (by rfl) T.z_tuple (by decide +kernel) rfl) pa_nil)))))
        (pw_or (pt_cmpR op_lt (pe_callB call_len (by rfl) T.z_len PySem.boot_len (pa_cons (pv 1) pa_nil)) pe_int (nomark _)) (pw_or1 (pt_not (pt_val (pe_callB (r := rAll K) (cr_all rfl) (by rfl) T.z_all (by decide +kernel) (pa_cons (pe_lc (own := [("name", 2)]) (g := gName 2) (tt := tYes) rfl scChoice.nd (pi_tup (pv 1))
          (blkOk_by (N := NC) (sc := defScope sChoice) (by decide +kernel)) (fun _ _ _ _ _ => pg_name (i := 2) scChoice.nd rfl (Or.inl rfl)) (fun _ _ _ _ _ => pts_nil)
          (fun _ _ _ _ _ => pe_and (pe_df DN hr (by rfl) (pa_cons (pv 2) pa_nil)) (pe_one (pe_cmp (pc_din (hu_of hr) (pv 2) (pv 0)))))) pa_nil)))))))) (pss_one (ps_ret pe_bl)) pss_nil)
      (pss_one (ps_ret (pe_callB (r := rAll K) (cr_all rfl) (by rfl) T.z_all (by decide +kernel) (pa_cons (pe_lc (own := [("first", 3), ("second", 4)]) (g := g2 K 3 4) (tt := tYes) rfl scChoice.nd (RZ.pi_zipA (by rfl) T.z_zip (pa_cons (pv 1) (pa_cons (pe_slice sl_tupA (pv 1) (po_some pe_int) po_none) pa_nil)))
          (blkOk_by (N := NC) (sc := defScope sChoice) (by decide +kernel)) (fun _ _ _ _ _ => pg_tup rfl (pgs_cons (pg_name (i := 3) scChoice.nd rfl (Or.inl rfl)) (pgs_cons (pg_name (i := 4) scChoice.nd rfl (Or.inl rfl)) pgs_nil))) (fun _ _ _ _ _ => pts_nil)
          (fun _ _ _ _ _ => pe_cmpR op_lt_str (pv 3) (pv 4) (nomark _))) pa_nil)))), ?_⟩
    refine ⟨_, rfl, _, _, _, _, true, rfl, .ty "tuple", .base (.tup ha), kit_ty (by decide +kernel), true, rfl, ?_⟩
    refine iteF ?_
    refine ⟨_, rfl, _, p.length, rfl, .inr ⟨_, SqT.of ha, by rw [List.length_map]⟩, _, _, rfl, rfl, _, rfl, ?_⟩
    have e2 : decide (((p.length : Nat) : Int) < 2) = decide (p.length < 2) := decide_eq_decide.mpr (by omega)
    rw [e2]
    by_cases c2 : p.length < 2
    · rw [decide_eq_true c2]
      refine iteT ?_
      have z := q H (Kp.refl H)
      unfold choiceP at z
      rw [decide_eq_true c2] at z
      exact z
    rw [decide_eq_false c2]
    refine iteF ?_
    refine ⟨_, rfl, a, rfl, ⟨_, SqT.of ha⟩, fun D hD => ?_⟩
    have fetch : ∀ (H2 : Hp) (y : Str), Kp T0 H H2 → ∃ r, DGet H2 fa (.str y) r ∧ r.isSome = (fs.lookup y).isSome := fun H2 y k => by
      rcases ent_find y pr with ⟨e1, e2⟩ | ⟨f, v, e1, e2, _⟩
      · exact ⟨none, .inl ⟨kvs, .inr y, .inl (k.at0 hf), rfl, e2.symm⟩, by rw [e1]; rfl⟩
      · exact ⟨some v, .inl ⟨kvs, .inr y, .inl (k.at0 hf), rfl, e2.symm⟩, by rw [e1]; rfl⟩
    refine lc_kp (T := T0) (walk_tup (xs := p.map V.str)) (i0 := 2) (fun i v => (p.map V.str)[i]? = some v) (fun i zs _ => zs = (p.take i).map fun n => V.bl (isNm n && (fs.lookup n).isSome)) (fun _ _ _ _ _ y => y) hD id (by rw [List.length_map]; omega) (wipe1 _ 2) (fun H1 k1 => SqT.of (k1.at0 ha)) rfl
      (fun i v zs H1 Ky Kn hi sx k1 d1 ez ky kn => ?_) (fun zs H1 k1 d1 lz ez => ?_)
    · rw [List.getElem?_map] at sx
      cases ey : p[i]? with
      | none =>
        rw [ey] at sx
        cases sx
      | some y =>
        rw [ey] at sx
        cases Option.some.inj sx
        have my := List.mem_of_getElem? ey
        refine yes_ ?_
        have nx : ∀ b : Bool, b = (isNm y && (fs.lookup y).isSome) → zs ++ [V.bl b] = (p.take (i + 1)).map fun n => V.bl (isNm n && (fs.lookup n).isSome) := fun b hb => by
          rw [ez, List.take_add_one, ey, List.map_append, hb]
          rfl
        refine ⟨_, rfl, .str y, isNm y, rfl, .inl ⟨y, rfl, lens y my, rfl⟩, fun H2 k2 => ⟨_, rfl, ?_⟩⟩
        cases en : isNm y with
        | false => exact iteF (ky _ _ k2 (nx false (by rw [en]; rfl)))
        | true =>
          obtain ⟨o, dg, eo⟩ := fetch H2 y (k1.trans k2)
          exact iteT ⟨_, rfl, _, rfl, fa, o, rfl, dg, ky _ _ k2 (nx _ (by rw [en, Bool.true_and, eo]))⟩
    rw [List.length_map, List.take_length] at ez
    refine ⟨D, p.map fun n => isNm n && (fs.lookup n).isSome, rfl, SqL.of (by rw [d1, ez, List.map_map]; rfl), _, rfl, ?_⟩
    rw [List.all_map]
    cases cN : p.all (id ∘ fun n => isNm n && (fs.lookup n).isSome) with
    | false =>
      refine iteT ?_
      have hN : (p.all fun n => isNm n && (fs.lookup n).isSome) = false := cN
      have z := q _ k1
      unfold choiceP at z
      rw [hN, Bool.false_and, Bool.and_false] at z
      exact z
    | true =>
    refine iteF ?_
    have hN : (p.all fun n => isNm n && (fs.lookup n).isSome) = true := cN
    have whole : choiceP fs p = ascP p := by
      unfold choiceP
      rw [hN, decide_eq_false c2]
      rfl
    rw [whole] at q
    have ha1 := k1.at0 ha
    have l2 : 1 ≤ (p.map V.str).length := by rw [List.length_map]; omega
    refine ⟨_, rfl, _, rfl, _, rfl, a, _, rfl, SqT.of ha1, fun z => ?_, fun _ t ht => ?_⟩
    · have e : HT.sIx (p.map V.str).length 0 (some ((1 : Nat) : Int)) = 0 := z.1
      rw [HT.sIx_nat] at e
      omega
    rw [cut_drop1 _ l2]
    have k2 : Kp T0 H (upd H1 t (.tup ((p.map V.str).drop 1))) := k1.new ht
    have na : a ≠ t := fun z => by
      rw [z, ht] at ha1
      cases ha1
    refine ⟨a, t, p.map V.str, (p.map V.str).drop 1, rfl, .inr ⟨SqT.of (k2.at0 ha), SqT.of upd_same, fun D2 hD2 => ?_⟩⟩
    have hd : (p.map V.str).drop 1 = (p.drop 1).map V.str := List.map_drop.symm
    generalize eG : upd H1 t (.tup ((p.map V.str).drop 1)) = G1 at k2 hD2 ⊢
    have ht1 : G1 t = some (.tup ((p.map V.str).drop 1)) := by rw [← eG]; exact upd_same
    refine lc_pr (T := T0) (walk_zipT (a := a) (b := t) (xs := p.map V.str) (ys := (p.map V.str).drop 1) rfl) (i0 := 3) (i1 := 4) (fun i zs _ => zs = ((p.zip (p.drop 1)).take i).map fun q => V.bl (decide (q.1.cps.toList < q.2.cps.toList))) (fun _ _ _ _ _ p => p) hD2 id (by rw [List.length_map]; omega) (fun x y => wipe2 _ 3 4 _ _) (fun H1 k3 => ⟨SqT.of (k3.at0 (k2.at0 ha)), SqT.of (k3.at0 ht1)⟩) rfl
      (fun i x y zs H3 Ky Kn hi ex ey k3 d3 ez ky kn => ?_) (fun zs H3 k3 d3 lz ez => ?_)
    · rw [hd] at ey
      rw [List.getElem?_map] at ex ey
      cases e1 : p[i]? with
      | none =>
        rw [e1] at ex
        cases ex
      | some x1 =>
      cases e2 : (p.drop 1)[i]? with
      | none =>
        rw [e2] at ey
        cases ey
      | some y1 =>
        rw [e1] at ex
        rw [e2] at ey
        cases Option.some.inj ex
        cases Option.some.inj ey
        refine yes_ ?_
        refine ⟨_, rfl, _, rfl, x1, y1, rfl, rfl, ky _ _ (Kp.refl _) ?_⟩
        have ezp : (p.zip (p.drop 1))[i]? = some (x1, y1) := by
          rw [List.getElem?_zip_eq_some]
          exact ⟨e1, e2⟩
        rw [ez, List.take_add_one, ezp, List.map_append]
        rfl
    have lzp : min (p.map V.str).length ((p.map V.str).drop 1).length = (p.zip (p.drop 1)).length := by
      rw [List.length_zip, hd, List.length_map, List.length_map]
    rw [lzp, List.take_length] at ez
    refine ⟨D2, (p.zip (p.drop 1)).map fun q => decide (q.1.cps.toList < q.2.cps.toList), rfl, SqL.of (by rw [d3, ez, List.map_map]; rfl), ?_⟩
    rw [List.all_map]
    exact q _ (k2.trans k3)
end
end Lw
namespace Lw
open PySem L2 Gk
theorem msgs_in {H : Hp} {am : Addr} {ms : Msgs} (im : IsMs H (.ref am) ms) (y : Str) : ∃ o, DGet H am (.str y) o ∧ o.isSome = (ms.lookup y).isSome := by
  obtain ⟨a, kvs, e, rd, pr⟩ := im
  cases e
  rcases ent_find y pr with ⟨e1, e2⟩ | ⟨f, v, e1, e2, _⟩
  · exact ⟨none, .inl ⟨kvs, .inr y, rd, rfl, e2.symm⟩, by rw [e1]; rfl⟩
  · exact ⟨some v, .inl ⟨kvs, .inr y, rd, rfl, e2.symm⟩, by rw [e1]; rfl⟩
theorem msgs_at2 {H : Hp} {am : Addr} {ms : Msgs} (im : IsMs H (.ref am) ms) {y : Str} (h : (ms.lookup y).isSome = true) : ∃ v, DGet H am (.str y) (some v) ∧ IsF H v (fldsOf ms y) := by
  obtain ⟨a, kvs, e, rd, pr⟩ := im
  cases e
  obtain ⟨v, d, f, _⟩ := msgs_get rd pr h
  exact ⟨v, d, f⟩
section
variable {P : Program} {w : World} {K : PySem.W.Frag} {mg : Str → Option Value} {base : Heap}
abbrev NS : List Str := ["messages", "value", "name", "some", "choice", "fields", "field"]
theorem scChoices : FnScope NS ["messages", "value"] (defScope sChoices) := ⟨rfl, rfl, rfl, by decide +kernel, rfl, by decide +kernel, by decide +kernel⟩
theorem ok_choices {f fN fC : Addr} {fd : FuncData} (F : Fun K "are_choices" "are_choices" sChoices f fd) (T : TxtC K mg) (DN : Df P w K mg base 2 fN "is_name" ["value"] (spIsName K)) (DC : Df P w K mg base 3 fC "is_choice" ["fields", "value"] spChoice) : FnOk P w K mg base CX0 4 f fd ["messages", "value"] spChoices := by
  refine F.ok scChoices (fun vs H Q E h => ?_) (fun cdv A outer s H vs Q E hr h => ?_)
  · obtain ⟨_, _, _, _, _, rfl, _⟩ := h
    rfl
  · obtain ⟨m, ms, a, kvs, cs, rfl, im, ha, pr, mok, ⟨few, nd, cok⟩, q⟩ := h
    have hz : (16777216 : Nat) = PySem.sizeLine := PySem.sizeLine_eq.symm
    have r2 : Room 2 _ := hr.mono (by decide)
    refine ⟨_, pss_cons (ps_if (PW.pt (pw_or (pt_not (pt_val (pe_callB call_isi (by rfl) T.z_isinstance (by decide +kernel) (pa_cons (pv 1) (pa_cons (pe_bltn (v := .ty "dict") (by rfl) T.z_dict (by decide +kernel) rfl) pa_nil)))))
        (pw_or1 (pt_not (pt_val (pe_callB (r := rAll K) (cr_all rfl) (by rfl) T.z_all (by decide +kernel) (pa_cons (pe_lock (pe_lc (own := [("name", 2)]) (g := gName 2) (tt := tYes) rfl scChoices.nd (pi_keys (pv 1))
          (blkOk_by (N := NS) (sc := defScope sChoices) (by decide +kernel)) (fun _ _ _ _ _ => pg_name (i := 2) scChoices.nd rfl (Or.inl rfl)) (fun _ _ _ _ _ => pts_nil)
          (fun _ _ _ _ _ => pe_and (pe_df DN r2 (by rfl) (pa_cons (pv 2) pa_nil)) (pe_one (pe_cmp (pc_din (hu_of hr) (pv 2) (pv 0))))))) pa_nil))))))) (pss_one (ps_ret pe_bl)) pss_nil)
      (pss_cons (ps_lock (ps_for PassesOwn.never rfl (pi_items (pv 1)) (pg_tup rfl (pgs_cons (pg_name (i := 2) scChoices.nd rfl (Or.inr rfl)) (pgs_cons (pg_name (i := 3) scChoices.nd rfl (Or.inl rfl)) pgs_nil)))
        (pss_cons (ps_if (PW.pt (pw_or (pt_not (pt_val (pe_callB call_isiT (by rfl) T.z_isinstance (by decide +kernel) (pa_cons (pv 3) (pa_cons (pe_tup (pa_cons (pe_bltn (v := .ty "list") (by rfl) T.z_list (by decide +kernel) rfl) (pa_cons (pe_bltn (v := .ty "tuple") (by rfl) T.z_tuple (by decide +kernel) rfl) pa_nil))) pa_nil)))))
            (pw_or1 (pt_not (pt_val (pe_callB (r := rAll K) (cr_all rfl) (by rfl) T.z_all (by decide +kernel) (pa_cons (pe_lc (own := [("choice", 4)]) (g := gName 4) (tt := tYes) rfl scChoices.nd (pi_list (pv 3))
              (blkOk_by (N := NS) (sc := defScope sChoices) (by decide +kernel)) (fun _ _ _ _ _ => pg_name (i := 4) scChoices.nd rfl (Or.inl rfl)) (fun _ _ _ _ _ => pts_nil)
              (fun _ _ _ _ _ => pe_df DC hr (by rfl) (pa_cons (pe_dget (hu_of hr) (pv 0) (pv 2) (fun _ _ => rfl)) (pa_cons (pv 4) pa_nil)))) pa_nil))))))) (pss_one (ps_ret pe_bl)) pss_nil)
        (pss_cons (ps_setLc2 (i := 5) (own := [("choice", 4), ("field", 6)]) (vs1 := [6]) (wi1 := iTup K (tVar 4)) (g := gName 4) (g1 := gName 6) (tt := tYes) (tt1 := tYes) rfl scChoices.nd rfl rfl (sw_true rfl rfl rfl (by decide +kernel)) (pi_list (pv 3))
            (blkOk_by (N := NS) (sc := defScope sChoices) (by decide +kernel)) (by decide) (fun _ _ _ _ _ => pg_name (i := 4) scChoices.nd rfl (Or.inl rfl)) (fun _ _ _ _ _ => pts_nil)
            (fun _ _ _ _ _ => pi_tup (pv 4)) (fun _ _ _ _ _ => pg_name (i := 6) scChoices.nd rfl (Or.inl rfl)) (fun _ _ _ _ _ => pts_nil)
            (fun _ _ _ _ _ => pv 6))
        (pss_one (ps_if (pt_cmpR op_lt (pe_lenSetT (by rfl) T.z_len (by rfl) T.z_set (pv 5)) (pe_callB call_len (by rfl) T.z_len PySem.boot_len (pa_cons (pv 5) pa_nil)) (nomark _)) (pss_one (ps_ret pe_bl)) pss_nil))))))
      (pss_one (ps_ret pe_bl))), ?_⟩
    obtain ⟨am, kvm, rfl, _⟩ := id im
    have ll : kvs.length = cs.length := Paired.length pr
    refine ⟨_, rfl, _, _, _, _, true, rfl, .ty "dict", .base (.dK ha), kit_ty (by decide +kernel), true, rfl, ?_⟩
    refine iteF ?_
    -- the names
    refine ⟨a, .dK kvs, ha, trivial, fun od => ⟨_, rfl, a, od, rfl, .inl ⟨kvs, upd_same, fun D hD => ?_⟩⟩⟩
    have na : (upd H a (.frz od (.dK kvs))) a = some (.frz od (.dK kvs)) := upd_same
    have nD : D ≠ a := fun z => by
      rw [z, upd_same] at hD
      cases hD
    refine lc_kp (T := T0) (walk_keys (kvs := kvs)) (i0 := 2) (fun i v => ∃ k u, kvs[i]? = some (k, u) ∧ v = kV k) (fun i zs _ => zs = (cs.take i).map fun c => V.bl (isNm c.1 && (ms.lookup c.1).isSome)) (fun _ _ _ _ _ y => y) hD id (by omega) (wipe1 _ 2) (fun H1 k1 => k1.at0 na) rfl
      (fun i v zs H1 Ky Kn hi sx k1 d1 ez ky kn => ?_) (fun zs H1 k1 d1 lz ez => ?_)
    · obtain ⟨key, u, hk, rfl⟩ := sx
      obtain ⟨c, hc, e1, _⟩ := ent_at pr hk
      have e1 : key = .inr c.1 := e1
      subst e1
      have mc := List.mem_of_getElem? hc
      obtain ⟨l1, _, _⟩ := cok c mc
      have nz : kvs ≠ [] := fun z => by rw [z] at hk; cases hk
      have im1 := (im.lock (o := .frz od (.dK kvs)) ha pr nz).keep0 k1
      refine yes_ ?_
      have nx : ∀ b : Bool, b = (isNm c.1 && (ms.lookup c.1).isSome) → zs ++ [V.bl b] = (cs.take (i + 1)).map fun c => V.bl (isNm c.1 && (ms.lookup c.1).isSome) := fun b hb => by
        rw [ez, List.take_add_one, hc, List.map_append, hb]
        rfl
      refine ⟨_, rfl, .str c.1, isNm c.1, rfl, .inl ⟨c.1, rfl, l1, rfl⟩, fun H2 k2 => ⟨_, rfl, ?_⟩⟩
      cases en : isNm c.1 with
      | false => exact iteF (ky _ _ k2 (nx false (by rw [en]; rfl)))
      | true =>
        obtain ⟨o, dg, eo⟩ := msgs_in (im1.keep0 k2) c.1
        exact iteT ⟨_, rfl, _, rfl, am, o, rfl, dg, ky _ _ k2 (nx _ (by rw [en, Bool.true_and, eo]))⟩
    rw [ll, List.take_length] at ez
    refine ⟨k1.at0 na, D, cs.map fun c => isNm c.1 && (ms.lookup c.1).isSome, rfl, SqL.of (by rw [upd_ne nD, d1, ez, List.map_map]; rfl), _, rfl, ?_⟩
    have K1 := kp_unlock ha k1
    rw [List.all_map]
    cases hA : cs.all (id ∘ fun c => isNm c.1 && (ms.lookup c.1).isSome) with
    | false =>
      refine iteT ?_
      have hA2 : (cs.all fun c => isNm c.1 && (ms.lookup c.1).isSome) = false := hA
      have z := q _ K1
      unfold chosP at z
      rw [hA2] at z
      exact z
    | true =>
    refine iteF ?_
    have hA2 : (cs.all fun c => isNm c.1 && (ms.lookup c.1).isSome) = true := hA
    have hin : ∀ c ∈ cs, (ms.lookup c.1).isSome = true := fun c mc => by
      have z := List.all_eq_true.mp hA2 c mc
      rw [Bool.and_eq_true] at z
      exact z.2
    have whole : chosP ms cs = cs.all fun c => rowsP (fldsOf ms c.1) c.2 := by
      unfold chosP
      rw [hA2, Bool.true_and]
    rw [whole] at q
    have ha1 := K1.at0 ha
    have pr1 : Paired (Ent (IsRs _)) kvs cs := ent_map pr fun _ _ _ z => z.keep0 K1
    have im1 := im.keep0 K1
    clear nD hD na lz ez d1 k1
    generalize upd H1 a (.dK kvs) = G1 at K1 ha1 pr1 im1 ⊢
    -- the rows
    refine ⟨a, .dK kvs, ha1, trivial, fun od => ⟨_, rfl, a, od, kvs, rfl, upd_same, ?_⟩⟩
    have na : (upd G1 a (.frz od (.dK kvs))) a = some (.frz od (.dK kvs)) := upd_same
    have pr2 := rows_frz (o := .frz od (.dK kvs)) ha1 pr1
    have iml : kvs ≠ [] → IsMs (upd G1 a (.frz od (.dK kvs))) (.ref am) ms := fun nz => im1.lock ha1 pr1 nz
    have back : ∀ H2, Kp T0 (upd G1 a (.frz od (.dK kvs))) H2 → Kp T0 H (upd H2 a (.dK kvs)) := fun H2 k => K1.trans (kp_unlock ha1 k)
    generalize upd G1 a (.frz od (.dK kvs)) = G2 at na pr2 iml back ⊢
    refine for_it (walk_items (d := a) (o := od) (kvs := kvs)) (fun i st H2 => Kp T0 G2 H2 ∧ ((cs.take i).all fun c => rowsP (fldsOf ms c.1) c.2) = true ∧ ∃ o2 o3 o4 o5 o6 : Option V, st = [some (.ref am), some (.ref a), o2, o3, o4, o5, o6])
      ⟨Kp.refl G2, rfl, none, none, none, none, none, rfl⟩ (fun i st H2 _ p => p.1.at0 na) (fun i x st H2 H3 hi p y => ?_) (fun st H2 p => ?_)
    rotate_left
    · obtain ⟨k2, ok, o2, o3, o4, o5, o6, rfl⟩ := p
      rw [ll, List.take_length] at ok
      refine ⟨k2.at0 na, ?_⟩
      have z := q _ (back _ k2)
      rw [ok] at z
      exact z
    obtain ⟨k2, ok, o2, o3, o4, o5, o6, rfl⟩ := p
    obtain ⟨tp, x1, y1, rfl, htp, rfl, ex, ey⟩ := y
    have hk : kvs[i]? = some kvs[i] := List.getElem?_eq_getElem hi
    dsimp only at ex ey
    rw [hk] at ex ey
    obtain ⟨c, hc, e1, irs⟩ := ent_at pr2 hk
    have mc := List.mem_of_getElem? hc
    obtain ⟨l1, l2, rok⟩ := cok c mc
    have e1 : kvs[i].1 = .inr c.1 := e1
    cases Option.some.inj ey
    have ex2 : x1 = .str c.1 := by
      have z : kV kvs[i].1 = x1 := Option.some.inj ex
      rw [e1] at z
      exact z.symm
    subst ex2
    have nz : kvs ≠ [] := List.ne_nil_of_length_pos (Nat.lt_of_le_of_lt (Nat.zero_le _) hi)
    have k3 : Kp T0 G2 (upd H2 tp (.tup [.str c.1, kvs[i].2])) := k2.new htp
    obtain ⟨ra, xs, ev, hra, hps⟩ := irs
    rw [ev] at k3 ⊢
    generalize eH3 : upd H2 tp (.tup [.str c.1, .ref ra]) = H3 at k3 ⊢
    have htp3 : H3 tp = some (.tup [.str c.1, .ref ra]) := by rw [← eH3]; exact upd_same
    refine ⟨tp, [.str c.1, .ref ra], rfl, SqT.of htp3, rfl, _, _, rfl, _, _, rfl, rfl, ?_⟩
    have lx : xs.length = c.2.length := Paired.length hps
    have nextB : rowsP (fldsOf ms c.1) c.2 = true → ((cs.take (i + 1)).all fun c => rowsP (fldsOf ms c.1) c.2) = true := fun h => by
      rw [List.take_add_one, hc, List.all_append, ok, Bool.true_and]
      show (rowsP (fldsOf ms c.1) c.2 && true) = true
      rw [h]
      rfl
    have noB : rowsP (fldsOf ms c.1) c.2 = false → (cs.all fun c => rowsP (fldsOf ms c.1) c.2) = false := fun h => by
      cases e : cs.all fun c => rowsP (fldsOf ms c.1) c.2 with
      | false => rfl
      | true =>
        have z := List.all_eq_true.mp e c mc
        rw [h] at z
        cases z
    -- it is a list
    refine ⟨_, rfl, (by show 2 ≤ sizeLine; decide), fun t2 ht2 => ?_⟩
    have k4 : Kp T0 G2 (upd H3 t2 (.tup [.ty "list", .ty "tuple"])) := k3.new ht2
    have hra4 := k4.at0 hra
    refine ⟨_, t2, _, _, _, true, rfl, upd_same, .cons (.ty "list") (.cons (.ty "tuple") .nil), .base (.lst hra4), kitAny_cons (kit_ty (b := "list") (r := true) (by decide +kernel)) (fun z => nomatch z) (fun _ => rfl), true, rfl, ?_⟩
    refine iteF ?_
    generalize upd H3 t2 (.tup [.ty "list", .ty "tuple"]) = H4 at k4 hra4 ⊢
    -- each row
    refine ⟨_, rfl, ra, rfl, ⟨_, SqL.of hra4⟩, fun D hD => ?_⟩
    refine lc_kp (T := T0) (walk_list (xs := xs)) (i0 := 4) (fun j v => xs[j]? = some v) (fun j zs _ => zs = (c.2.take j).map fun p => V.bl (choiceP (fldsOf ms c.1) p)) (fun _ _ _ _ _ y => y) hD id (by omega) (wipe1 _ 4) (fun H1 k1 => SqL.of (k1.at0 hra4)) rfl
      (fun j v zs H1 Ky Kn hj sx k1 d1 ez ky kn => ?_) (fun zs H5 k5 d5 lz ez => ?_)
    · obtain ⟨p, hp, ip⟩ := Ps.get hps sx
      have mp := List.mem_of_getElem? hp
      refine yes_ ?_
      obtain ⟨vF, dg, isF⟩ := msgs_at2 (((iml nz).keep0 k4).keep0 k1) (hin c mc)
      refine ⟨_, rfl, _, rfl, am, vF, rfl, dg, _, rfl, vF, v, fldsOf ms c.1, p, rfl, isF, (ip.keep0 k4).keep0 k1, rok p mp, fun H6 k6 => ky _ _ k6 ?_⟩
      rw [ez, List.take_add_one, hp, List.map_append]
      rfl
    rw [lx, List.take_length] at ez
    refine ⟨D, c.2.map (choiceP (fldsOf ms c.1)), rfl, SqL.of (by rw [d5, ez, List.map_map]; rfl), _, rfl, ?_⟩
    have K5 := k4.trans k5
    rw [List.all_map]
    cases hR : c.2.all (id ∘ choiceP (fldsOf ms c.1)) with
    | false =>
      refine iteT ?_
      refine ⟨K5.at0 na, ?_⟩
      have hR2 : (c.2.all (choiceP (fldsOf ms c.1))) = false := hR
      have z := q _ (back _ K5)
      rw [noB (by unfold rowsP; rw [hR2]; rfl)] at z
      exact z
    | true =>
    refine iteF ?_
    have hR2 : (c.2.all (choiceP (fldsOf ms c.1))) = true := hR
    -- the fields of all rows
    have hra5 := k5.at0 hra4
    refine ⟨_, rfl, ra, rfl, ⟨_, SqL.of hra5⟩, fun D2 hD2 => ?_⟩
    have nr : ra ≠ D2 := fun z => by
      rw [z, hD2] at hra5
      cases hra5
    refine lc2_it (g := gName 4) (g1 := gName 6) (tt := tYes) (tt1 := tYes) (te := tVar 6) (wi1 := iTup K (tVar 4)) (vs := [4, 6]) (vs1 := [6]) (walk_list (xs := xs)) (fun j Ha => ∃ zs, Kp T0 H5 Ha ∧ Ha D2 = some (.lst zs) ∧ zs.length ≤ j * 64 ∧ zs = ((c.2.take j).flatten).map V.str)
      ⟨[], (Kp.refl H5).over hD2, upd_same, Nat.zero_le _, rfl⟩ (fun j Ha _ p => ?_) (fun j x Ha Hb hj p y => ?_) (fun Ha p => ?_)
    · obtain ⟨zs, k6, _⟩ := p
      exact SqL.of (k6.at0 hra5)
    · obtain ⟨zs, k6, d6, l6, ez⟩ := p
      obtain ⟨rfl, sx⟩ := y
      obtain ⟨p, hp, ip⟩ := Ps.get hps sx
      have mp := List.mem_of_getElem? hp
      obtain ⟨pl, _⟩ := rok p mp
      obtain ⟨pa, rfl, hpa⟩ := ((ip.keep0 K5).keep0 k6)
      refine ⟨wipe2x _ 4 6 _, ?_⟩
      refine yes_ ?_
      refine ⟨_, rfl, pa, rfl, ⟨_, SqT.of hpa⟩, ?_⟩
      have j64 : j < 64 := by omega
      refine run2_it (walk_tup (xs := p.map V.str)) (fun n Hc => ∃ ws, Kp T0 H5 Hc ∧ Hc D2 = some (.lst ws) ∧ Hc pa = some (.tup (p.map V.str)) ∧ ws.length ≤ j * 64 + n ∧ ws = zs ++ (p.take n).map V.str)
        ⟨zs, k6, d6, hpa, by omega, by simp⟩ (fun n Hc _ p => ?_) (fun n y Hc Hd hn pp yy => ?_) (fun Hc pp => ?_)
      · obtain ⟨ws, _, _, s5, _⟩ := p
        exact SqT.of s5
      · obtain ⟨ws, k7, d7, s7, l7, ew⟩ := pp
        obtain ⟨rfl, sy⟩ := yy
        rw [List.length_map] at hn
        rw [List.getElem?_map] at sy
        cases ey : p[n]? with
        | none =>
          rw [ey] at sy
          cases sy
        | some y =>
          rw [ey] at sy
          cases Option.some.inj sy
          refine ⟨wipe2b _ 4 6 _ _, ?_⟩
          refine yes_ ?_
          refine ⟨_, rfl, ws, d7, by omega, ws ++ [.str y], k7.over hD2, upd_same, ?_, ?_, ?_⟩
          · have npa : pa ≠ D2 := fun z => by
              rw [z, d7] at s7
              cases s7
            rw [upd_ne npa]
            exact s7
          · rw [List.length_append]
            show ws.length + 1 ≤ _
            omega
          · rw [ew, List.take_add_one, ey, List.map_append, List.append_assoc]
            rfl
      · obtain ⟨ws, k7, d7, s7, l7, ew⟩ := pp
        rw [List.length_map] at l7 ew
        refine ⟨ws, k7, d7, by omega, ?_⟩
        rw [ew, List.take_length, List.take_add_one, hp, List.flatten_append, List.map_append, ez]
        simp
    obtain ⟨zs, k6, d6, l6, ez⟩ := p
    rw [lx, List.take_length] at ez
    rw [lx] at l6
    subst ez
    rw [List.length_map] at l6
    refine ⟨_, rfl, D2, c.2.flatten, rfl, SqL.of d6, by unfold scanBound; omega, fun n nl ni => ⟨_, rfl, _, c.2.flatten.length, rfl, .inl ⟨_, SqL.of d6, by rw [List.length_map]⟩, _, _, rfl, rfl, ?_⟩⟩
    have K6 := K5.trans k6
    have en : decide (((n : Nat) : Int) < ((c.2.flatten.length : Nat) : Int)) = !(decide c.2.flatten.Nodup) := by
      by_cases cc : n = c.2.flatten.length
      · rw [decide_eq_true (ni.mp cc), decide_eq_false (by omega)]
        rfl
      · rw [decide_eq_false (fun z => cc (ni.mpr z)), decide_eq_true (by omega)]
        rfl
    refine ⟨_, rfl, ?_⟩
    rw [en]
    by_cases cd : c.2.flatten.Nodup
    · rw [decide_eq_true cd]
      refine iteF ?_
      exact ⟨K6, nextB (by unfold rowsP; rw [hR2, decide_eq_true cd]; rfl), _, _, _, _, _, rfl⟩
    · rw [decide_eq_false cd]
      refine iteT ?_
      refine ⟨K6.at0 na, ?_⟩
      have z := q _ (back _ K6)
      rw [noB (by unfold rowsP; rw [decide_eq_false cd, Bool.and_false])] at z
      exact z
end
end Lw
/-! Gk46: a schema in the heap; dict comprehensions over a dict's items. -/
namespace Gk
open PySem PySem.Spec PyProof.Rows L2
/-- rows as they are kept -/
def KeptOf (cs ks : Cho) : Prop := Paired (fun (c k : Str × List Pth) => k.1 = c.1 ∧ k.2.Perm c.2 ∧ k.2.Pairwise (fun a b => ltP b a = false)) (cs.filter fun c => decide (0 < c.2.length)) ks
/-- the forms' dict -/
def IsFm (H : Hp) (v : V) (ms : Msgs) (ks : Cho) : Prop := ∃ fd ma ca mk ck, v = .ref fd ∧ H fd = some (.dK [(.inr "messages", .ref ma), (.inr "choices", .ref ca)]) ∧ H ma = some (.dK mk) ∧ Paired (Ent (IsF H)) mk ms ∧ H ca = some (.dK ck) ∧ Paired (Ent (IsRs H)) ck ks
def IsS (C : Addr) (H : Hp) (v : V) (ms : Msgs) (ks : Cho) : Prop := ∃ x dx f, v = .ref x ∧ H x = some (.ins C dx [("forms", f)]) ∧ IsFm H f ms ks
theorem IsFm.keep0 {H H2 : Hp} {v : V} {ms : Msgs} {ks : Cho} (h : IsFm H v ms ks) (k : Kp T0 H H2) : IsFm H2 v ms ks := by
  obtain ⟨fd, ma, ca, mk, ck, e, h1, h2, p2, h3, p3⟩ := h
  exact ⟨fd, ma, ca, mk, ck, e, k.at0 h1, k.at0 h2, ent_map p2 fun _ _ _ z => z.keep0 k, k.at0 h3, ent_map p3 fun _ _ _ z => z.keep0 k⟩
theorem IsS.keep0 {C : Addr} {H H2 : Hp} {v : V} {ms : Msgs} {ks : Cho} (h : IsS C H v ms ks) (k : Kp T0 H H2) : IsS C H2 v ms ks := by
  obtain ⟨x, dx, f, e, h1, h2⟩ := h
  exact ⟨x, dx, f, e, k.at0 h1, h2.keep0 k⟩
theorem lookup_none {α : Type} : ∀ {fs : List (Str × α)} {x : Str}, x ∉ fs.map (·.1) → fs.lookup x = none
  | [], _, _ => rfl
  | (y, g) :: fs, x, h => by
    rw [List.map_cons, List.mem_cons, not_or] at h
    have c : (x == y) = false := by simp [h.1]
    rw [List.lookup_cons, c]
    exact lookup_none h.2
theorem ent_snoc {α : Type} {R : V → α → Prop} : ∀ {kvs : List (L2.Key × V)} {fs : List (Str × α)} {kv : L2.Key × V} {f : Str × α}, Paired (Ent R) kvs fs → Ent R kv f → Paired (Ent R) (kvs ++ [kv]) (fs ++ [f])
  | _, _, _, _, .nil, h => .cons h .nil
  | _, _, _, _, .cons a r, h => .cons a (ent_snoc r h)
/-- a new name in a dict of names -/
theorem ent_put {α : Type} {R : V → α → Prop} {kvs : List (L2.Key × V)} {fs : List (Str × α)} {x : Str} {v : V} {y : α} (p : Paired (Ent R) kvs fs) (n : x ∉ fs.map (·.1)) (h : R v y) : Paired (Ent R) (putK kvs (.inr x) v) (fs ++ [(x, y)]) := by
  have e : valV kvs (.inr x) = none := by
    rcases ent_find x p with ⟨_, e⟩ | ⟨f, v, e, _⟩
    · exact e
    · rw [lookup_none n] at e
      cases e
  rw [putK_new _ e]
  exact ent_snoc p ⟨rfl, h⟩
theorem nodup_take {α : Type} : ∀ {l : List α} {i : Nat} {x : α}, l.Nodup → l[i]? = some x → x ∉ l.take i
  | [], i, x, _, h => by simp at h
  | y :: l, 0, x, _, _ => by simp
  | y :: l, i + 1, x, nd, h => by
    rw [List.getElem?_cons_succ] at h
    rw [List.nodup_cons] at nd
    rw [List.take_succ_cons, List.mem_cons, not_or]
    exact ⟨fun e => nd.1 (e ▸ List.mem_of_getElem? h), nodup_take nd.2 h⟩
/-- a dict's comprehension over another one's items -/
theorem dc_pr {K : PySem.W.Frag} {J : It} {n : Nat} {G : Hp → Prop} {xs ys : Nat → Option V} (w : Walk J n G (YPair xs ys)) {i0 i1 : Nat} {tt : TT} {tk tv : TE} {vs : List Nat} {st : L2.St} {H1 : Hp} {D : Addr} {Qd : Hp → Prop}
    (P : Nat → List (L2.Key × V) → Hp → Prop) (kP : ∀ i zs H H2, Kp T0 H H2 → P i zs H → P i zs H2) (hD : H1 D = none) (hn : n < sizeLine) (hws : ∀ x y, wipe (((wipe st vs).set i0 (some x)).set i1 (some y)) vs = wipe st vs) (hG : ∀ H, Kp T0 H1 H → G H) (p0 : P 0 [] (upd H1 D (.dK [])))
    (step : ∀ (i : Nat) (x y : V) (zs : List (L2.Key × V)) (H : Hp) (Ky : V → V → Hp → Prop) (Kn : Hp → Prop), i < n → xs i = some x → ys i = some y → Kp T0 H1 H → H D = some (.dK zs) → P i zs H →
      (∀ k z H4, Kp T0 H H4 → (putK zs k z).length ≤ i + 1 → P (i + 1) (putK zs k z) (upd H4 D (.dK (putK zs k z))) → Ky (kV k) z H4) → (∀ H3, Kp T0 H H3 → P (i + 1) zs H3 → Kn H3) →
      tt (((wipe st vs).set i0 (some x)).set i1 (some y)) H fun b H3 => if b = true then tk (((wipe st vs).set i0 (some x)).set i1 (some y)) H3 fun k H4 => tv (((wipe st vs).set i0 (some x)).set i1 (some y)) H4 fun z H5 => Ky k z H5 else Kn H3)
    (fin : ∀ zs H, Kp T0 H1 H → H D = some (.dK zs) → zs.length ≤ n → P n zs H → Qd H) :
    ∃ W : Nat → Nat → Hp → Prop, (∃ m, W 0 m (upd H1 D (.dK []))) ∧ ∀ i m H, W i m H →
      (J.stop i H ∧ Qd H) ∨ (J.go i H ∧ ∃ Nx : Hp → Prop, (∀ H2, Nx H2 → ∃ m2, m2 < m ∧ W (i + 1) m2 H2) ∧ ∀ x H2, J.yld i H x H2 → g2 K i0 i1 x (wipe st vs) H2 fun s2 H2 => wipe s2 vs = wipe st vs ∧ tt s2 H2 fun b H3 =>
        if b = true then tk s2 H3 fun y H4 => tv s2 H4 fun z H5 => ∃ kvs k, y = kV k ∧ H5 D = some (.dK kvs) ∧ kvs.length < sizeLine ∧ Nx (upd H5 D (.dK (putK kvs k z))) else Nx H3) := by
  refine ⟨fun i m H => m = n - i ∧ i ≤ n ∧ ∃ zs, Kp T0 H1 H ∧ H D = some (.dK zs) ∧ zs.length ≤ i ∧ P i zs H, ⟨n, rfl, Nat.zero_le _, [], (Kp.refl H1).over hD, upd_same, Nat.le_refl _, p0⟩, ?_⟩
  rintro i m H ⟨rfl, hi, zs, k, d, l, p⟩
  have q := hG H k
  by_cases lt : i < n
  · refine .inr ⟨w.goes i H lt q, fun Hn => i + 1 ≤ n ∧ ∃ zs, Kp T0 H1 Hn ∧ Hn D = some (.dK zs) ∧ zs.length ≤ i + 1 ∧ P (i + 1) zs Hn, fun H2 p2 => ⟨n - (i + 1), by omega, rfl, p2⟩, fun x H2 yl => ?_⟩
    obtain ⟨Tt, x, y, rfl, hTt, rfl, ex, ey⟩ := w.yields i H x H2 lt q yl
    have g : Kp T0 H (upd H Tt (.tup [x, y])) := (Kp.refl H).new hTt
    refine ⟨Tt, [x, y], rfl, SqT.of upd_same, rfl, x, [y], rfl, y, [], rfl, rfl, hws x y, ?_⟩
    refine step i x y zs _ _ _ lt ex ey (k.trans g) (g.at0 d) (kP i zs _ _ g p) (fun ky z H4 k4 ln p4 => ?_) (fun H3 k3 p3 => ?_)
    · exact ⟨zs, ky, rfl, k4.at0 (g.at0 d), by omega, lt, putK zs ky z, ((k.trans g).trans k4).over hD, upd_same, ln, p4⟩
    · exact ⟨lt, zs, (k.trans g).trans k3, k3.at0 (g.at0 d), by omega, p3⟩
  · have e : i = n := by omega
    subst e
    exact .inl ⟨w.stops H q, fin zs H k d l p⟩
/-! ### a heap changed where neither a dict nor a tuple nor a list stands -/
theorem IsP.un {H : Hp} {v : V} {p : Pth} {d : Addr} {o o2 : HO} (h : IsP H v p) (e : H d = some o) (n : ∀ xs, o ≠ .tup xs) : IsP (upd H d o2) v p := by
  obtain ⟨a, rfl, t⟩ := h
  refine ⟨a, rfl, ?_⟩
  rw [upd_ne (fun z => by rw [z, e] at t; exact n _ (Option.some.inj t))]
  exact t
theorem IsF.un {H : Hp} {v : V} {fs : Flds} {d : Addr} {o o2 : HO} (h : IsF H v fs) (e : H d = some o) (n : ∀ xs, o ≠ .tup xs) (n2 : ∀ kvs, o ≠ .dK kvs) : IsF (upd H d o2) v fs := by
  obtain ⟨a, kvs, rfl, t, p⟩ := h
  refine ⟨a, kvs, rfl, ?_, ent_map p fun _ _ _ z => z.un e n⟩
  rw [upd_ne (fun z => by rw [z, e] at t; exact n2 _ (Option.some.inj t))]
  exact t
theorem Ps.un {H : Hp} {d : Addr} {o o2 : HO} (e : H d = some o) (n : ∀ xs, o ≠ .tup xs) : ∀ {xs : List V} {ps : List Pth}, Ps H xs ps → Ps (upd H d o2) xs ps
  | _, _, .nil => .nil
  | _, _, .cons r t => .cons (r.un e n) (Ps.un e n t)
theorem IsRs.un {H : Hp} {v : V} {rows : List Pth} {d : Addr} {o o2 : HO} (h : IsRs H v rows) (e : H d = some o) (n : ∀ xs, o ≠ .tup xs) (n2 : ∀ xs, o ≠ .lst xs) : IsRs (upd H d o2) v rows := by
  obtain ⟨a, xs, rfl, t, p⟩ := h
  refine ⟨a, xs, rfl, ?_, p.un e n⟩
  rw [upd_ne (fun z => by rw [z, e] at t; exact n2 _ (Option.some.inj t))]
  exact t
theorem ps_of_bs {H : Hp} : ∀ {bs : List (Addr × Pth)}, (∀ b ∈ bs, H b.1 = some (.tup (b.2.map V.str))) → Ps H (bs.map fun b => V.ref b.1) (bs.map (·.2))
  | [], _ => .nil
  | b :: bs, h => .cons ⟨b.1, rfl, h b List.mem_cons_self⟩ (ps_of_bs fun c m => h c (List.mem_cons_of_mem _ m))
/-! ### what is kept -/
theorem paired_names {R : Str × List Pth → Str × List Pth → Prop} (hR : ∀ c k, R c k → k.1 = c.1) : ∀ {cs ks : Cho}, Paired R cs ks → ks.map (·.1) = cs.map (·.1)
  | _, _, .nil => rfl
  | _, _, .cons a r => by rw [List.map_cons, List.map_cons, hR _ _ a, paired_names hR r]
theorem kept_names {cs ks : Cho} (h : KeptOf cs ks) {x : Str} (m : x ∈ ks.map (·.1)) : x ∈ cs.map (·.1) := by
  rw [paired_names (fun c k z => z.1) h] at m
  obtain ⟨c, mc, e⟩ := List.mem_map.mp m
  exact List.mem_map.mpr ⟨c, (List.mem_filter.mp mc).1, e⟩
theorem paired_snoc {α β : Type} {R : α → β → Prop} : ∀ {xs : List α} {ys : List β} {x : α} {y : β}, Paired R xs ys → R x y → Paired R (xs ++ [x]) (ys ++ [y])
  | _, _, _, _, .nil, h => .cons h .nil
  | _, _, _, _, .cons a r, h => .cons a (paired_snoc r h)
theorem kept_snoc {cs ks : Cho} {c : Str × List Pth} {rows : List Pth} (h : KeptOf cs ks) (n : 0 < c.2.length) (p : rows.Perm c.2) (s : rows.Pairwise fun a b => ltP b a = false) : KeptOf (cs ++ [c]) (ks ++ [(c.1, rows)]) := by
  unfold KeptOf at h ⊢
  rw [List.filter_append]
  have e : [c].filter (fun c => decide (0 < c.2.length)) = [c] := by simp [List.filter, n]
  rw [e]
  exact paired_snoc h ⟨rfl, p, s⟩
theorem kept_skip {cs ks : Cho} {c : Str × List Pth} (h : KeptOf cs ks) (n : ¬ 0 < c.2.length) : KeptOf (cs ++ [c]) ks := by
  unfold KeptOf at h ⊢
  rw [List.filter_append]
  have e : [c].filter (fun c => decide (0 < c.2.length)) = [] := by simp [List.filter, n]
  rw [e, List.append_nil]
  exact h
/-! ### promises -/
def spSInit (C : Addr) : Sp := fun vs H Q _ => ∃ (x dx a : Addr) (mk : List (L2.Key × V)) (c : V) (ms : Msgs) (cs : Cho), vs = [.ref x, .ref a, c] ∧ H x = some (.ins C dx []) ∧ H a = some (.dK mk) ∧ Paired (Ent (IsF H)) mk ms ∧
  ((c = .non ∧ cs = []) ∨ ∃ b ck, c = .ref b ∧ H b = some (.dK ck) ∧ Paired (Ent (IsRs H)) ck cs) ∧ MsgOk ms ∧ ChoOk cs ∧ areMsgsP ms = true ∧ chosP ms cs = true ∧
  ∀ H2 ks, Kp (fun b => b = x) H H2 → IsS C H2 (.ref x) ms ks → KeptOf cs ks → Q .non H2
end Gk
/-! Gk47: name = {k: v for ..} on one line, the name a local. -/
namespace Gk
open PySem PySem.Spec PyProof.Rows L2
section
variable {X : Cx}
theorem ps_setDc {i : Nat} {y : Str} {py : Pos} {kx vx tg iter : Expr} {ifs : List Expr} {scope : Scope} {own : List (Str × Nat)} {pos spos : Pos} {wi : TI} {g : TG} {tt : TT} {tk tv : TE} (calm : X.calm = true) (nd : X.N.Nodup) (hy : X.N[i]? = some y) (hyl : X.env.scope.names.lookup y = some .local)
    (sw : swapsWith (.DictComp kx vx [⟨tg, iter, ifs, 0⟩] scope pos) (some (.Name y py)) spos.line X.env = pure true) (hi : PI X tg iter wi) (ok : BlkOk X.N X.env.scope scope own)
    (hg : ∀ (s : Shared) (H : Hp) (C : Addr) (cl : List (Str × Addr)) (fp : List Addr), PG (X.blk s H scope (compEnvC scope cl C X.env) fp) tg g)
    (ht : ∀ (s : Shared) (H : Hp) (C : Addr) (cl : List (Str × Addr)) (fp : List Addr), PTs (X.blk s H scope (compEnvC scope cl C X.env) fp) ifs tt)
    (hk : ∀ (s : Shared) (H : Hp) (C : Addr) (cl : List (Str × Addr)) (fp : List Addr), PE (X.blk s H scope (compEnvC scope cl C X.env) fp) kx tk)
    (hv : ∀ (s : Shared) (H : Hp) (C : Addr) (cl : List (Str × Addr)) (fp : List Addr), PE (X.blk s H scope (compEnvC scope cl C X.env) fp) vx tv)
    (fs : ∀ x, foldedSetIterable iter X.env x = pure x := by intro _; rfl) :
    PS X (.Assign [.Name y py] (.DictComp kx vx [⟨tg, iter, ifs, 0⟩] scope pos) spos) (tAsg (tDc wi g tt tk tv (own.map (·.2))) (gName i)) := by
  refine ⟨fun pins s st H D I h => ?_⟩
  rw [exec_Assign_Name_used _ _ _ _ sw]
  refine wpAny_bind (wpAny_standAt (wpAny_bind ?_))
  show wpAny _ X.A (do let _ ← comprehension (.DictComp kx vx [⟨tg, iter, ifs, 0⟩] scope pos) scope X.env (firstIterPos [⟨tg, iter, ifs, 0⟩] pos) newDict false (eval iter X.env) (some (assign (.Name y py) X.env))) _ _ s
  have h : tDc wi g tt tk tv (own.map (·.2)) st H (fun x H1 => gName i x st H1 D.nx) := h
  refine wpAny_bind (thn (dc_core (Qf := fun _ s2 => SP X pins D .next s2) calm nd I hi ok hg ht hk hv fs h fun L C s2 m H2 I2 q hn f => ?_) fun _ s2 hq => wpAny_pure (wpAny_pure hq))
  show wpAny _ _ (assign (.Name y py) X.env (.ref L)) _ _ _
  refine wpAny_assign_Name (store_ok2 (v := V.ref L) I2 nd hy (.inl hyl) rfl (fun s3 I3 ⟨a, sb, ha⟩ => ?_) (.inr hyl))
  obtain ⟨f0, f1, f2, f3, f4, f5⟩ := f
  have aC : C ≠ a := by
    rcases ha with z | z
    · rw [z]; exact f1
    · exact fun e => f4 y a z e.symm
  refine ⟨m, hn.sameBut sb aC, fun h4 sb4 => ?_⟩
  exact ⟨_, H2, I3.turned (t' := s3.toks) (fun b o hb e => (sb4.2 b hb).trans e) f0 f1 f3 f4 f5, q⟩
theorem sw_trueD {kx vx : Expr} {gs : List Comprehension} {scope : Scope} {pos py : Pos} {y : Str} {l : Nat} {env : Env} (hk : env.scope.kind = .function) (hy : env.scope.names.lookup y = some .local) (hl : (py.line == pos.line) = true)
    (ha : (scope.names.any fun (n, k) => n == y && (k == .local || k == .cell)) = false) : swapsWith (.DictComp kx vx gs scope pos) (some (.Name y py)) l env = pure true := by
  have ky : env.kindOf y = some .local := hy
  have hb : env.blockKind = .function := by unfold Env.blockKind; rw [hk]; rfl
  unfold swapsWith
  simp only [hb, ky, ha, Expr.pos, hl]
  rfl
end
end Gk
namespace Lw
open PySem L2 Gk
abbrev sSInit : Stmt := inClass (topS 34) 0
structure TxtS (K : PySem.W.Frag) (mg : Str → Option Value) (C : Addr) : Prop where
  z_dict : mg "dict" = none
  z_len : mg "len" = none
  z_sorted : mg "sorted" = none
  cl : Cls K C
  nF : NoAttr K C "forms"
section
variable {P : Program} {w : World} {K : PySem.W.Frag} {mg : Str → Option Value} {base : Heap} {C : Addr}
theorem boot_dict7 : bootBuiltins "dict" = some (.type "dict") := by decide +kernel
abbrev N7 : List Str := ["self", "messages", "choices", "some", "told", "kept", "name", "fields", "rows"]
theorem scSInit : FnScope N7 ["self", "messages", "choices"] (defScope sSInit) := ⟨rfl, rfl, rfl, by decide +kernel, rfl, by decide +kernel, by decide +kernel⟩
theorem rows_ne {ms : Msgs} {cs : Cho} (h : chosP ms cs = true) : ∀ c ∈ cs, ∀ p ∈ c.2, p ≠ [] := fun c mc p mp e => by
  unfold chosP at h
  rw [Bool.and_eq_true] at h
  have z := List.all_eq_true.mp h.2 c mc
  unfold rowsP at z
  rw [Bool.and_eq_true] at z
  have z2 := List.all_eq_true.mp z.1 p mp
  rw [e] at z2
  cases z2
/-- {} if c is None else c -/
theorem some_of {st : L2.St} {H : Hp} {Q : VK} {c : V} {cs : Cho} (hc : (c = .non ∧ cs = []) ∨ ∃ b ck, c = .ref b ∧ H b = some (.dK ck) ∧ Paired (Ent (IsRs H)) ck cs) (h2 : st[2]? = some (some c))
    (h : ∀ b ck H1, Kp T0 H H1 → H1 b = some (.dK ck) → Paired (Ent (IsRs H1)) ck cs → Q (.ref b) H1) : tIf (tTest (tOp (fun x y H Q => y = .non ∧ Q (.bl (decide (x = .non))) H) (tVar 2) (tC .non))) tDNewK (tVar 2) st H Q := by
  rcases hc with ⟨rfl, rfl⟩ | ⟨b, ck, rfl, hb, p⟩
  · refine ⟨_, h2, rfl, _, rfl, ?_⟩
    rw [decide_eq_true rfl]
    exact iteT fun p hp => h p [] _ ((Kp.refl H).new hp) upd_same .nil
  · refine ⟨_, h2, rfl, _, rfl, ?_⟩
    rw [decide_eq_false (fun z => nomatch z)]
    exact iteF ⟨_, h2, h b ck H (Kp.refl H) hb p⟩
/-- what forms is -/
abbrev frmD (D D2 : Addr) : List (L2.Key × V) := [(.inr "messages", .ref D), (.inr "choices", .ref D2)]
theorem ok_sinit {f fM fC : Addr} {fd : FuncData} {dvs : List V} (F : FunD K "__init__" "Schema.__init__" (defArgs sSInit) (defBody sSInit) (defScope sSInit) dvs [] f fd) (T : TxtS K mg C)
    (DM : Df P w K mg base 9 fM "are_messages" ["value"] spAreMsgs) (DC : Df P w K mg base 4 fC "are_choices" ["messages", "value"] spChoices) : FnOk P w K mg base CX0 10 f fd ["self", "messages", "choices"] (spSInit C) := by
  refine F.ok scSInit (fun vs H Q E h => ?_) (fun cdv A outer s H vs Q E hr h => ?_)
  · obtain ⟨_, _, _, _, _, _, _, rfl, _⟩ := h
    rfl
  · obtain ⟨x, dx, a, mk, c, ms, cs, rfl, hx, ha, pm, hc, mok, cok, am, ch, q⟩ := h
    have hz : (16777216 : Nat) = PySem.sizeLine := PySem.sizeLine_eq.symm
    have r4 : Room 4 _ := hr.mono (by decide)
    refine ⟨_, PSs.nox (pss_cons (ps_set (i := 3) scSInit.nd rfl (Or.inl rfl) (pe_ifExp (pt_cmpR op_isN (pv 2) pe_non (nomark _)) pe_dnewK (pv 2)))
      (pss_cons (ps_if (PW.pt (pw_or (pt_not (pt_val (pe_df DM hr (by rfl) (pa_cons (pv 1) pa_nil)))) (pw_or1 (pt_not (pt_val (pe_df DC r4 (by rfl) (pa_cons (pv 1) (pa_cons (pv 3) pa_nil)))))))) (pss_one ps_never) pss_nil)
      (pss_cons (ps_lock (ps_setDc (i := 4) (own := [("name", 6), ("fields", 7)]) (g := g2 K 6 7) (tt := tYes) rfl scSInit.nd rfl rfl (sw_trueD rfl rfl rfl (by decide +kernel)) (pi_items (pv 1))
          (blkOk_by (N := N7) (sc := defScope sSInit) (by decide +kernel)) (fun _ _ _ _ _ => pg_tup rfl (pgs_cons (pg_name (i := 6) scSInit.nd rfl (Or.inl rfl)) (pgs_cons (pg_name (i := 7) scSInit.nd rfl (Or.inl rfl)) pgs_nil))) (fun _ _ _ _ _ => pts_nil)
          (fun _ _ _ _ _ => pv 6) (fun _ _ _ _ _ => pe_callTy call_dictD (by rfl) T.z_dict boot_dict7 (pa_cons (pv 7) pa_nil))))
      (pss_cons (ps_lock (ps_setDc (i := 5) (own := [("name", 6), ("rows", 8)]) (g := g2 K 6 8) rfl scSInit.nd rfl rfl (sw_trueD rfl rfl rfl (by decide +kernel)) (pi_items (pv 3))
          (blkOk_by (N := N7) (sc := defScope sSInit) (by decide +kernel)) (fun _ _ _ _ _ => pg_tup rfl (pgs_cons (pg_name (i := 6) scSInit.nd rfl (Or.inl rfl)) (pgs_cons (pg_name (i := 8) scSInit.nd rfl (Or.inl rfl)) pgs_nil)))
          (fun _ _ _ _ _ => pts_one (pt_cmpR op_gt (pe_callB (r := L2.rLen K) call_len (by rfl) T.z_len PySem.boot_len (pa_cons (pv 8) pa_nil)) pe_int (nomark _)))
          (fun _ _ _ _ _ => pv 6) (fun _ _ _ _ _ => pe_callB (r := rSortLT K) cr_sortedLT (by rfl) T.z_sorted (by decide +kernel) (pa_cons (pv 8) pa_nil))))
      (pss_one (ps_fld (pv 0) (pe_disp (pps_cons pe_str (pv 4) (pps_cons pe_str (pv 5) pps_nil)) (by rfl) (by rfl) (fun z => by cases z) (by decide)) rfl)))))), ?_⟩
    have frX : ∀ {H2 : Hp} {t : Addr}, Kp T0 H H2 → H2 t = none → t ≠ x := fun k z e => by
      have w := k.at0 hx
      rw [← e, z] at w
      cases w
    refine some_of (cs := cs) hc rfl fun b ck H1 k1 hb pc => ?_
    have ha1 := k1.at0 ha
    have pm1 : Paired (Ent (IsF H1)) mk ms := ent_map pm fun _ _ _ z => z.keep0 k1
    refine ⟨_, rfl, .ref a, ms, rfl, ⟨a, mk, rfl, .inl ha1, pm1⟩, ⟨a, mk, rfl, ha1⟩, mok, fun H2 k2 => ⟨_, rfl, ?_⟩⟩
    rw [am]
    refine iteF ?_
    have k02 := k1.trans k2
    have ha2 := k02.at0 ha
    have pm2 : Paired (Ent (IsF H2)) mk ms := ent_map pm fun _ _ _ z => z.keep0 k02
    refine ⟨_, rfl, _, rfl, .ref a, ms, b, ck, cs, rfl, ⟨a, mk, rfl, .inl ha2, pm2⟩, k2.at0 hb, ent_map pc (fun _ _ _ z => z.keep0 k2), mok, cok, fun H3 k3 => ⟨_, rfl, ?_⟩⟩
    rw [ch]
    refine iteF ?_
    have k03 := k02.trans k3
    have ha3 := k03.at0 ha
    have pm3 : Paired (Ent (IsF H3)) mk ms := ent_map pm fun _ _ _ z => z.keep0 k03
    have hb3 := (k2.trans k3).at0 hb
    have pc3 : Paired (Ent (IsRs H3)) ck cs := ent_map pc fun _ _ _ z => z.keep0 (k2.trans k3)
    clear pm1 ha1 pm2 ha2
    -- told
    refine ⟨a, .dK mk, ha3, trivial, fun od => ⟨_, rfl, a, od, mk, rfl, upd_same, fun D hD => ?_⟩⟩
    have pm4 := ents_frz (o := .frz od (.dK mk)) ha3 pm3
    have na : (upd H3 a (.frz od (.dK mk))) a = some (.frz od (.dK mk)) := upd_same
    have nD : D ≠ a := fun z => by
      rw [z, upd_same] at hD
      cases hD
    have back : ∀ H4, Kp T0 (upd H3 a (.frz od (.dK mk))) H4 → Kp T0 H (upd H4 a (.dK mk)) := fun H4 k => k03.trans (kp_unlock ha3 k)
    have back3 : ∀ H4, Kp T0 (upd H3 a (.frz od (.dK mk))) H4 → Kp T0 H3 (upd H4 a (.dK mk)) := fun H4 k => kp_unlock ha3 k
    generalize upd H3 a (.frz od (.dK mk)) = G3 at hD pm4 na back back3 ⊢
    have lm : mk.length = ms.length := Paired.length pm
    refine dc_pr (K := K) (walk_items (d := a) (o := od) (kvs := mk)) (i0 := 6) (i1 := 7) (vs := [6, 7]) (fun i zs Ha => Paired (Ent fun v f => IsF Ha v f ∧ v ≠ .ref D) zs (ms.take i)) (fun i zs H4 H5 k p => ent_map p fun _ _ _ z => ⟨z.1.keep0 k, z.2⟩) hD (by have := mok.1; omega) (fun x y => wipe2 _ 6 7 _ _) (fun H4 k4 => k4.at0 na) .nil
      (fun i x1 y1 zs H4 Ky Kn hi ex ey k4 d4 p ky kn => ?_) (fun zs H4 k4 d4 lz p => ?_)
    · have hk : mk[i]? = some mk[i] := List.getElem?_eq_getElem hi
      rw [hk] at ex ey
      obtain ⟨m, hm, e1, isf⟩ := ent_at pm4 hk
      have mm := List.mem_of_getElem? hm
      have e1 : mk[i].1 = .inr m.1 := e1
      cases Option.some.inj ey
      have ex2 : x1 = .str m.1 := by
        have z : kV mk[i].1 = x1 := Option.some.inj ex
        rw [e1] at z
        exact z.symm
      subst ex2
      refine yes_ ?_
      obtain ⟨fa, fk, ef, hfa, pf⟩ := isf.keep0 k4
      rw [ef]
      refine ⟨_, rfl, _, rfl, fa, fk, rfl, .inl hfa, fun t ht => ?_⟩
      have g5 : Kp T0 H4 (upd H4 t (.dK fk)) := (Kp.refl H4).new ht
      have d5 := g5.at0 d4
      have nt : t ≠ D := fun z => by
        rw [z, d4] at ht
        cases ht
      have nn : m.1 ∉ (ms.take i).map (·.1) := by
        rw [List.map_take]
        exact nodup_take mok.2.1 (by rw [List.getElem?_map, hm]; rfl)
      refine ky (.inr m.1) _ _ g5 ?_ ?_
      · have := length_putK zs (Sum.inr m.1) (V.ref t)
        have l2 : zs.length = (ms.take i).length := Paired.length p
        rw [List.length_take] at l2
        omega
      · rw [List.take_add_one, hm]
        refine ent_put (x := m.1) (y := m.2) (ent_map p fun kv mkv f z => ⟨(z.1.keep0 g5).frz d5 z.2, z.2⟩) nn ⟨⟨t, fk, rfl, ?_, ?_⟩, fun z => nt (by injection z)⟩
        · rw [upd_ne nt, upd_same]
        · exact ent_map pf fun _ _ _ z => (z.keep0 g5).frz d5
    rw [lm, List.take_length] at p
    refine ⟨k4.at0 na, ?_⟩
    have K4 := back _ k4
    have K34 := back3 _ k4
    have na4 := k4.at0 na
    have told : Paired (Ent (IsF (upd H4 a (.dK mk)))) zs ms := ent_map p fun kv mkv f z => z.1.un na4 (fun _ e => nomatch e) (fun _ e => nomatch e)
    have dT : (upd H4 a (.dK mk)) D = some (.dK zs) := by rw [upd_ne nD]; exact d4
    have hb4 := K34.at0 hb3
    have pc4 : Paired (Ent (IsRs (upd H4 a (.dK mk)))) ck cs := ent_map pc3 fun _ _ _ z => z.keep0 K34
    clear p na4 d4 lz k4 nD na back back3 pm4 hD pc3 hb3 K34 pm3 ha3 pc hb
    generalize upd H4 a (.dK mk) = H5 at K4 told dT hb4 pc4 ⊢
    -- kept
    refine ⟨b, .dK ck, hb4, trivial, fun od => ⟨_, rfl, b, od, ck, rfl, upd_same, fun D2 hD2 => ?_⟩⟩
    have pc5 := rows_frz (o := .frz od (.dK ck)) hb4 pc4
    have nb : (upd H5 b (.frz od (.dK ck))) b = some (.frz od (.dK ck)) := upd_same
    have nD2 : D2 ≠ b := fun z => by
      rw [z, upd_same] at hD2
      cases hD2
    have back : ∀ H6, Kp T0 (upd H5 b (.frz od (.dK ck))) H6 → Kp T0 H5 (upd H6 b (.dK ck)) := fun H6 k => kp_unlock hb4 k
    generalize upd H5 b (.frz od (.dK ck)) = G5 at hD2 pc5 nb back ⊢
    have lc : ck.length = cs.length := Paired.length pc4
    refine dc_pr (K := K) (walk_items (d := b) (o := od) (kvs := ck)) (i0 := 6) (i1 := 8) (vs := [6, 8]) (fun i zs Ha => ∃ ks, Paired (Ent (IsRs Ha)) zs ks ∧ KeptOf (cs.take i) ks) (fun i zs H4 H5 k p => ?_) hD2 (by have := cok.1; omega) (fun x y => wipe2 _ 6 8 _ _) (fun H6 k6 => k6.at0 nb) ⟨[], .nil, .nil⟩
      (fun i x1 y1 zs2 H6 Ky Kn hi ex ey k6 d6 p ky kn => ?_) (fun zs2 H6 k6 d6 lz p => ?_)
    · obtain ⟨ks, p1, p2⟩ := p
      exact ⟨ks, ent_map p1 fun _ _ _ z => z.keep0 k, p2⟩
    · have hk : ck[i]? = some ck[i] := List.getElem?_eq_getElem hi
      rw [hk] at ex ey
      obtain ⟨m, hm, e1, isr⟩ := ent_at pc5 hk
      have mm := List.mem_of_getElem? hm
      have e1 : ck[i].1 = .inr m.1 := e1
      cases Option.some.inj ey
      have ex2 : x1 = .str m.1 := by
        have z : kV ck[i].1 = x1 := Option.some.inj ex
        rw [e1] at z
        exact z.symm
      subst ex2
      obtain ⟨ks, p1, p2⟩ := p
      obtain ⟨ra, xs, er, hra, pr⟩ := isr.keep0 k6
      rw [er]
      have lx : xs.length = m.2.length := Paired.length pr
      refine ⟨_, rfl, _, m.2.length, rfl, .inl ⟨_, SqL.of hra, lx.symm⟩, _, _, rfl, rfl, _, rfl, ?_⟩
      by_cases cl : 0 < m.2.length
      rotate_left
      · rw [decide_eq_false (by omega)]
        refine iteF (kn _ (Kp.refl _) ⟨ks, p1, ?_⟩)
        rw [List.take_add_one, hm]
        exact kept_skip p2 cl
      rw [decide_eq_true (by omega)]
      refine iteT ⟨_, rfl, _, rfl, ra, xs, m.2, rfl, SqL.of hra, pr, rows_ne ch m mm, fun bs t q1 q2 q3 ht => ?_⟩
      have g7 : Kp T0 H6 (upd H6 t (.lst (bs.map fun b => V.ref b.1))) := (Kp.refl H6).new ht
      have nt : t ≠ D2 := fun z => by
        rw [z, d6] at ht
        cases ht
      refine ky (.inr m.1) _ _ g7 ?_ ?_
      · have l1 := length_putK zs2 (Sum.inr m.1) (V.ref t)
        have l2 : zs2.length = ks.length := Paired.length p1
        have l3 : ks.length ≤ (cs.take i).length := by
          have z : (((cs.take i).filter fun c => decide (0 < c.2.length))).length = ks.length := Paired.length p2
          rw [← z]
          exact List.length_filter_le _ _
        rw [List.length_take] at l3
        omega
      · have d7 := g7.at0 d6
        refine ⟨ks ++ [(m.1, bs.map (·.2))], ent_put (x := m.1) (y := bs.map (·.2)) (ent_map p1 fun kv mkv f z => (z.keep0 g7).frz d7) (fun z => ?_) ⟨t, bs.map fun b => V.ref b.1, rfl, ?_, ?_⟩, ?_⟩
        · have z2 := kept_names p2 z
          rw [List.map_take] at z2
          exact nodup_take cok.2.1 (by rw [List.getElem?_map, hm]; rfl) z2
        · rw [upd_ne nt, upd_same]
        · exact ((ps_of_bs q3).keep0 g7).frz d7
        · rw [List.take_add_one, hm]
          exact kept_snoc p2 cl q1 (List.pairwise_map.mpr q2)
    obtain ⟨ks, p1, p2⟩ := p
    rw [lc, List.take_length] at p2
    refine ⟨k6.at0 nb, ?_⟩
    have K56 := back _ k6
    have K6 := K4.trans K56
    have nb6 := k6.at0 nb
    have kept : Paired (Ent (IsRs (upd H6 b (.dK ck)))) zs2 ks := ent_map p1 fun kv mkv f z => z.un nb6 (fun _ e => nomatch e) (fun _ e => nomatch e)
    have dT2 : (upd H6 b (.dK ck)) D2 = some (.dK zs2) := by rw [upd_ne nD2]; exact d6
    have dT6 := K56.at0 dT
    have told6 : Paired (Ent (IsF (upd H6 b (.dK ck)))) zs ms := ent_map told fun _ _ _ z => z.keep0 K56
    clear p1 nb6 d6 lz k6 nD2 nb back pc5 hD2 told dT K56
    generalize upd H6 b (.dK ck) = H7 at K6 kept dT2 dT6 told6 ⊢
    have hx7 := K6.at0 hx
    refine fun fd hfd => ⟨_, rfl, _, rfl, upd_same, (frmD D D2), rfl, (by show 2 ≤ 15; decide), ?_⟩
    rw [upd_upd]
    have em : mergeK [] (frmD D D2) = (frmD D D2) := by
      show putK (putK [] (Sum.inr "messages" : L2.Key) (V.ref D)) (Sum.inr "choices" : L2.Key) (V.ref D2) = _
      have e1 : putK [] (Sum.inr "messages" : L2.Key) (V.ref D) = [((Sum.inr "messages" : L2.Key), V.ref D)] := rfl
      rw [e1, putK_new _ (by rfl)]
      rfl
    rw [em]
    have g8 : Kp T0 H7 (upd H7 fd (.dK (frmD D D2))) := (Kp.refl H7).new hfd
    have K8 := K6.trans g8
    have nfx := frX K6 hfd
    refine ⟨_, rfl, x, C, dx, [], rfl, K8.at0 hx, T.cl, T.nF, (by show 0 < 1000; decide), ?_⟩
    rw [putF_nil]
    have hx8 := K8.at0 hx
    have hfd8 : (upd H7 fd (.dK (frmD D D2))) fd = some (.dK (frmD D D2)) := upd_same
    have dM := g8.at0 dT6
    have dC := g8.at0 dT2
    have pM : Paired (Ent (IsF (upd H7 fd (.dK (frmD D D2))))) zs ms := ent_map told6 fun _ _ _ z => z.keep0 g8
    have pC : Paired (Ent (IsRs (upd H7 fd (.dK (frmD D D2))))) zs2 ks := ent_map kept fun _ _ _ z => z.keep0 g8
    generalize upd H7 fd (.dK (frmD D D2)) = H8 at K8 hx8 hfd8 dM dC pM pC ⊢
    have other : ∀ {y : Addr} {kv : List (L2.Key × V)}, H8 y = some (.dK kv) → y ≠ x := fun h e => by
      rw [e, hx8] at h
      cases h
    refine q _ ks (K8.wide.put rfl) ⟨x, dx, .ref fd, rfl, upd_same, fd, D, D2, zs, zs2, rfl, ?_, ?_, ?_, ?_, ?_⟩ p2
    · rw [upd_ne (other hfd8)]
      exact hfd8
    · rw [upd_ne (other dM)]
      exact dM
    · exact ent_map pM fun _ _ _ z => z.un hx8 (fun _ e => nomatch e) (fun _ e => nomatch e)
    · rw [upd_ne (other dC)]
      exact dC
    · exact ent_map pC fun _ _ _ z => z.un hx8 (fun _ e => nomatch e) (fun _ e => nomatch e)
end
end Lw
/-! Gk48: x == () for any x; paths and values that are none; what stands at a path. -/
namespace Gk
open PySem PySem.Spec PyProof.Rows L2 PySem.SeqAt
/-! ### a dict and a tuple are never the same -/
theorem dict_declines_tuple (d t : Addr) (od : PySem.Obj) (its : Array Value) (n : Nat) (dd : Option Addr) (sl : Array (Option Value)) (hod : od.cls = .type "dict") :
    Meets (Builtin.«dict.__eq__» ⟨[.ref d, .ref t], []⟩) (fun _ R s => s.heap.get? d = some od ∧ s.heap.get? t = some { cls := .type "tuple", dict := dd, data := .seq its n, slots := sl } ∧ R (.ok (.ret .notImplemented)) s) :=
  .of_wp fun prog w A R s h => by
    obtain ⟨hp, g, dr, tk, os⟩ := s
    obtain ⟨hl, hb, h⟩ := h
    have f1 := F.sub_tuple_dict
    wp_walk using AutoSeq1.wpAny_loadPart' hl, AutoSeq1.wpAny_loadPart' hb
    exact ⟨_, rfl, h⟩
theorem tuple_declines_dict (d t : Addr) (od : PySem.Obj) (its : Array Value) (n : Nat) (dd : Option Addr) (sl : Array (Option Value)) (hod : od.cls = .type "dict") :
    Meets (Builtin.«tuple.__eq__» ⟨[.ref t, .ref d], []⟩) (fun _ R s => s.heap.get? d = some od ∧ s.heap.get? t = some { cls := .type "tuple", dict := dd, data := .seq its n, slots := sl } ∧ R (.ok (.ret .notImplemented)) s) :=
  .of_wp fun prog w A R s h => by
    obtain ⟨oc, odd, oda, osl⟩ := od
    simp only at hod
    subst hod
    obtain ⟨hp, g, dr, tk, os⟩ := s
    obtain ⟨hl, hb, h⟩ := h
    have f1 := F.sub_dict_tuple
    wp_walk using AutoSeq1.wpAny_loadPart' hl, AutoSeq1.wpAny_loadPart' hb
    exact ⟨_, rfl, h⟩
/-! ### x == () -/
/-- a value that is no tuple -/
inductive Pv (K : PySem.W.Frag) (H : Hp) : V → Prop
  | non : Pv K H .non
  | bl (b : Bool) : Pv K H (.bl b)
  | int (i : Int) : Pv K H (.int i)
  | str (x : Str) : Pv K H (.str x)
  | lst {a : Addr} {xs : List V} : H a = some (.lst xs) → Pv K H (.ref a)
  | dct {a : Addr} {kvs : List (L2.Key × V)} : H a = some (.dK kvs) → Pv K H (.ref a)
theorem Pv.keep0 {K : PySem.W.Frag} {H H2 : Hp} {v : V} (h : Pv K H v) (k : Kp T0 H H2) : Pv K H2 v := by
  cases h with
  | non => exact .non
  | bl b => exact .bl b
  | int i => exact .int i
  | str x => exact .str x
  | lst h => exact .lst (k.at0 h)
  | dct h => exact .dct (k.at0 h)
theorem Pv.noTup {K : PySem.W.Frag} {H : Hp} {v : V} (h : Pv K H v) : NoTup K H v := by
  cases h with
  | non => exact ⟨_, .base .non, kit_ty (by decide +kernel)⟩
  | bl b => exact ⟨_, .base (.bl b), kit_ty (by decide +kernel)⟩
  | int i => exact ⟨_, .base (.int i), kit_ty (by decide +kernel)⟩
  | str x => exact ⟨_, .base (.str x), kit_ty (by decide +kernel)⟩
  | lst h => exact ⟨_, .base (.lst h), kit_ty (by decide +kernel)⟩
  | dct h => exact ⟨_, .base (.dK h), kit_ty (by decide +kernel)⟩
/-- x == (), the tuple new -/
def rEqE (K : PySem.W.Frag) : R2 := fun x y H Q => ∃ b, y = .ref b ∧ H b = some (.tup []) ∧ ((∃ a xs, x = .ref a ∧ H a = some (.tup xs) ∧ Q (.bl xs.isEmpty) H) ∨ (Pv K H x ∧ Q (.bl false) H))
section
variable {X : Cx}
theorem op_eqE (hu : X.A.units < cLine) : OpR X (compareOp .Eq) (rEqE X.K) := by
  intro pins s st H x y v u Q I rx ry h
  obtain ⟨b, rfl, hb, h⟩ := h
  cases ry
  obtain ⟨_, its2, r2, hb2⟩ := (show ObjOk X.prog X.w H s.heap b (.tup []) from I.hok b _ hb)
  cases r2
  have hb3 : s.heap.IsTuple b #[] := hb2
  rcases h with ⟨a, xs, rfl, ha, q⟩ | ⟨p, q⟩
  · cases rx
    obtain ⟨_, its, r, hl⟩ := (show ObjOk X.prog X.w H s.heap a (.tup xs) from I.hok a _ ha)
    have hl : s.heap.IsTuple a its.toArray := hl
    refine RcAt.tuples (e := fun _ => true) hl hb3 hu (fun j h1 h2 => absurd h2 (Nat.not_lt_zero j)) _ _ _ _ ⟨.bl xs.isEmpty, H, I, ?_, q⟩
    have e : its.length = xs.length := r.length.symm
    show Value.bool _ = Value.bool _
    congr 1
    cases xs with
    | nil =>
      cases r
      rfl
    | cons z zs =>
      cases r
      simp
  · have fin : EP X pins st Q (.bool false) s := ⟨.bl false, H, I, rfl, q⟩
    cases p with
    | non =>
      cases rx
      exact RcAt.none_tuple hb3 hu _ _ _ _ fin
    | bl c =>
      cases rx
      exact RcAt.bool_tuple c hb3 hu _ _ _ _ fin
    | int i =>
      obtain ⟨t, rfl⟩ := rx
      exact RcAt.int_tuple i t hb3 hu _ _ _ _ fin
    | str z =>
      obtain ⟨t, rfl⟩ := rx
      exact RcAt.str_tuple z t hb3 hu _ _ _ _ fin
    | @lst a xs ha =>
      cases rx
      obtain ⟨its, r, hl, _⟩ := I.list (SqL.of ha)
      exact RcAt.list_tuple hl.isList hb3 hu _ _ _ _ fin
    | @dct a kvs ha =>
      cases rx
      obtain ⟨_, _, vs, rel, od, es, ep, ho, hx, hd, _⟩ := dk_of I.hok ha
      obtain ⟨⟨cls2, dd2, data2, sl2⟩, ho2, hc2, n2, hd2⟩ := id hb3
      simp only at hc2 hd2
      subst hc2 hd2
      have ne : a ≠ b := fun e => by
        rw [e, hb] at ha
        cases ha
      exact rc_eq_decline_or (k := false) ⟨_, ho, hx.1⟩ ⟨_, ho2, rfl⟩ (by decide) F.sub_tuple_dict F.slot_dict_eq F.slot_tuple_eq_refl
        (fun _ hq => call_meets F.slot_dict_eq ⟨_, ho, hx.1⟩ F.entry_dict_eq (F.args_dict_eq_2 _ _) (dict_declines_tuple a b od #[] n2 dd2 sl2 hx.1) ⟨ho, ho2, hq⟩)
        (fun _ hq => call_meets F.slot_tuple_eq_refl ⟨_, ho2, rfl⟩ F.entry_tuple_eq (F.args_tuple_eq_2 _ _) (tuple_declines_dict a b od #[] n2 dd2 sl2 hx.1) ⟨ho, ho2, hq⟩)
        (fun _ hq => wpAny_isSame_ref_other ne ho ho2 (by rw [hx.1]; simp) hq) (.inr hu) fin
end
/-- what follows an if, once -/
theorem if_join {b : Bool} {t u : TS} {D : Ends} {st : L2.St} {H : Hp} (I : L2.St → Hp → Prop) (h : (∀ st H2, I st H2 → D.nx st H2) → (if b = true then t D st H else u D st H)) (k : ∀ st H2, I st H2 → D.nx st H2) : if b = true then t D st H else u D st H := h k
/-! ### paths -/
/-- a value as a path: o its names where it is a tuple of good names -/
def PV (K : PySem.W.Frag) (H : Hp) (v : V) (o : Option Pth) : Prop := (∃ p, o = some p ∧ IsP H v p ∧ OkN p ∧ p.length < sizeLine) ∨
  (o = none ∧ ((∃ a xs rs, v = .ref a ∧ H a = some (.tup xs) ∧ Paired (ItN K H) xs rs ∧ xs.length < sizeLine ∧ rs.all id = false) ∨ Pv K H v))
theorem paired_map {α β : Type} {R S : α → β → Prop} (h : ∀ a b, R a b → S a b) : ∀ {xs : List α} {ys : List β}, Paired R xs ys → Paired S xs ys
  | _, _, .nil => .nil
  | _, _, .cons a r => .cons (h _ _ a) (paired_map h r)
theorem PV.keep0 {K : PySem.W.Frag} {H H2 : Hp} {v : V} {o : Option Pth} (h : PV K H v o) (k : Kp T0 H H2) : PV K H2 v o := by
  rcases h with ⟨p, e, i, o, l⟩ | ⟨e, ⟨a, xs, rs, ev, t, pr, l, n⟩ | h⟩
  · exact .inl ⟨p, e, i.keep0 k, o, l⟩
  · exact .inr ⟨e, .inl ⟨a, xs, rs, ev, k.at0 t, paired_map (fun _ _ z => z.keep0 k) pr, l, n⟩⟩
  · exact .inr ⟨e, .inr (h.keep0 k)⟩
def stepP (ms : Msgs) (k : Kind) (n : Str) : Option Kind := match k with
  | m :: x :: _ => if m = "message" then (fldsOf ms x).lookup n else if m = "map" then some [x] else none
  | _ => none
def walkP (ms : Msgs) : Kind → Pth → Option Kind
  | k, [] => some k
  | k, n :: p => match stepP ms k n with
    | some k2 => walkP ms k2 p
    | none => none
abbrev topK : Kind := ["message", "top"]
def kindAt (ms : Msgs) (p : Pth) : Option Kind := if p = [] then none else walkP ms topK p
/-- a kind or None -/
def KVo (H : Hp) (r : V) (o : Option Kind) : Prop := match o with
  | some k => IsP H r k
  | none => r = .non
/-- the schema's messages are right -/
structure Sch (ms : Msgs) : Prop where
  mok : MsgOk ms
  am : areMsgsP ms = true
theorem Sch.forms {ms : Msgs} (h : Sch ms) : ∀ q ∈ ms, formP q.2 = true := fun q m => by
  have z := h.am
  simp only [areMsgsP, Bool.and_eq_true] at z
  have z2 := List.all_eq_true.mp z.1.1.1.2 q m
  rw [Bool.and_eq_true] at z2
  exact z2.2
theorem Sch.known {ms : Msgs} (h : Sch ms) : knownP ms = true := by
  have z := h.am
  simp only [areMsgsP, Bool.and_eq_true] at z
  exact z.1.1.2
theorem Sch.top {ms : Msgs} (h : Sch ms) : (ms.lookup ("top" : Str)).isSome = true := by
  have z := h.am
  simp only [areMsgsP, Bool.and_eq_true] at z
  exact z.1.1.1.1.2
def spKindIn (K : PySem.W.Frag) : Sp := fun vs H Q _ => ∃ (f v : V) (ms : Msgs) (ks : Cho) (o : Option Pth), vs = [f, v] ∧ IsFm H f ms ks ∧ Sch ms ∧ PV K H v o ∧ ∀ H2 r, Kp T0 H H2 → KVo H2 r (o.bind (kindAt ms)) → Q r H2
end Gk
namespace Lw
open PySem L2 Gk
abbrev sKindIn : Stmt := topS 27
structure TxtI (mg : Str → Option Value) : Prop where
  z_isinstance : mg "isinstance" = none
  z_tuple : mg "tuple" = none
  z_all : mg "all" = none
theorem fm_msgs {H : Hp} {f : V} {ms : Msgs} {ks : Cho} (h : IsFm H f ms ks) : ∃ fd ma, f = .ref fd ∧ IsD H fd ∧ DGet H fd (.str "messages") (some (.ref ma)) ∧ IsMs H (.ref ma) ms := by
  obtain ⟨fd, ma, ca, mk, ck, rfl, h1, h2, p2, h3, p3⟩ := h
  exact ⟨fd, ma, rfl, .inl ⟨_, .inl h1⟩, .inl ⟨_, .inr "messages", .inl h1, rfl, rfl⟩, ma, mk, rfl, .inl h2, p2⟩
theorem fm_chos {H : Hp} {f : V} {ms : Msgs} {ks : Cho} (h : IsFm H f ms ks) : ∃ fd ca ck, f = .ref fd ∧ DGet H fd (.str "choices") (some (.ref ca)) ∧ H ca = some (.dK ck) ∧ Paired (Ent (IsRs H)) ck ks := by
  obtain ⟨fd, ma, ca, mk, ck, rfl, h1, h2, p2, h3, p3⟩ := h
  refine ⟨fd, ca, ck, rfl, .inl ⟨_, .inr "choices", .inl h1, rfl, ?_⟩, h3, p3⟩
  rfl
/-- a field's kind -/
theorem flds_get {H : Hp} {v : V} {fs : Flds} (h : IsF H v fs) (n : Str) : ∃ a o, v = .ref a ∧ IsD H a ∧ DGet H a (.str n) o ∧ KVo H (o.getD .non) (fs.lookup n) := by
  obtain ⟨a, kvs, rfl, ha, pr⟩ := h
  refine ⟨a, valV kvs (.inr n), rfl, .inl ⟨_, .inl ha⟩, .inl ⟨kvs, .inr n, .inl ha, rfl, rfl⟩, ?_⟩
  rcases ent_find n pr with ⟨e1, e2⟩ | ⟨k, v, e1, e2, ip⟩
  · rw [e1, e2]
    rfl
  · rw [e1, e2]
    exact ip
/-- a right kind of the schema -/
def KindOk (ms : Msgs) (k : Gk.Kind) : Prop := kindP k = true ∧ ∀ x, msgOf k = some x → (ms.lookup x).isSome = true
theorem step_ok {ms : Msgs} (S : Sch ms) {k k2 : Gk.Kind} (h : KindOk ms k) {n : Str} (e : stepP ms k n = some k2) : KindOk ms k2 := by
  obtain ⟨kp, km⟩ := h
  match k, kp, km, e with
  | [m, x], kp, km, e =>
    simp only [stepP] at e
    by_cases c : m = "message"
    · rw [if_pos c] at e
      have hx := km x (by simp [msgOf, c])
      obtain ⟨fs, hf⟩ := Option.isSome_iff_exists.mp hx
      have ef : fldsOf ms x = fs := by
        unfold fldsOf
        rw [hf]
        rfl
      rw [ef] at e
      have mm := lookup_mem hf
      have mf := lookup_mem e
      refine ⟨(form_kinds (S.forms _ mm) _ mf).2, fun y hy => ?_⟩
      have kn := List.all_eq_true.mp S.known (x, fs) mm
      exact List.all_eq_true.mp kn y (List.mem_filterMap.mpr ⟨(n, k2), mf, hy⟩)
    · rw [if_neg c] at e
      by_cases c2 : m = "map"
      · rw [if_pos c2] at e
        cases Option.some.inj e
        subst c2
        refine ⟨?_, fun y hy => by cases hy⟩
        have ne : ¬ (("map" : Str) = "message") := by decide
        simp only [kindP, ne, decide_false, Bool.false_and, Bool.or_false, decide_true, Bool.true_and] at kp ⊢
        exact kp
      · rw [if_neg c2] at e
        cases e
theorem step_msg (ms : Msgs) (x n : Str) : stepP ms ["message", x] n = (fldsOf ms x).lookup n := by
  simp [stepP]
theorem step_map (ms : Msgs) (x n : Str) : stepP ms ["map", x] n = some [x] := by
  have ne : ¬ (("map" : Str) = "message") := by decide
  simp [stepP, ne]
theorem step_no {ms : Msgs} {m n : Str} {r : List Str} (h1 : m ≠ "message") (h2 : m ≠ "map") : stepP ms (m :: r) n = none := by
  cases r with
  | nil => rfl
  | cons x r => simp [stepP, h1, h2]
theorem map_shape {r : List Str} (h : kindP ("map" :: r) = true) : ∃ x, r = [x] := by
  match r, h with
  | [], h => exact absurd h (by decide)
  | [x], _ => exact ⟨x, rfl⟩
section
variable {P : Program} {w : World} {K : PySem.W.Frag} {mg : Str → Option Value} {base : Heap}
theorem scKindIn : FnScope ["forms", "path", "kind", "name"] ["forms", "path"] (defScope sKindIn) := ⟨rfl, rfl, rfl, by decide +kernel, rfl, by decide +kernel, by decide +kernel⟩
theorem ok_kindIn {f fN : Addr} {fd : FuncData} (F : Fun K "kind_in" "kind_in" sKindIn f fd) (T : TxtI mg) (DN : Df P w K mg base 2 fN "is_name" ["value"] (spIsName K)) : FnOk P w K mg base CX0 3 f fd ["forms", "path"] (spKindIn K) := by
  refine F.ok scKindIn (fun vs H Q E h => ?_) (fun cdv A outer s H vs Q E hr h => ?_)
  · obtain ⟨_, _, _, _, _, rfl, _⟩ := h
    rfl
  · obtain ⟨fv, v, ms, ks, o, rfl, fm, S, pv_, q⟩ := h
    have hz : (16777216 : Nat) = PySem.sizeLine := PySem.sizeLine_eq.symm
    have hu := hu_of hr
    refine ⟨_, pss_cons (ps_if (PW.pt (pw_or (pt_not (pt_val (pe_callB call_isi (by rfl) T.z_isinstance (by decide +kernel) (pa_cons (pv 1) (pa_cons (pe_bltn (v := .ty "tuple") (by rfl) T.z_tuple (by decide +kernel) rfl) pa_nil)))))
        (pw_or1 (pt_not (pt_val (pe_callB (r := rAll K) (cr_all rfl) (by rfl) T.z_all (by decide +kernel) (pa_cons (pe_lc (own := [("name", 3)]) (g := gName 3) (tt := tYes) rfl scKindIn.nd (pi_tup (pv 1))
          (blkOk_by (N := ["forms", "path", "kind", "name"]) (sc := defScope sKindIn) (by decide +kernel)) (fun _ _ _ _ _ => pg_name (i := 3) scKindIn.nd rfl (Or.inl rfl)) (fun _ _ _ _ _ => pts_nil)
          (fun _ _ _ _ _ => pe_df DN hr (by rfl) (pa_cons (pv 3) pa_nil))) pa_nil))))))) (pss_one (ps_ret pe_non)) pss_nil)
      (pss_cons (ps_set (i := 2) scKindIn.nd rfl (Or.inl rfl) (pe_tup (pa_cons pe_str (pa_cons pe_str pa_nil))))
      (pss_cons (ps_for PassesOwn.never rfl (pi_tup (pv 1)) (pg_name (i := 3) scKindIn.nd rfl (Or.inl rfl))
        (pss_cons (ps_if (pt_cmpR op_eq (pe_ix (r := rIx K) ix_seq (pv 2) pe_int (fun _ _ => rfl)) pe_str (nomark _))
            (pss_one (ps_set (i := 2) scKindIn.nd rfl (Or.inl rfl) (pe_dget1 hu (pe_dget hu (pe_dget hu (pv 0) pe_str (fun _ _ => rfl)) (pe_ix (r := rIx K) ix_seq (pv 2) pe_int (fun _ _ => rfl)) (fun _ _ => rfl)) (pv 3) ⟨by rfl, by rfl, by rfl, by rfl⟩)))
            (pss_one (ps_set (i := 2) scKindIn.nd rfl (Or.inl rfl) (pe_ifExp (pt_cmpR op_eq (pe_ix (r := rIx K) ix_seq (pv 2) pe_int (fun _ _ => rfl)) pe_str (nomark _)) (pe_tup (pa_cons (pe_ix (r := rIx K) ix_seq (pv 2) pe_int (fun _ _ => rfl)) pa_nil)) pe_non))))
        (pss_one (ps_if (pt_cmpR op_isN (pv 2) pe_non (nomark _)) (pss_one (ps_ret pe_non)) pss_nil))))
      (pss_one (ps_ret (pe_ifExp (pt_cmpR op_neL (pv 1) (pe_tup pa_nil) (nomark _)) (pv 2) pe_non))))), ?_⟩
    rcases pv_ with ⟨p, rfl, ⟨a, rfl, ha⟩, okn, lp⟩ | ⟨rfl, ⟨a, xs, rs, rfl, ha, pr, lx, no⟩ | pv_⟩
    rotate_left
    · -- a tuple with something else
      refine ⟨_, rfl, _, _, _, _, true, rfl, .ty "tuple", .base (.tup ha), kit_ty (by decide +kernel), true, rfl, ?_⟩
      refine iteF ?_
      refine ⟨_, rfl, a, rfl, ⟨_, SqT.of ha⟩, fun D hD => ?_⟩
      refine lc_kp (T := T0) (walk_tup (xs := xs)) (i0 := 3) (fun i v => xs[i]? = some v) (fun i zs _ => zs = (rs.take i).map V.bl) (fun _ _ _ _ _ y => y) hD id lx (wipe1 _ 3) (fun H1 k1 => SqT.of (k1.at0 ha)) rfl
        (fun i v zs H1 Ky Kn hi sx k1 d1 ez ky kn => ?_) (fun zs H1 k1 d1 lz ez => ?_)
      · refine yes_ ?_
        obtain ⟨b, hb, iv⟩ := paired_get pr sx
        refine ⟨_, rfl, v, b, rfl, iv.keep0 k1, fun H3 k3 => ky _ _ k3 ?_⟩
        rw [ez, List.take_add_one, hb, List.map_append]
        rfl
      · have lr : rs.length = xs.length := (Paired.length pr).symm
        rw [← lr, List.take_length] at ez
        refine ⟨D, rs, rfl, SqL.of (by rw [d1, ez]), _, rfl, ?_⟩
        rw [no]
        exact iteT (q H1 .non k1 rfl)
    · -- no tuple
      obtain ⟨t, ty, kit⟩ := pv_.noTup
      exact ⟨_, rfl, _, _, _, _, false, rfl, .ty "tuple", ty, kit, false, rfl, iteT (q H .non (Kp.refl H) rfl)⟩
    refine ⟨_, rfl, _, _, _, _, true, rfl, .ty "tuple", .base (.tup ha), kit_ty (by decide +kernel), true, rfl, ?_⟩
    refine iteF ?_
    refine ⟨_, rfl, a, rfl, ⟨_, SqT.of ha⟩, fun D hD => ?_⟩
    refine lc_kp (T := T0) (walk_tup (xs := p.map V.str)) (i0 := 3) (fun i v => (p.map V.str)[i]? = some v) (fun i zs _ => zs = (p.take i).map fun _ => V.bl true) (fun _ _ _ _ _ y => y) hD id (by rw [List.length_map]; exact lp) (wipe1 _ 3) (fun H1 k1 => SqT.of (k1.at0 ha)) rfl
      (fun i v zs H1 Ky Kn hi sx k1 d1 ez ky kn => ?_) (fun zs H1 k1 d1 lz ez => ?_)
    · rw [List.getElem?_map] at sx
      cases ey : p[i]? with
      | none =>
        rw [ey] at sx
        cases sx
      | some y =>
        rw [ey] at sx
        cases Option.some.inj sx
        have ny := okn y (List.mem_of_getElem? ey)
        refine yes_ ?_
        refine ⟨_, rfl, .str y, true, rfl, .inl ⟨y, rfl, (isNm_ok ny).2, ny.symm⟩, fun H2 k2 => ky _ _ k2 ?_⟩
        rw [ez, List.take_add_one, ey, List.map_append]
        rfl
    rw [List.length_map, List.take_length] at ez
    refine ⟨D, p.map fun _ => true, rfl, SqL.of (by rw [d1, ez, List.map_map]; rfl), _, rfl, ?_⟩
    have al : (p.map fun _ => true).all id = true := by simp
    rw [al]
    refine iteF ?_
    refine ⟨(by show 2 ≤ sizeLine; decide), fun t ht => ?_⟩
    have k2 : Kp T0 H (upd H1 t (.tup [.str "message", .str "top"])) := k1.new ht
    have ht2 : (upd H1 t (.tup [.str "message", .str "top"])) t = some (.tup ((topK).map V.str)) := upd_same
    generalize upd H1 t (.tup [.str "message", .str "top"]) = H2 at k2 ht2 ⊢
    have kTop : KindOk ms topK := ⟨by decide, fun x hx => by
      have e : x = "top" := (Option.some.inj hx).symm
      rw [e]
      exact S.top⟩
    refine ⟨_, rfl, a, rfl, ⟨_, SqT.of (k2.at0 ha)⟩, ?_⟩
    refine for_it (walk_tup (a := a) (xs := p.map V.str)) (fun i st H3 => Kp T0 H H3 ∧ ∃ (r : V) (k : Gk.Kind) (o3 : Option V), st = [some fv, some (.ref a), some r, o3] ∧ IsP H3 r k ∧ KindOk ms k ∧ walkP ms topK p = walkP ms k (p.drop i))
      ⟨k2, .ref t, topK, none, rfl, ⟨t, rfl, ht2⟩, kTop, by rw [List.drop_zero]⟩ (fun i st H3 _ p3 => SqT.of (p3.1.at0 ha)) (fun i x st H3 H4 hi p3 y => ?_) (fun st H3 p3 => ?_)
    rotate_left
    · obtain ⟨k3, r, k, o3, rfl, ⟨rt, rfl, hrt⟩, kok, wk⟩ := p3
      rw [List.length_map] at wk
      rw [List.drop_length] at wk
      refine ⟨_, rfl, Nat.zero_le _, fun e0 he0 => ?_⟩
      have k4 : Kp T0 H3 (upd H3 e0 (.tup [])) := (Kp.refl H3).new he0
      have e1 : PyData.depth (.tuple []) = 1 := rfl
      refine ⟨dP p, .tuple [], IsP.dp ⟨a, rfl, k4.at0 (k3.at0 ha)⟩, .tup (SqT.of upd_same) .nil, lay_dN okn, rfl, ?_, _, rfl, ?_⟩
      · rw [e1]
        exact Nat.lt_of_le_of_lt (Nat.add_le_add_left (Nat.le_trans (Nat.min_le_right _ _) (by decide : 1 ≤ 64)) _) hr.units
      · rw [eqv_nil, List.isEmpty_map]
        by_cases c : p = []
        · subst c
          exact iteF (q _ .non (k3.trans k4) (by rfl))
        · have ce : p.isEmpty = false := by
            cases p with
            | nil => exact absurd rfl c
            | cons _ _ => rfl
          rw [ce]
          refine iteT ⟨_, rfl, q _ _ (k3.trans k4) ?_⟩
          show KVo _ _ (kindAt ms p)
          unfold kindAt
          rw [if_neg c, wk]
          exact ⟨rt, rfl, k4.at0 hrt⟩
    · obtain ⟨k3, r, k, o3, rfl, ⟨rt, rfl, hrt⟩, kok, wk⟩ := p3
      obtain ⟨rfl, sx⟩ := y
      rw [List.length_map] at hi
      rw [List.getElem?_map, List.getElem?_eq_getElem hi] at sx
      cases Option.some.inj sx
      have pne : p ≠ [] := fun z => by rw [z] at hi; exact absurd hi (Nat.not_lt_zero _)
      have dr : p.drop i = p[i] :: p.drop (i + 1) := (List.getElem_cons_drop hi).symm
      rw [dr] at wk
      generalize p[i] = n at wk ⊢
      have wk2 : walkP ms topK p = match stepP ms k n with
        | some k2 => walkP ms k2 (p.drop (i + 1))
        | none => none := wk
      obtain ⟨m, rest0, ek, sh⟩ := kind_shape kok.1
      refine ⟨_, rfl, .inr (.inl ⟨rt, _, 0, .str m, rfl, rfl, SqT.of hrt, ?_, rfl, ?_⟩)⟩
      · rw [ek]
        exact at_0 _ _
      refine ⟨_, rfl, if_join (fun st H5 => ∃ r2, Kp T0 H H5 ∧ KVo H5 r2 (stepP ms k n) ∧ st = [some fv, some (.ref a), some r2, some (.str n)]) (fun rest => ?_) (fun st H5 q5 => ?_)⟩
      · rcases sh with ⟨em, x, er, mo⟩ | ⟨nm, mo⟩
        · rw [decide_eq_true (by rw [em] : V.str m = V.str "message")]
          refine iteT ?_
          obtain ⟨fd, ma, rfl, isd, dg, im⟩ := fm_msgs (fm.keep0 k3)
          obtain ⟨vF, dg2, isF⟩ := msgs_at2 im (kok.2 x mo)
          obtain ⟨fa, o5, rfl, isd2, dg3, kv⟩ := flds_get isF n
          refine ⟨_, rfl, fd, _, rfl, dg, _, rfl, .inr (.inl ⟨rt, _, 1, .str x, rfl, rfl, SqT.of hrt, ?_, ma, _, rfl, dg2, fa, rfl, isd2, _, rfl, o5, dg3, ?_⟩)⟩
          · rw [ek, er]
            exact at_1 _ _ _
          · refine rest _ _ ⟨_, k3, ?_, rfl⟩
            rw [ek, er, em, step_msg]
            exact kv
        · rw [decide_eq_false (fun z => nm (by injection z) : ¬ V.str m = V.str "message")]
          refine iteF ?_
          refine ⟨_, rfl, .inr (.inl ⟨rt, _, 0, .str m, rfl, rfl, SqT.of hrt, ?_, rfl, _, rfl, ?_⟩)⟩
          · rw [ek]
            exact at_0 _ _
          by_cases c : m = "map"
          · rw [decide_eq_true (by rw [c] : V.str m = V.str "map")]
            refine iteT ?_
            obtain ⟨x, er⟩ : ∃ x, rest0 = [x] := map_shape (by rw [← c, ← ek]; exact kok.1)
            refine ⟨_, rfl, .inr (.inl ⟨rt, _, 1, .str x, rfl, rfl, SqT.of hrt, ?_, (by show 1 ≤ sizeLine; decide), fun t9 ht9 => ?_⟩)⟩
            · rw [ek, er]
              exact at_1 _ _ _
            · refine rest _ _ ⟨_, k3.new ht9, ?_, rfl⟩
              rw [ek, er, c, step_map]
              exact ⟨t9, rfl, upd_same⟩
          · rw [decide_eq_false (fun z => c (by injection z) : ¬ V.str m = V.str "map")]
            refine iteF ?_
            refine rest _ _ ⟨_, k3, ?_, rfl⟩
            have e : stepP ms k n = none := by
              rw [ek]
              exact step_no nm c
            rw [e]
            rfl
      · obtain ⟨r2, k5, kv, rfl⟩ := q5
        refine ⟨_, rfl, rfl, _, rfl, ?_⟩
        cases e : stepP ms k n with
        | none =>
          rw [e] at kv wk2
          have er : r2 = .non := kv
          subst er
          rw [decide_eq_true rfl]
          refine iteT (q _ .non k5 ?_)
          show KVo _ _ (kindAt ms p)
          unfold kindAt
          rw [if_neg pne, wk2]
          rfl
        | some k2 =>
          rw [e] at kv wk2
          obtain ⟨ra, rfl, hra⟩ := kv
          rw [decide_eq_false (fun z => nomatch z)]
          exact iteF ⟨k5, .ref ra, k2, _, rfl, ⟨ra, rfl, hra⟩, step_ok S kok e, wk2⟩
end
end Lw
/-! Gk14: repr of data, < of data. -/
namespace Gk
open PySem PySem.Spec PyProof.Rows L2
/-- a scalar -/
inductive Sc : V → PyData → Prop
  | non : Sc .non .none
  | bl (b : Bool) : Sc (.bl b) (.bool b)
  | int (i : Int) : Sc (.int i) (.int i)
  | str (x : Str) : Sc (.str x) (.str x)
def dKey : L2.Key → PyData
  | .inl i => .int i
  | .inr x => .str x
abbrev ScP (p : L2.Key × V) (q : PyData × PyData) : Prop := q.1 = dKey p.1 ∧ Sc p.2 q.2
/-- data of which repr is known: no dict, or a dict of scalars -/
inductive Sh (K : PySem.W.Frag) (H : Hp) : V → PyData → Prop
  | dp {v : V} {d : PyData} : Dp K H v d → Sh K H v d
  | dict {a : Addr} {kvs : List (L2.Key × V)} {ds : List (PyData × PyData)} : H a = some (.dK kvs) → Paired ScP kvs ds → Sh K H (.ref a) (.dict ds)
theorem Sh.keep0 {K : PySem.W.Frag} {H H2 : Hp} {v : V} {d : PyData} (h : Sh K H v d) (k : Kp T0 H H2) : Sh K H2 v d := by
  cases h with
  | dp h => exact .dp (dp_keep k h)
  | dict e p => exact .dict (k.at0 e) p
mutual
theorem dp_nodict {K : PySem.W.Frag} {H : Hp} : ∀ {v : V} {d : PyData}, Dp K H v d → d.hasDict = false
  | _, _, .non => rfl
  | _, _, .bl _ => rfl
  | _, _, .int _ => rfl
  | _, _, .str _ => rfl
  | _, _, .lst _ t => dpa_nodict t
  | _, _, .tup _ t => dpa_nodict t
theorem dpa_nodict {K : PySem.W.Frag} {H : Hp} : ∀ {vs : List V} {ds : List PyData}, DpAll K H vs ds → PyData.hasDictAll ds = false
  | _, _, .nil => rfl
  | _, _, .cons a t => by
    show (PyData.hasDict _ || PyData.hasDictAll _) = false
    rw [dp_nodict a, dpa_nodict t]
    rfl
end
section
variable {X : Cx}
def rRepr (K : PySem.W.Frag) : List V → Hp → VK → Prop := fun xs H Q => ∃ (v : V) (d : PyData), xs = [v] ∧ Sh K H v d ∧ d.showable = true ∧ d.depth ≤ 64 ∧ d.shown.length ≤ sizeLine ∧ Q (.str d.shown) H
theorem sc_reads {v : V} {u : Value} {d : PyData} {h : Heap} (s : Sc v d) (r : RelV v u) : Reads h u d [] := by
  cases s with
  | non => cases r; exact .none
  | bl b => cases r; exact .bool b
  | int i => obtain ⟨t, rfl⟩ := (show ∃ t, u = Value.int i t from r); exact .int i t
  | str x => obtain ⟨t, rfl⟩ := (show ∃ t, u = Value.str x t from r); exact .str x t
theorem all_cons0 {h : Heap} {v : Value} {vs : List Value} {d : PyData} {ds : List PyData} (a : Reads h v d []) (b : ReadsAll h vs ds []) : ReadsAll h (v :: vs) (d :: ds) [] := ReadsAll.cons a b
theorem dict_reads {P : Program} {w : World} {h : Heap} : ∀ {kvs : List (L2.Key × V)} {vs : List (L2.Key × Value)} {es : List DictEntry} {ds : List (PyData × PyData)}, Paired ScP kvs ds → KV kvs vs → Pairs (mixKind P w) es vs →
    ReadsAll h (es.map (·.key)) (ds.map (·.1)) [] ∧ ReadsAll h (es.map (·.val)) (ds.map (·.2)) []
  | _, _, _, _, .nil, .nil, .nil => ⟨.nil, .nil⟩
  | _, _, _, _, .cons p ps, .cons r rs, .cons k e t => by
    obtain ⟨i1, i2⟩ := dict_reads (h := h) ps rs t
    obtain ⟨r1, r2⟩ := r
    obtain ⟨p1, p2⟩ := p
    refine ⟨all_cons0 ?_ i1, all_cons0 ?_ i2⟩
    · dsimp only
      rw [p1, r1]
      rcases keyIs_shape k with ⟨i, t, e1, e2⟩ | ⟨x, t, e1, e2⟩
      · rw [e1, e2]
        exact .int i t
      · rw [e1, e2]
        exact .str x t
    · dsimp only
      rw [e]
      exact sc_reads p2 r2
theorem call_reprD (hf : Free X.A) (hu : X.A.units + 70 < cLine) : CallR X (.builtin "repr") (rRepr X.K) := by
  intro pins s σ H xs us Q I r h
  obtain ⟨v, d, rfl, sh, sw, dd, sz, q⟩ := h
  obtain ⟨u, rfl, ru⟩ := vals1 r
  have fin : ∀ (h2 : Heap) (t : Tok) (tk : Nat), (∀ b o, s.heap.get? b = some o → h2.get? b = some o) → EP X pins σ Q (.str d.shown t) { s with heap := h2, toks := tk } := fun h2 t tk hk => ⟨.str d.shown, H, I.kept hk, ⟨t, rfl⟩, q⟩
  cases sh with
  | dp h =>
    cases h with
    | non =>
      cases ru
      exact PySem.P.repr_of_none (fin s.heap _ _ fun _ _ e => e)
    | bl b =>
      cases ru
      exact PySem.P.repr_of_bool (fin s.heap _ _ fun _ _ e => e)
    | int i =>
      obtain ⟨t, rfl⟩ := (show ∃ t, u = Value.int i t from ru)
      exact PySem.P.repr_of_int (of_decide_eq_true sw) (fin s.heap _ _ fun _ _ e => e)
    | str x =>
      obtain ⟨t, rfl⟩ := (show ∃ t, u = Value.str x t from ru)
      exact PySem.P.repr_of_str (fin s.heap _ _ fun _ _ e => e) sz
    | lst a t =>
      obtain ⟨as, rd⟩ := Dp.reads I _ _ u (.lst a t) ru
      cases ru
      refine repr_of_reads' rd sw (fun e => ?_) hf (by omega) (fun _ _ e => e) (fun h2 t tk hk => fin h2 t tk hk) sz
      rw [dp_nodict (.lst a t)] at e
      cases e
    | tup a t =>
      obtain ⟨as, rd⟩ := Dp.reads I _ _ u (.tup a t) ru
      cases ru
      refine repr_of_reads' rd sw (fun e => ?_) hf (by omega) (fun _ _ e => e) (fun h2 t tk hk => fin h2 t tk hk) sz
      rw [dp_nodict (.tup a t)] at e
      cases e
  | dict e p =>
    cases ru
    obtain ⟨_, ns, vs, kv, o, es, ep, ho, ex, hd, _, pr, _⟩ := dk_of I.hok e
    obtain ⟨q1, q2⟩ := dict_reads (h := s.heap) p kv pr
    refine repr_of_reads' (Reads.dict ho ex.1 hd q1 q2) sw (fun _ m => ?_) hf (by omega) (fun _ _ e => e) (fun h2 t tk hk => fin h2 t tk hk) sz
    rcases List.mem_cons.mp m with m | m
    · rw [← m] at ns
      simp at ns
    · exact absurd m (by simp)
/-- a < b, data that are alike -/
def rLtD (K : PySem.W.Frag) : R2 := fun x y H Q => ∃ d e, Dp K H x d ∧ Dp K H y e ∧ PySem.W.alike d e = true ∧ d ≠ .none ∧ d.depth ≤ 64 ∧ Q (.bl (PySem.W.dataLt d e)) H
theorem op_ltD (hu : X.A.units + 64 < cLine) : OpR X (compareOp .Lt) (rLtD X.K) := by
  intro pins s σ H x y v u Q I rx ry h
  obtain ⟨d, e, hd, he, al, nn, dp, q⟩ := h
  obtain ⟨as, r1⟩ := Dp.reads I d x v hd rx
  obtain ⟨bs, r2⟩ := Dp.reads I e y u he ry
  exact PySem.W.rcLt_alike d e X.A s v u as bs r1 r2 al nn (by omega) X.prog X.w X.xe _ ⟨.bl _, H, I, rfl, q⟩
end
end Gk
/-! Gk15: values by kind: texts, numbers, flags, others. -/
namespace Gk
open PySem PySem.Spec PyProof.Rows L2
def NoTy (K : PySem.W.Frag) (H : Hp) (T : String) (v : V) : Prop := ∃ t, TyX K H v t ∧ PySem.W.kitOne K t (.type T) = some false
inductive Kd
  | s (x : Str)
  | i (n : Int)
  | b (c : Bool)
  | o
def KdAt (K : PySem.W.Frag) (H : Hp) (v : V) : Kd → Prop
  | .s x => v = .str x ∧ x.length < sizeLine
  | .i n => v = .int n
  | .b c => v = .bl c
  | .o => NoTy K H "str" v ∧ NoTy K H "int" v ∧ NoTy K H "bool" v
theorem NoTy.keep0 {K : PySem.W.Frag} {H H2 : Hp} {T : String} {v : V} (h : NoTy K H T v) (k : Kp T0 H H2) : NoTy K H2 T v := by
  obtain ⟨t, a, b⟩ := h
  exact ⟨t, tyx_keep a k, b⟩
theorem KdAt.keep0 {K : PySem.W.Frag} {H H2 : Hp} {v : V} {kd : Kd} (h : KdAt K H v kd) (k : Kp T0 H H2) : KdAt K H2 v kd := by
  cases kd with
  | s x => exact h
  | i n => exact h
  | b c => exact h
  | o => exact ⟨h.1.keep0 k, h.2.1.keep0 k, h.2.2.keep0 k⟩
def nameK : Kd → Bool
  | .s x => isNm x
  | _ => false
def textK : Kd → Bool
  | .s x => isLet x 0 12
  | _ => false
def numK : Kd → Bool
  | .i n => decide (0 ≤ n)
  | _ => false
def flagK : Kd → Bool
  | .b _ => true
  | _ => false
/-- a def that tells something of a value by its kind -/
def spKd (K : PySem.W.Frag) (g : Kd → Bool) : Sp := fun vs H Q _ => ∃ (v : V) (kd : Kd), vs = [v] ∧ KdAt K H v kd ∧ ∀ H2, Kp T0 H H2 → Q (.bl (g kd)) H2
/-- every value of a kind is a text or none -/
theorem KdAt.str {K : PySem.W.Frag} {H : Hp} {v : V} {kd : Kd} (h : KdAt K H v kd) : (∃ x, kd = .s x ∧ v = .str x ∧ x.length < sizeLine) ∨ ((∀ x, kd ≠ .s x) ∧ NoStr K H v) := by
  cases kd with
  | s x => exact .inl ⟨x, rfl, h.1, h.2⟩
  | i n =>
    refine .inr ⟨(fun x e => nomatch e), .type "int", ?_, kit_ty (by decide +kernel)⟩
    rw [show v = .int n from h]
    exact .base (.int n)
  | b c =>
    refine .inr ⟨(fun x e => nomatch e), .type "bool", ?_, kit_ty (by decide +kernel)⟩
    rw [show v = .bl c from h]
    exact .base (.bl c)
  | o => exact .inr ⟨(fun x e => nomatch e), h.1⟩
theorem KdAt.item {K : PySem.W.Frag} {H : Hp} {v : V} {kd : Kd} (h : KdAt K H v kd) : ItN K H v (nameK kd) := by
  rcases h.str with ⟨x, rfl, e, l⟩ | ⟨ne, ns⟩
  · exact .inl ⟨x, e, l, rfl⟩
  · refine .inr ⟨ns, ?_⟩
    cases kd with
    | s x => exact absurd rfl (ne x)
    | _ => rfl
/-- isinstance(v, T) for T of str, int, bool -/
def isK (T : String) : Kd → Bool
  | .s _ => T == "str"
  | .i _ => T == "int"
  | .b _ => T == "int" || T == "bool"
  | .o => false
theorem KdAt.isi {K : PySem.W.Frag} {H : Hp} {v : V} {kd : Kd} {T : String} (h : KdAt K H v kd) (hT : T = "str" ∨ T = "int" ∨ T = "bool") : ∃ t, TyX K H v t ∧ PySem.W.kitOne K t (.type T) = some (isK T kd) := by
  cases kd with
  | s x =>
    refine ⟨.type "str", ?_, ?_⟩
    · rw [h.1]
      exact .base (.str x)
    · rcases hT with rfl | rfl | rfl
      · exact (kit_ty (show kitB "str" "str" = some ("str" == "str") by decide +kernel))
      · exact (kit_ty (show kitB "str" "int" = some ("int" == "str") by decide +kernel))
      · exact (kit_ty (show kitB "str" "bool" = some ("bool" == "str") by decide +kernel))
  | i n =>
    refine ⟨.type "int", ?_, ?_⟩
    · rw [show v = .int n from h]
      exact .base (.int n)
    · rcases hT with rfl | rfl | rfl
      · exact (kit_ty (show kitB "int" "str" = some ("str" == "int") by decide +kernel))
      · exact (kit_ty (show kitB "int" "int" = some ("int" == "int") by decide +kernel))
      · exact (kit_ty (show kitB "int" "bool" = some ("bool" == "int") by decide +kernel))
  | b c =>
    refine ⟨.type "bool", ?_, ?_⟩
    · rw [show v = .bl c from h]
      exact .base (.bl c)
    · rcases hT with rfl | rfl | rfl
      · exact (kit_ty (show kitB "bool" "str" = some ("str" == "int" || "str" == "bool") by decide +kernel))
      · exact (kit_ty (show kitB "bool" "int" = some ("int" == "int" || "int" == "bool") by decide +kernel))
      · exact (kit_ty (show kitB "bool" "bool" = some ("bool" == "int" || "bool" == "bool") by decide +kernel))
  | o =>
    rcases hT with rfl | rfl | rfl
    · exact h.1
    · exact h.2.1
    · exact h.2.2
/-- the reading of isinstance(v, T) -/
theorem rd_isi {K : PySem.W.Frag} {H : Hp} {v : V} {kd : Kd} {T : String} {Q : VK} (h : KdAt K H v kd) (hT : T = "str" ∨ T = "int" ∨ T = "bool") (k : Q (.bl (isK T kd)) H) : rIsi K [v, .ty T] H Q := by
  obtain ⟨t, ty, e⟩ := h.isi hT
  exact ⟨v, .ty T, t, .type T, isK T kd, rfl, .ty T, ty, e, k⟩
/-- value_key: texts by length and themselves, others as they are -/
def spKey (K : PySem.W.Frag) : Sp := fun vs H Q _ => ∃ (v : V) (kd : Kd), vs = [v] ∧ KdAt K H v kd ∧ ((∃ x, kd = .s x ∧ ∀ p, H p = none → Q (.ref p) (upd H p (.tup [.int (x.length : Nat), .str x]))) ∨ ((∀ x, kd ≠ .s x) ∧ Q v H))
end Gk
namespace Lw
open PySem L2 Gk
abbrev sIsText : Stmt := topS 11
abbrev sIsNumber : Stmt := topS 12
abbrev sIsFlag : Stmt := topS 13
structure TxtV (mg : Str → Option Value) : Prop where
  z_isinstance : mg "isinstance" = none
  z_str : mg "str" = none
  z_int : mg "int" = none
  z_bool : mg "bool" = none
  z_len : mg "len" = none
  v_MOST_TEXT : ∃ t, mg "MOST_TEXT" = some (.int 12 t)
section
variable {P : Program} {w : World} {K : PySem.W.Frag} {mg : Str → Option Value} {base : Heap}
theorem name_kd {f : Addr} {fd : FuncData} (F : FnOk P w K mg base CX0 2 f fd ["value"] (spIsName K)) : FnOk P w K mg base CX0 2 f fd ["value"] (spKd K nameK) :=
  F.imp fun vs H Q E h => by
    obtain ⟨v, kd, rfl, h, k⟩ := h
    exact ⟨v, _, rfl, h.item, k⟩
theorem scIsText : FnScope ["value"] ["value"] (defScope sIsText) := ⟨rfl, rfl, rfl, by decide +kernel, rfl, by decide +kernel, by decide +kernel⟩
theorem ok_is_text {f fL : Addr} {fd : FuncData} (F : Fun K "is_text" "is_text" sIsText f fd) (T : TxtV mg) (DL : Df P w K mg base 1 fL "is_letters" ["value", "least", "most"] (spIsLetters K)) :
    FnOk P w K mg base CX0 2 f fd ["value"] (spKd K textK) := by
  refine F.ok scIsText (fun vs H Q E h => ?_) (fun cdv A outer s H vs Q E hr h => ?_)
  · obtain ⟨v, r, rfl, _⟩ := h
    rfl
  · obtain ⟨v, kd, rfl, h, k⟩ := h
    obtain ⟨tM, mM⟩ := T.v_MOST_TEXT
    refine ⟨_, pss_one (ps_ret (pe_df DL hr (by rfl) (pa_cons (pv 0) (pa_cons pe_int (pa_cons (pe_glob (v := .int 12) (by rfl) mM ⟨_, rfl⟩) pa_nil))))), ?_⟩
    refine ⟨_, rfl, _, 0, 12, rfl, ?_⟩
    rcases h.str with ⟨x, rfl, e, l⟩ | ⟨ne, ns⟩
    · exact .inl ⟨x, e, l, k⟩
    · refine .inr ⟨ns, ?_⟩
      have q := k H (Kp.refl H)
      cases kd with
      | s x => exact absurd rfl (ne x)
      | _ => exact q
theorem scIsFlag : FnScope ["value"] ["value"] (defScope sIsFlag) := ⟨rfl, rfl, rfl, by decide +kernel, rfl, by decide +kernel, by decide +kernel⟩
theorem ok_is_flag {f : Addr} {fd : FuncData} (F : Fun K "is_flag" "is_flag" sIsFlag f fd) (T : TxtV mg) : FnOk P w K mg base CX0 1 f fd ["value"] (spKd K flagK) := by
  refine F.ok scIsFlag (fun vs H Q E h => ?_) (fun cdv A outer s H vs Q E hr h => ?_)
  · obtain ⟨v, r, rfl, _⟩ := h
    rfl
  · obtain ⟨v, kd, rfl, h, k⟩ := h
    refine ⟨_, pss_one (ps_ret (pe_callB call_isi (by rfl) T.z_isinstance (by decide +kernel) (pa_cons (pv 0) (pa_cons (pe_bltn (v := .ty "bool") (by rfl) T.z_bool (by decide +kernel) rfl) pa_nil)))), ?_⟩
    refine ⟨_, rfl, rd_isi h (.inr (.inr rfl)) ?_⟩
    have q := k H (Kp.refl H)
    cases kd <;> exact q
theorem scIsNumber : FnScope ["value"] ["value"] (defScope sIsNumber) := ⟨rfl, rfl, rfl, by decide +kernel, rfl, by decide +kernel, by decide +kernel⟩
theorem ok_is_number {f : Addr} {fd : FuncData} (F : Fun K "is_number" "is_number" sIsNumber f fd) (T : TxtV mg) : FnOk P w K mg base CX0 1 f fd ["value"] (spKd K numK) := by
  refine F.ok scIsNumber (fun vs H Q E h => ?_) (fun cdv A outer s H vs Q E hr h => ?_)
  · obtain ⟨v, r, rfl, _⟩ := h
    rfl
  · obtain ⟨v, kd, rfl, h, k⟩ := h
    refine ⟨_, pss_one (ps_ret (pe_and (pe_callB call_isi (by rfl) T.z_isinstance (by decide +kernel) (pa_cons (pv 0) (pa_cons (pe_bltn (v := .ty "int") (by rfl) T.z_int (by decide +kernel) rfl) pa_nil)))
      (pe_and (pe_not (pe_callB call_isi (by rfl) T.z_isinstance (by decide +kernel) (pa_cons (pv 0) (pa_cons (pe_bltn (v := .ty "bool") (by rfl) T.z_bool (by decide +kernel) rfl) pa_nil))))
      (pe_one (pe_cmpR op_ge (pv 0) pe_int (nomark _)))))), ?_⟩
    refine ⟨_, rfl, ?_⟩
    dsimp only [tCons, tC, tNil]
    refine rd_isi h (.inr (.inl rfl)) ?_
    refine ⟨_, rfl, ?_⟩
    have q := k H (Kp.refl H)
    cases kd with
    | s x => exact iteF q
    | o => exact iteF q
    | i n =>
      refine iteT ⟨_, rfl, ?_⟩
      dsimp only [tCons, tC, tNil]
      refine rd_isi h (.inr (.inr rfl)) ?_
      refine ⟨_, rfl, ?_⟩
      refine ⟨_, rfl, ?_⟩
      refine iteT ⟨_, rfl, _, _, ?_, rfl, q⟩
      exact h
    | b c =>
      refine iteT ⟨_, rfl, ?_⟩
      dsimp only [tCons, tC, tNil]
      refine rd_isi h (.inr (.inr rfl)) ?_
      refine ⟨_, rfl, ?_⟩
      refine ⟨_, rfl, ?_⟩
      exact iteF q
end
end Lw
/-! Gk29: an own exception (below ValueError) whose __init__ says super().__init__(a text) and keeps its argument: what such an __init__ promises. -/
namespace Gk
open PySem PySem.Spec PyProof.Rows L2
/-- the scope of such an __init__ -/
structure SupScope (prm : Str) (sc : Scope) : Prop where
  kind : sc.kind = .function
  co : sc.isCoroutine = false
  gen : sc.isGenerator = false
  sup : sc.names.lookup ("super" : Str) = some .globalImplicit
  cls : sc.names.lookup ("__class__" : Str) = some .free
  lself : sc.names.lookup ("self" : Str) = some .local
  lprm : sc.names.lookup prm = some .local
  nocell : ∀ x ∈ sc.names, x.2 ≠ .cell
  one : ∀ x ∈ sc.names, x.2 = .free → x.1 = ("__class__" : Str)
  ne : prm ≠ ("self" : Str)
/-- the context of its body -/
def cxS (CX : CXT) (P : Program) (w : World) (K : PySem.W.Frag) (mg : Str → Option Value) (base : Heap) (prm : Str) (env : Env) (A : Around) (outer : List Env) (s : Shared) (H : Hp) (E : XK) : Cx where
  prog := P
  w := w
  K := K
  mg := mg
  base := base
  A := A.deeper env
  N := ["self", prm]
  s_0 := s
  H_0 := H
  env := env
  outer := outer
  stack := env :: outer
  ex := []
  calm := true
  fn := fun _ => false
  pn := []
  xe := fun e s' => wpAny (model P w) (A.deeper env) (leaving env e) (fun _ s'' => CX outer H s E e s'') (fun e' s'' => CX outer H s E e' s'') s'
theorem one_cell {cc c : Addr} {x : Str} (h : ([("__class__", cc)] : List (Str × Addr)).lookup x = some c) : x = ("__class__" : Str) ∧ c = cc := by
  rw [List.lookup_cons] at h
  cases e : x == ("__class__" : Str) with
  | true =>
    rw [e] at h
    exact ⟨beq_iff_eq.mp e, (Option.some.inj h).symm⟩
  | false =>
    rw [e] at h
    cases h
section
variable {CX : CXT} {P : Program} {w : World} {K : PySem.W.Frag} {mg : Str → Option Value} {base : Heap} {prm qual : Str} {sc : Scope} {f cc D : Addr} {cd : Value} {A : Around} {outer : List Env} {s : Shared} {H : Hp} {E : XK} {e : Addr} {u : Value} {v : V} {h0 : Heap} {tk : Nat}
theorem inv_sup (S : SupScope prm sc) (hd : A.handled = none) (e0 : Env0 P w K mg base A outer s H) {oc : Obj} (hc : K.lookup cc = some oc) (hoc : oc.data = .cell (some (.ref D)))
    (hns : h0.Ns s.heap.objs.size (fun x => ([(("self" : Str), Value.ref e), (prm, u)] : List (Str × Value)).reverse.lookup x)) (hk : ∀ b o, s.heap.get? b = some o → h0.get? b = some o) (rv : RelV v u) :
    Inv (cxS CX P w K mg base prm (PySem.W.ksEnv qual sc s.heap.objs.size f cd cc) A outer s H E) [] [some (.ref e), some v] H { s with heap := h0, toks := tk } := by
  have hbase := e0.mod.kin _ _ hc
  obtain ⟨hheap, hH⟩ := e0.bs _ _ hbase
  refine ⟨⟨e0.mod, S.kind, rfl, rfl, Nat.le_refl _, fun x y c h1 h2 => ?_, fun x hx => ?_, (fun x c h _ => nomatch h), fun _ => hd, Around.frames_deeper e0.frames, .inr ⟨rfl, rfl⟩, (fun b z => nomatch z), e0.bs, e0.bsz, (fun b _ _ z => nomatch z), (fun b z => nomatch z), e0.funs, e0.frf⟩,
    rfl, e0.bare, Un.kept hk, ⟨_, hns, fun i x v' h1 h2 h3 => ?_⟩, fun x c h => ?_, e0.hok.fresh (Nat.le_refl _), fun x c h => ?_, (fun p hp => nomatch hp), e0.hok.kept hk, rfl⟩
  · rw [(one_cell h1).1, (one_cell h2).1]
  · have hx : sc.names.lookup x = some .cell ∨ sc.names.lookup x = some .free := hx
    rcases hx with hx | hx
    · exact absurd rfl (S.nocell _ (PySem.mem_of_lookup hx))
    · have z := S.one _ (PySem.mem_of_lookup hx) rfl
      have z : x = ("__class__" : Str) := z
      subst z
      exact ⟨cc, by show ([("__class__", cc)] : List (Str × Addr)).lookup _ = _; rw [List.lookup_cons, beq_self_eq_true]⟩
  · match i, h1, h2 with
    | 0, h1, h2 =>
      cases Option.some.inj h1
      cases Option.some.inj (Option.some.inj h2)
      refine ⟨.ref e, rfl, .inl ⟨S.lself, ?_⟩⟩
      show ([(prm, u), (("self" : Str), Value.ref e)] : List (Str × Value)).lookup ("self" : Str) = _
      rw [List.lookup_cons, beq_eq_false_iff_ne.mpr (fun z => S.ne z.symm), List.lookup_cons, beq_self_eq_true]
    | 1, h1, h2 =>
      cases Option.some.inj h1
      cases Option.some.inj (Option.some.inj h2)
      refine ⟨u, rv, .inl ⟨S.lprm, ?_⟩⟩
      show ([(prm, u), (("self" : Str), Value.ref e)] : List (Str × Value)).lookup prm = _
      rw [List.lookup_cons, beq_self_eq_true]
    | n + 2, h1, h2 => cases h1
  · obtain ⟨rfl, rfl⟩ := one_cell h
    exact ⟨_, _, hk _ _ hheap, hoc⟩
  · obtain ⟨rfl, rfl⟩ := one_cell h
    exact hH
end
/-- what such an __init__ promises: the exception at e gets its dict with the one field -/
def spErr (C : Addr) (fld : Str) : Sp := fun vs H Q _ => ∃ (e : Addr) (v : V), vs = [.ref e, v] ∧ H e = some (exo e C none) ∧ ∀ d, H d = none → d ≠ e → Q .non (upd (upd H d (exd d [(fld, v)])) e (exo e C (some d)))
section
variable {CX : CXT} {P : Program} {w : World} {K : PySem.W.Frag} {mg : Str → Option Value} {base : Heap} {prm name qual fld tx file : Str} {params : Arguments} {body : List Stmt} {sc : Scope} {f cc C cda : Addr} {dV kV doc pm ct oc : Value} {an od : Option Addr}
  {osl ccs csl : Array (Option Value)} {ccl cl : Value} {cdd cld : Option Addr} {vs : Array Value} {tf : Tok} {k jj : Nat} {p0 p1 p2 p3 p4 pc q1 q2 q3 q4 : Pos} {ar : Arg}
/-- what the text's places give -/
structure SupText (qual prm fld tx : Str) (sc : Scope) (jj : Nat) (p0 p1 p2 p3 p4 pc q1 q2 q3 q4 : Pos) : Prop where
  inter : ∀ (L a : Addr) (cd : Value) (cc : Addr), interactive (PySem.W.ksEnv qual sc L a cd cc) = false
  sw1 : ∀ (L a : Addr) (cd : Value) (cc : Addr), swapsWith (.Call (.Attribute (.Call (.Name "super" p0) [] [] p1) "__init__" p2) [.Constant (.str tx) jj pc] [] p3) none p4.line (PySem.W.ksEnv qual sc L a cd cc) = pure false
  ev : ∀ (L a : Addr) (cd : Value) (cc : Addr), ∃ pl : Sem Bool, eval (.Call (.Attribute (.Call (.Name "super" p0) [] [] p1) "__init__" p2) [.Constant (.str tx) jj pc] [] p3) (PySem.W.ksEnv qual sc L a cd cc) = (do
      let ov ← attributeBase (.Call (.Name "super" p0) [] [] p1) "__init__" (PySem.W.ksEnv qual sc L a cd cc) (eval (.Call (.Name "super" p0) [] [] p1) (PySem.W.ksEnv qual sc L a cd cc))
      standAt p2.atName
      let (f, first) ← holding [ov] (getMethod ov "__init__" pl)
      callWith p3 f first (backTo p3 (starEach [.Constant (.str tx) jj pc] (PySem.W.ksEnv qual sc L a cd cc))) [])
  st : ∀ (L a : Addr) (cd : Value) (cc : Addr), starEach [.Constant (.str tx) jj pc] (PySem.W.ksEnv qual sc L a cd cc) = (false, eval (.Constant (.str tx) jj pc) (PySem.W.ksEnv qual sc L a cd cc)) :: starEach [] (PySem.W.ksEnv qual sc L a cd cc)
  sw2 : ∀ (L a : Addr) (cd : Value) (cc : Addr), swapsWith (.Name prm q3) (some (.Attribute (.Name "self" q1) fld q2)) q4.line (PySem.W.ksEnv qual sc L a cd cc) = pure false
theorem call_mw {prog : Program} {w : World} {A : Around} {E : Value → Shared → Prop} {h : Heap} {g : Array GenState} {d : _root_.PySem.Drawn} {t : Nat} {os : OsState} {nm q : Str} {C N : Addr} {bs bm : List Value} {hdct : Bool} {sn : List Str} {sub : List Value} {ab : Bool} {col : Option Bool}
    {dd : Option Addr} {k0 k1 k2 k3 k5 : Option Value} {u e t0 : Addr} {rest : List Value} {Q : Value → Shared → Prop}
    (hC : h.get? C = some (excClassObj nm q C N bs bm hdct sn sub ab col dd k0 k1 k2 k3 k5 "ValueError.__new__")) (he : h.get? e = some (HandSPX.excO C t0)) (hu : h.get? u = some (PySem.W.kxs_mw "ValueError.__init__" e)) (hrest : rest.length ≤ sizeLine)
    (hq : ∀ h' t1, (∀ b o, b ≠ e → h.get? b = some o → h'.get? b = some o) → h'.get? e = some (HandSPX.excO C t1) → Q .none ⟨h', g, d, t, os⟩) :
    wpAny (model prog w) A (call (.ref u) rest) Q E ⟨h, g, d, t, os⟩ := by
  refine wpAny_call (codeAny_of_tree ?_)
  show wpAny _ A.in1 (callAny (.ref u) ⟨rest, []⟩) _ _ _
  simp only [callAny]
  refine wpAny_bind (wpAny_load hu ?_)
  simp only [PySem.W.kxs_mw, show (Value.type "method-wrapper" == Value.type "method" || Value.type "method-wrapper" == Value.type "builtin_function_or_method" || Value.type "method-wrapper" == Value.type "method-wrapper") = true by decide, if_true]
  refine W.KFB.if_so (by decide) ?_
  refine wpAny_bind (ESX.check_bound F.excBase_ValueError hC he rfl ?_)
  refine wpAny_bind (wpAny_pure (wpAny_pure ?_))
  refine ⟨Code.quiet_builtin _ (by decide +kernel), codeAny_builtin F.excBase_ValueError.initEntry ?_⟩
  rw [Around.under_plainId F.excBase_ValueError.init.plain _]
  wp_walk
  refine hq _ h.objs.size (fun b o hb ho => ?_) ?_
  · rw [Heap.get?_update_other _ _ (Ne.symm hb)]
    exact Heap.get?_push_of_some _ ho
  · rw [Heap.get?_update_self _ (Heap.get?_push_of_some _ he) rfl]
    rfl
theorem fn_sup (lk : K.lookup f = some ⟨oc, od, .func (PySem.W.ksFn name qual params body sc dV kV doc pm an (.ref cda) ct cc), osl⟩) (hcd : PySem.W.codeIn K (.ref cda) qual = true) (S : SupScope prm sc)
    (hp : (params.posonlyargs ++ params.args).head? = some ar) (har : ar.arg = ("self" : Str)) (hcode : K.lookup cda = some ⟨ccl, cdd, .fields vs, ccs⟩) (hvs : vs[2]? = some (.str file tf)) (hfile : ((P.main.file : Str) == file) = true)
    (htop : (P.main.scope.names.lookup ("super" : Str)).isSome = false) (hcell : K.lookup cc = some ⟨cl, cld, .cell (some (.ref C)), csl⟩) (hsup : mg "super" = none) (hop : PySem.W.nsIn K cStatics "thirdparty.any" = some none)
    (hsi : PySem.W.ks_superIn K C C "__init__" = some (some (.builtin "ValueError.__init__"))) (T : OexC K C) (hno : PySem.W.findIn K (.ref C) fld = some none)
    (hbody : body = [.Expr (.Call (.Attribute (.Call (.Name "super" p0) [] [] p1) "__init__" p2) [.Constant (.str tx) jj pc] [] p3) p4, .Assign [.Attribute (.Name "self" q1) fld q2] (.Name prm q3) q4])
    (hx : SupText qual prm fld tx sc jj p0 p1 p2 p3 p4 pc q1 q2 q3 q4) (hnd : (prm == ("__debug__" : Str)) = false) (hncd : (prm == ("__classdict__" : Str)) = false) :
    FnOk P w K mg base CX (k + 1) f (PySem.W.ksFn name qual params body sc dV kV doc pm an (.ref cda) ct cc) ["self", prm] (spErr C fld) := by
  have len : ∀ vs H Q E, spErr C fld vs H Q E → vs.length = (["self", prm] : List Str).length := fun vs H Q E h => by
    obtain ⟨e, v, rfl, _⟩ := h
    rfl
  refine ⟨len, fun A outer s H args us vs' Q E hr e0 hb r hsp => ?_⟩
  obtain ⟨e, v, rfl, he, kq⟩ := hsp
  obtain ⟨u1, u, rfl, ru1, ru⟩ := r.two
  obtain rfl : u1 = Value.ref e := ru1
  have KX : K.In s.heap := e0.mod.kin.keeps fun b o e => (e0.bs b o e).1
  have lim : s.heap.NoLimit := e0.mod.nolimit.keeps fun b o e => (e0.bs b o e).1
  refine PySem.ks_codeAny_call_defAt (fd := PySem.W.ksFn name qual params body sc dV kV doc pm an (.ref cda) ct cc) (body := body) (binds := [(("self" : Str), Value.ref e), (prm, u)]) hr.depth (KX _ _ lk) rfl lim (PySem.W.codeRec_of KX hcd) rfl hb S.nocell (fun x hm => ?_) (fun h0 hns hk => ?_) S.co S.gen S.kind
  · rcases List.mem_cons.mp hm with rfl | hm
    · exact S.lself
    · rw [List.mem_singleton.mp hm]
      exact S.lprm
  subst hbody
  have I := inv_sup (CX := CX) (E := E) (qual := qual) (f := f) (cd := .ref cda) (tk := s.toks + 2) S hr.hd e0 hcell rfl hns hk ru
  change PySem.wpAt (model P w) (A.deeper (PySem.W.ksEnv qual sc s.heap.objs.size f (.ref cda) cc)) (.func _ (PySem.W.ksEnv qual sc s.heap.objs.size f (.ref cda) cc)) (execs _ (PySem.W.ksEnv qual sc s.heap.objs.size f (.ref cda) cc)) _ _ _
  have K0 : K.In h0 := KX.keeps hk
  obtain ⟨nm, qn, N, bs, bm, sn, sub, ab, col, dd, k0, k1, k2, k3, k5, hC, hbm⟩ := T.cls
  have hcl : PySem.W.clsIn K C = some { name := nm, bases := bs, mro := .ref C :: bm, ns := N, qualname := qn, hasDict := true, slotNames := sn, subclasses := sub, abstract := ab, collection := col, hasDel := false } := by unfold PySem.W.clsIn; rw [hC] <;> rfl
  obtain ⟨t1, hoe⟩ := exo_at I.hok he
  obtain ⟨pl, hev⟩ := hx.ev s.heap.objs.size f (.ref cda) cc
  refine PySem.ks_wpAt_execs_cons (PySem.ks_wpAt_Expr_any (PySem.ks_wpAt_MethodCall (pl := pl) (PySem.ks_wpAt_super_base S.sup S.cls (by decide) rfl (K0 _ _ lk) rfl hp rfl (K0 _ _ hcode) rfl hvs hfile htop ?_) hev) (hx.inter _ _ _ _) (hx.sw1 _ _ _ _))
  obtain ⟨mb, b1, b2⟩ := I.mod.blt
  refine PySem.W.ks_loadName_global S.kind S.sup (Calls.loadGlobal_builtin (I.mod.glob.keeps I.bk) hsup (b1.keeps I.bk) ((b2 _ (by decide)).trans (show bootBuiltins "super" = some (.type "super") by decide +kernel)) ⟨rfl, ?_⟩)
  refine wpAny_loadName_free S.kind S.cls rfl ⟨_, K0 _ _ hcell, rfl⟩ ?_
  simp only [har]
  refine wpAny_loadName_local S.kind S.lself hns (show ([(prm, u), (("self" : Str), Value.ref e)] : List (Str × Value)).lookup ("self" : Str) = some (.ref e) by rw [List.lookup_cons, beq_eq_false_iff_ne.mpr (fun z => S.ne z.symm), List.lookup_cons, beq_self_eq_true]) ?_
  refine PySem.ks_wpAny_isType_cls (K0 _ _ hC) rfl ⟨rfl, ?_⟩
  have hmC : PySem.W.mroIn K C (.ref C) = some true := by
    unfold PySem.W.mroIn
    rw [hcl, Option.bind_some, if_neg (show ¬ (List.isEmpty (Value.ref C :: bm) = true) from Bool.false_ne_true), List.contains_cons, beq_self_eq_true, Bool.true_or]
  have hmV : PySem.W.mroIn K C (.type "ValueError") = some true := by
    unfold PySem.W.mroIn
    rw [hcl, Option.bind_some, if_neg (show ¬ (List.isEmpty (Value.ref C :: bm) = true) from Bool.false_ne_true), List.contains_cons, PySem.HandSPX.refsVE_contains "ValueError" bm hbm, show PySem.HandSPX.veTail.contains (Value.type "ValueError") = true by decide +kernel, Bool.or_true]
  refine PySem.ks_wpAny_call_super (K0 _ _ hC) rfl hoe rfl (fun c z => nomatch z) (PySem.W.looks_mroIn K0 hmC) (fun h1 e1 k1 => ?_)
  have K1 := K0.keeps k1
  have IA : PySem.W.InstAt h1 e ({ cls := .ref C, dict := none, data := .fields #[.ref t1, .none, .none, .none, .bool false, .none] } : Obj) C none := ⟨k1 _ _ hoe, rfl, rfl, trivial⟩
  have hsi' : PySem.W.alongIn K "__init__" (((Value.ref C :: bm).dropWhile (· != .ref C)).drop 1) = some (some (.builtin "ValueError.__init__")) := by
    unfold PySem.W.ks_superIn at hsi
    rw [hcl] at hsi
    exact hsi
  refine PySem.W.kxs_getMethod PySem.W.kxs_ValueError e1 (PySem.W.looks_opaque K1 hop) (l₀ := .ref C :: bm) (fun A Q E s k q => wpAny_bind ((PySem.W.looks_clsIn K1 hcl) A _ E s k (wpAny_pure q))) rfl K1 hsi' (IA.type.andThen (PySem.W.looks_mroIn K1 hmV)) (PySem.W.ks_ne K1 IA hcl) (by decide) ?_
  have kp : ∀ b o, h1.get? b = some o → (h1.push (PySem.W.kxs_mw "ValueError.__init__" e)).get? b = some o := fun b o z => Heap.get?_push_of_some _ z
  rw [hx.st]
  refine PySem.W.kxs_callWith (i := "ValueError.__init__") (x := e) rfl (Calls.evalArgs_plain ?_)
  show wpAny _ _ (spliced [(false, eval (.Constant (.str tx) jj pc) (PySem.W.ksEnv qual sc s.heap.objs.size f (.ref cda) cc))]) _ _ _
  refine Calls.spliced_cons (Calls.Constant_str (Calls.spliced_nil ⟨Heap.get?_push_at rfl rfl, ?_⟩))
  refine call_mw (kp _ _ (K1 _ _ hC)) (t0 := t1) (kp _ _ (k1 _ _ hoe)) (Heap.get?_push_at rfl rfl) (by rw [sizeLine_eq]; show 1 ≤ 16777216; decide) (fun h2 t2 k2 hx2 => ?_)
  refine PySem.wpAt_of_wpAny ?_
  have J1 := I.kept (h' := h1.push (PySem.W.kxs_mw "ValueError.__init__" e)) (t' := 0) fun b o z => kp b o (k1 b o z)
  have J2 := J1.write (t' := s.toks + 4) (x := e) (e := e) (o := exo e C none) (by rw [he]; exact True.intro) (.inl rfl) k2 ⟨_, hx2⟩ (exo_ok hx2)
  have eu : upd H e (exo e C none) = H := by
    funext b
    by_cases hb : b = e
    · rw [hb, upd_same, he]
    · rw [upd_ne hb]
  rw [eu] at J2
  have oN : (["self", prm] : List Str)[0]? = some ("self" : Str) := rfl
  have ht : PSs (cxS CX P w K mg base prm (PySem.W.ksEnv qual sc s.heap.objs.size f (.ref cda) cc) A outer s H E) [.Assign [.Attribute (.Name "self" q1) fld q2] (.Name prm q3) q4] _ :=
    pss_one (ps_ost (pe_var (i := 0) rfl (Or.inl S.lself) (by decide) (by decide)) (pe_var (i := 1) rfl (Or.inl S.lprm) hnd hncd) (hx.sw2 _ _ _ _))
  refine wpAny_mono (ht.run [] _ _ H { nx := fun _ H' => Q .non H', rt := Q } J2 ⟨v, rfl, .ref e, rfl, e, C, rfl, T, hno, .inl ⟨he, fun dx hdx ne => kq dx hdx ne⟩⟩) (fun fl s' hs => ?_) fun e s' hs => hs
  cases fl with
  | ret u =>
    obtain ⟨v, σ', H', J, rv, q⟩ := hs
    exact ⟨v, H', J.os, J.bare, J.base, J.hok, rv, q⟩
  | next =>
    obtain ⟨σ', H', J, q⟩ := hs
    exact ⟨V.non, H', J.os, J.bare, J.base, J.hok, rfl, q⟩
  | brk =>
    obtain ⟨_, _, _, q⟩ := hs
    exact False.elim q
  | cont =>
    obtain ⟨_, _, _, q⟩ := hs
    exact False.elim q
end
end Gk
/-! Gk30: own exceptions as values: C(e), C(k = e). -/
namespace Gk
open PySem PySem.Spec PyProof.Rows L2
section
variable {M : Model} {prog : Program} {w : World} {A : Around} {E : Value → Shared → Prop} {R : Result → Shared → Prop} {h : Heap} {g : Array GenState} {d : _root_.PySem.Drawn} {t : Nat} {os : OsState}
variable {nm q : Str} {C N : Addr} {bs bm bmB : List Value} {hdct : Bool} {sn : List Str} {sub : List Value} {ab : Bool} {col : Option Bool} {dd : Option Addr} {k0 k1 k2 k3 k5 : Option Value} {B newId initId : String} {n : Str} {u : Value}
theorem check_new_kw (F : ExcBaseFacts B newId initId bmB) (hT : ∀ X : String, bm.contains (.type X) = bmB.contains (.type X)) {Q : Unit → Shared → Prop}
    (hC : h.get? C = some (excClassObj nm q C N bs bm hdct sn sub ab col dd k0 k1 k2 k3 k5 newId)) (hq : Q () ⟨h, g, d, t, os⟩) : wpAny M A (checkBuiltinCall newId ⟨[.ref C], [(n, u)]⟩) Q E ⟨h, g, d, t, os⟩ := by
  have hcont : (Value.ref C :: bm).contains (.type B) = true := by rw [List.contains_cons, hT, F.hasB, Bool.or_true]
  have hstar := F.noStar
  simp only [checkBuiltinCall, F.newKind, F.newSplit, F.newRow]
  repeat (first | refine wpAny_loadPart_at hC ?_ | (refine wpAny_isSubtype_exc hC ?_; rw [hcont]) | refine wpAny_staticBase_exc hC ?_ | refine wpAny_madeBy_exc hC ?_ | simp only [bne_self_eq_false, Bool.false_eq_true, if_false] | wp_step)
  exact hq
theorem new_kw (F : ExcBaseFacts B newId initId bmB) (hT : ∀ X : String, bm.contains (.type X) = bmB.contains (.type X))
    (hC : h.get? C = some (excClassObj nm q C N bs bm hdct sn sub ab col dd k0 k1 k2 k3 k5 newId))
    (hq : R (.ok (.ret (.ref (h.objs.size + 1)))) ⟨(h.push { cls := .type "tuple", data := .seq #[] }).push
      { cls := .ref C, data := .fields #[.ref h.objs.size, .none, .none, .none, .bool false, .none] }, g, d, t, os⟩) :
    codeAny (model prog w) A (.builtin newId ⟨[.ref C], [(n, u)]⟩) R ⟨h, g, d, t, os⟩ := by
  have hends := F.ends
  have hcB : (Value.ref C :: bm).contains (.type B) = true := by rw [List.contains_cons, hT, F.hasB, Bool.or_true]
  have hcA : (Value.ref C :: bm).contains (.type "AttributeError") = false := by rw [List.contains_cons, hT, F.noAttr]; rfl
  have hcN : (Value.ref C :: bm).contains (.type "NameError") = false := by rw [List.contains_cons, hT, F.noName]; rfl
  have hrest : ([] : List Value).length ≤ sizeLine := Nat.zero_le _
  refine codeAny_builtinAt F.entry ?_
  unfold Builtin.«BaseException.__new__»
  refine PySem.wpAt_bind ?_
  show PySem.wpAt _ _ _ (stack >>= _) _ _ _
  refine PySem.wpAt_bind (PySem.wpAt_stack fun p below => PySem.wpAt_of_wpAny ?_)
  wp_walk
  refine PySem.wpAt_of_wpAny ?_
  rw [F.owner]
  repeat (first | with_reducible refine HandSPX.wpAny_madeHere_exc F.canon hC ?_ | with_reducible refine wpAny_madeHere_exc F.canon hC ?_ | with_reducible refine wpAny_loadPart_at hC ?_ | (with_reducible refine wpAny_isSubtype_exc hC ?_; first | rw [hcB] | rw [hcA] | rw [hcN]) | wp_step)
  show R _ _
  rw [Heap.size_push]
  exact hq
theorem check_call_kw {Q : Unit → Shared → Prop} (hC : h.get? C = some (excClassObj nm q C N bs bm hdct sn sub ab col dd k0 k1 k2 k3 k5 newId))
    (hq : Q () ⟨h, g, d, t, os⟩) : wpAny M A (checkBuiltinCall "type.__call__" ⟨[.ref C], [(n, u)]⟩) Q E ⟨h, g, d, t, os⟩ := by
  have f3 := tc_sub
  have hT : (⟨h, g, d, t, os⟩ : Shared).TypeIs (.ref C) "type" := ⟨_, hC, rfl⟩
  simp only [checkBuiltinCall, tc_kind, tc_split]
  repeat (any_goals (first | assumption | with_reducible refine wpAny_loadPart_at hC ?_ | with_reducible refine wpAny_onRaise ?_ | with_reducible refine wpAny_map ?_ | wp_step))
theorem type_call_kw (F : ExcBaseFacts B newId initId bmB) (hT : ∀ X : String, bm.contains (.type X) = bmB.contains (.type X)) {fI : Addr} {Q : Fin → Shared → Prop}
    (hC : h.get? C = some (excClassObj nm q C N bs bm hdct sn sub ab col dd k0 k1 k2 k3 k5 newId))
    (hi : W.Looks (model prog w) h (typeLookup (.ref C) "__init__") (some (.ref fI))) (hb : ∀ self, W.Looks (model prog w) h (bindSpecial (.ref fI) self) (.ref fI, [self]))
    (hq : codeAny (model prog w) A (.call (.ref fI) ⟨[.ref (h.objs.size + 1)], [(n, u)]⟩)
      (fun r s' => match r with | .ok (.ret v) => v = .none ∧ Q (.done (.ret (.ref (h.objs.size + 1)))) s' | .ok _ => False | .error e => E e s')
      ⟨(h.push (W.kdv_tup [])).push (HandSPX.excO C h.objs.size), g, d, t, os⟩) :
    wpAny (model prog w) A (Builtin.«type.__call__» ⟨[.ref C], [(n, u)]⟩) Q E ⟨h, g, d, t, os⟩ := by
  repeat (first | with_reducible refine wpAny_loadPart_at hC ?_ | with_reducible refine wpAny_madeBy_exc hC ?_ | wp_step)
  refine codeAny_call_builtin_code (Code.quiet_builtin _ F.quiet) (check_new_kw F hT hC ?_)
  refine new_kw F hT hC ?_
  show wpAny _ _ _ _ _ _
  have k : ∀ b o, h.get? b = some o → ((h.push (W.kdv_tup [])).push (HandSPX.excO C h.objs.size)).get? b = some o := fun b o e => Heap.get?_push_of_some _ (Heap.get?_push_of_some _ e)
  have hC₁ := k _ _ hC
  have hget : ((h.push (W.kdv_tup [])).push (HandSPX.excO C h.objs.size)).get? (h.objs.size + 1) = some (HandSPX.excO C h.objs.size) := by heap_get
  have hcC : (Value.ref C :: bm).contains (.ref C) = true := by simp
  have i1 := hi.keeps k
  have b1 := (hb (.ref (h.objs.size + 1))).keeps k
  unfold isInstance
  repeat (first | with_reducible refine wpAny_loadPart_at hget ?_ | (with_reducible refine wpAny_isSubtype_exc hC₁ ?_; rw [hcC]) | wp_step)
  show wpAny _ _ (typeLookup (.ref C) _) _ _ _
  refine i1.at ?_
  refine wpAny_holding (wpAny_bind (b1.at ?_))
  refine wpAny_bind (wpAny_call (codeAny_mono hq fun r s' z => ?_))
  rcases r with e | (v | _ | _ | _) <;> first | exact z | exact z.elim | skip
  obtain ⟨rfl, z⟩ := z
  first
    | exact wpAny_pure (wpAny_pure z)
    | (wp_walk; exact z)
theorem call_kw (F : ExcBaseFacts B newId initId bmB) (hT : ∀ X : String, bm.contains (.type X) = bmB.contains (.type X)) {fI : Addr}
    (hC : h.get? C = some (excClassObj nm q C N bs bm hdct sn sub ab col dd k0 k1 k2 k3 k5 newId))
    (hi : W.Looks (model prog w) h (typeLookup (.ref C) "__init__") (some (.ref fI))) (hb : ∀ self, W.Looks (model prog w) h (bindSpecial (.ref fI) self) (.ref fI, [self]))
    (hq : codeAny (model prog w) (A.under (.builtin "type.__call__" ⟨[.ref C], [(n, u)]⟩)) (.call (.ref fI) ⟨[.ref (h.objs.size + 1)], [(n, u)]⟩) (W.InitBack (h.objs.size + 1) R)
      ⟨(h.push (W.kdv_tup [])).push (HandSPX.excO C h.objs.size), g, d, t, os⟩) :
    codeAny (model prog w) A (.call (.ref C) ⟨[], [(n, u)]⟩) R ⟨h, g, d, t, os⟩ := by
  have f1 := tc_lookup
  have f2 := tc_bind (.ref C)
  have hTy : (⟨h, g, d, t, os⟩ : Shared).TypeIs (.ref C) "type" := ⟨_, hC, rfl⟩
  refine codeAny_of_tree ?_
  show wpAny _ _ (callAny (.ref C) _) _ _ _
  repeat (any_goals (first | assumption | with_reducible refine wpAny_loadPart_at hC ?_ | wp_step))
  refine ⟨rfl, ?_⟩
  refine codeAny_call_builtin_at (Code.quiet_builtin _ (by decide +kernel)) _root_.PySem.entry_typeCall (check_call_kw hC (type_call_kw F hT hC hi hb ?_))
  refine codeAny_mono hq fun r s' z => ?_
  rcases r with e | (v | _ | _ | _) <;> exact z
end
/-- an exception class of the program's own and its __init__ -/
structure ErC (P : Program) (w : World) (K : PySem.W.Frag) (mg : Str → Option Value) (base : Heap) (k : Nat) (x : Str) (C : Addr) (prm fld : Str) : Prop where
  T : OexC K C
  gl : mg x = some (.ref C)
  ex : ∃ (fI : Addr) (fd : FuncData), PySem.W.findIn K (.ref C) "__init__" = some (some (.ref fI)) ∧ PySem.W.typeIn K (.ref fI) = some (.type "function") ∧ FnOk P w K mg base CX0 k fI fd ["self", prm] (spErr C fld) ∧
    (∀ s u v, BindsTo s fd ⟨[u, v], []⟩ [(("self" : Str), u), (prm, v)]) ∧ ∀ s u v, BindsTo s fd ⟨[u], [(prm, v)]⟩ [(("self" : Str), u), (prm, v)]
/-- C(e): the exception at a, its dict at d -/
def tMkV (C : Addr) (fld : Str) (te : TE) : TE := fun σ H Q => te σ H fun v H1 => ∀ H2 a d, Kp T0 H1 H2 → H1 a = none → H2 a = some (exo a C (some d)) → H2 d = some (exd d [(fld, v)]) → Q (.ref a) H2
section
variable {X : Cx} {C : Addr} {k : Nat} {x prm fld : Str} {p pos kpos : Pos} {e : Expr} {te : TE}
theorem run_exc {pins : List (Addr × Obj)} {σ : L2.St} {H1 : Hp} {s1 : Shared} {Q : VK} {v : V} {u : Value} {args : Args} (T : ErC X.prog X.w X.K X.mg X.base k x C prm fld) (hr : Room (k + 1) X.A) (I1 : Inv X pins σ H1 s1) (ru : RelV v u)
    (ha : args = ⟨[u], []⟩ ∨ args = ⟨[], [(prm, u)]⟩) (q : ∀ H2 a d, Kp T0 H1 H2 → H1 a = none → H2 a = some (exo a C (some d)) → H2 d = some (exd d [(fld, v)]) → Q (.ref a) H2) :
    wpAny (model X.prog X.w) X.A (call (.ref C) args.pos args.kw) (EP X pins σ Q) X.xe s1 := by
  obtain ⟨nm, qn, N, bs, bm, sn, sub, ab, col, dd, k0, k1, k2, k3, k5, hC, hbm⟩ := T.T.cls
  obtain ⟨fI, fd, iC, tI, F1, hb1, hb2⟩ := T.ex
  obtain ⟨hp, g, dr, tk, os⟩ := s1
  have hsz : hp.objs.size ≤ hp.objs.size + 1 := Nat.le_succ _
  have hn : H1 (hp.objs.size + 1) = none := I1.hok.fresh hsz
  have main : ∀ (ts : List Value), ∃ I2 : Inv X pins σ (upd H1 (hp.objs.size + 1) (exo (hp.objs.size + 1) C none)) ⟨(hp.push (PySem.W.kdv_tup ts)).push (PySem.HandSPX.excO C hp.objs.size), g, dr, tk, os⟩, True := fun ts => by
    have kk : ∀ b o, hp.get? b = some o → ((hp.push (PySem.W.kdv_tup ts)).push (PySem.HandSPX.excO C hp.objs.size)).get? b = some o := fun b o e => Heap.get?_push_of_some _ (Heap.get?_push_of_some _ e)
    have hget : ((hp.push (PySem.W.kdv_tup ts)).push (PySem.HandSPX.excO C hp.objs.size)).get? (hp.objs.size + 1) = some (PySem.HandSPX.excO C hp.objs.size) := by heap_get
    exact ⟨I1.laid (t' := tk) (a := hp.objs.size + 1) (o := exo (hp.objs.size + 1) C none) (h' := (hp.push (PySem.W.kdv_tup ts)).push (PySem.HandSPX.excO C hp.objs.size)) kk hsz (exo_ok hget), trivial⟩
  have sp : spErr C fld [.ref (hp.objs.size + 1), v] (upd H1 (hp.objs.size + 1) (exo (hp.objs.size + 1) C none)) (fun v2 H2 => v2 = .non ∧ Q (.ref (hp.objs.size + 1)) H2) E0 := by
    refine ⟨_, v, rfl, upd_same, fun d hd ne => ⟨rfl, q _ _ d ?_ hn upd_same (by rw [upd_ne ne]; exact upd_same)⟩⟩
    have hd1 : H1 d = none := by rw [upd_ne ne] at hd; exact hd
    exact (((Kp.refl (T := T0) H1).over hn).over hd1).over hn
  have r2 : Vals [V.ref (hp.objs.size + 1), v] [Value.ref (hp.objs.size + 1), u] := .cons rfl (.cons ru .nil)
  have fin : ∀ (ts : List Value) (I2 : Inv X pins σ (upd H1 (hp.objs.size + 1) (exo (hp.objs.size + 1) C none)) ⟨(hp.push (PySem.W.kdv_tup ts)).push (PySem.HandSPX.excO C hp.objs.size), g, dr, tk, os⟩) (r : Result) (s' : Shared),
      CR CX0 X.stack X.prog X.w (upd H1 (hp.objs.size + 1) (exo (hp.objs.size + 1) C none)) ⟨(hp.push (PySem.W.kdv_tup ts)).push (PySem.HandSPX.excO C hp.objs.size), g, dr, tk, os⟩ (fun v2 H2 => v2 = .non ∧ Q (.ref (hp.objs.size + 1)) H2) E0 r s' →
      PySem.W.InitBack (hp.objs.size + 1) (fun r s' => match r with | .ok (.ret v) => EP X pins σ Q v s' | .ok _ => False | .error e => X.xe e s') r s' := fun ts I2 r s' hq' => by
    cases r with
    | error er => exact pass0 pins σ _ _ er s' I2 hq'
    | ok fl =>
      cases fl with
      | ret u2 =>
        obtain ⟨v2, H', I3, rv, ev, q3⟩ := I2.after hq'
        subst ev
        exact ⟨rv, ⟨V.ref (hp.objs.size + 1), H', I3, rfl, q3⟩⟩
      | next => exact False.elim hq'
      | brk => exact False.elim hq'
      | cont => exact False.elim hq'
  rcases ha with rfl | rfl
  · obtain ⟨I2, _⟩ := main [u]
    refine wpAny_call (PySem.HandSPX.call_own F.excBase_ValueError (fun Y => PySem.HandSPX.refsVE_contains Y bm hbm) (I1.kIn _ _ hC) (PySem.W.looks_findIn I1.kIn iC) (fun self => PySem.W.bind_fn I1.kIn self tI) (by rw [sizeLine_eq]; show 1 ≤ 16777216; decide) ?_)
    refine codeAny_mono (F1.run _ X.stack _ _ ⟨[Value.ref (hp.objs.size + 1), u], []⟩ [Value.ref (hp.objs.size + 1), u] _ _ E0 (hr.make C [u] []) (I2.env0.make C [u] []) (hb1 _ _ _) r2 sp) fun r s' hq' => fin [u] I2 r s' hq'
  · obtain ⟨I2, _⟩ := main []
    refine wpAny_call (call_kw F.excBase_ValueError (fun Y => PySem.HandSPX.refsVE_contains Y bm hbm) (I1.kIn _ _ hC) (PySem.W.looks_findIn I1.kIn iC) (fun self => PySem.W.bind_fn I1.kIn self tI) ?_)
    refine codeAny_mono (F1.run _ X.stack _ _ ⟨[Value.ref (hp.objs.size + 1)], [(prm, u)]⟩ [Value.ref (hp.objs.size + 1), u] _ _ E0 (hr.make C [] [(prm, u)]) (I2.env0.make C [] [(prm, u)]) (hb2 _ _ _) r2 sp) fun r s' hq' => fin [] I2 r s' hq'
/-- one value -/
def One (Q : V → Hp → Prop) (vs : List V) (H : Hp) : Prop := match vs with
  | [v] => Q v H
  | _ => False
theorem one_of {Q : V → Hp → Prop} {vs : List V} {us : List Value} {H : Hp} (r : Vals vs us) (h : One Q vs H) : ∃ v u, vs = [v] ∧ us = [u] ∧ RelV v u ∧ Q v H := by
  match vs, us, r, h with
  | [], _, _, h => exact False.elim h
  | _ :: _ :: _, _, _, h => exact False.elim h
  | [v], _, r, h =>
    cases r with
    | cons ru rn =>
      cases rn
      exact ⟨v, _, rfl, rfl, ru, h⟩
theorem pe_exc (T : ErC X.prog X.w X.K X.mg X.base k x C prm fld) (hr : Room (k + 1) X.A) (hg : Gl X x) (he : PE X e te) (hdb : (x == ("__debug__" : Str)) = false := by decide)
    (hst : starEach [e] X.env = (false, eval e X.env) :: starEach [] X.env := by rfl) (hpl : (backTo pos (starEach [] X.env)).any (·.1) = false := by rfl) : PE X (.Call (.Name x p) [e] [] pos) (tMkV C fld te) := by
  refine ⟨fun pins s σ H Q I h => ?_⟩
  refine wpAny_Call_Name_kw (ld_glob I hg T.gl ?_ hdb)
  refine PySem.W.callWith_K (h₀ := X.base) I.ok.mod.kin T.T.kC (thn ((pa_cons he pa_nil (hs := hst)).run pos pins s σ H (One fun v H1 => ∀ H2 a d, Kp T0 H1 H2 → H1 a = none → H2 a = some (exo a C (some d)) → H2 d = some (exd d [(fld, v)]) → Q (.ref a) H2) I h) fun us s1 ⟨vs, H1, I1, r1, q1⟩ => ⟨I1.kIn, ?_⟩) hst hpl
  obtain ⟨v, u, rfl, rfl, ru, q⟩ := one_of r1 q1
  exact run_exc T hr I1 ru (.inl rfl) q
theorem pe_excK (T : ErC X.prog X.w X.K X.mg X.base k x C prm fld) (hr : Room (k + 1) X.A) (hg : Gl X x) (he : PE X e te) (hdb : (x == ("__debug__" : Str)) = false := by decide)
    (hall : (backToKw pos (keywordEach [⟨some prm, e, kpos⟩] X.env)).all (·.1.isSome) = true := by rfl) (hks : (backToKw pos (keywordEach [⟨some prm, e, kpos⟩] X.env)).filterMap (·.1) = [prm] := by rfl)
    (hpl : ((backTo pos (starEach [] X.env)).any (·.1) || (backToKw pos (keywordEach [⟨some prm, e, kpos⟩] X.env)).any (·.1.isNone)) = false := by rfl) : PE X (.Call (.Name x p) [] [⟨some prm, e, kpos⟩] pos) (tMkV C fld te) := by
  refine ⟨fun pins s σ H Q I h => ?_⟩
  refine wpAny_Call_Name_kw (ld_glob I hg T.gl ?_ hdb)
  refine PySem.W.callWith_KW0 (first := []) (h₀ := X.base) I.ok.mod.kin T.T.kC hall ?_ hpl
  refine thn ((pk_cons he pk_nil).run pos pins s σ H (One fun v H1 => ∀ H2 a d, Kp T0 H1 H2 → H1 a = none → H2 a = some (exo a C (some d)) → H2 d = some (exd d [(fld, v)]) → Q (.ref a) H2) I h) fun us s1 ⟨vs, H1, I1, r1, q1⟩ => ⟨I1.kIn, ?_⟩
  obtain ⟨v, u, rfl, rfl, ru, q⟩ := one_of r1 q1
  rw [hks]
  exact run_exc T hr I1 ru (.inr rfl) q
/-- o.f of an exception that is a value -/
def tExf (K : PySem.W.Frag) (n : Str) (te : TE) : TE := fun σ H Q => te σ H fun x H1 => ∃ (a C d : Addr) (fs : List (Str × V)) (v : V), x = .ref a ∧ H1 a = some (exo a C (some d)) ∧ H1 d = some (exd d fs) ∧ fs.lookup n = some v ∧ XfC K C ∧ PySem.W.findIn K (.ref C) n = some none ∧ Q v H1
theorem pe_exf {n : Str} (he : PE X e te) (hb : attributeBase e n X.env (eval e X.env) = eval e X.env := by rfl) : PE X (.Attribute e n pos) (tExf X.K n te) := by
  refine ⟨fun pins s σ H Q I h => ?_⟩
  refine attr_of hb (thn (he.run pins s σ H _ I h) fun u s1 hh => ?_)
  obtain ⟨x, H1, I1, rx, a, C, d, fs, v, ex, ea, ed, l, T, hno, q⟩ := hh
  subst ex
  obtain rfl : u = Value.ref a := rx
  obtain ⟨t1, ha⟩ := exo_at I1.hok ea
  obtain ⟨mA, hns, hr⟩ := exd_at I1.hok ed
  obtain ⟨od, ho, hl⟩ := lookIn_ns hns
  obtain ⟨u, hu, ru⟩ := RelO.some_of (v := v) (o := mA n) (by rw [← l]; exact hr n)
  have J : PySem.W.InstAt s1.heap a ({ cls := .ref C, dict := some d, data := .fields #[.ref t1, .none, .none, .none, .bool false, .none] } : Obj) C (some od) := ⟨ha, rfl, rfl, ho⟩
  exact HandSPX.exc_get I1.kIn J T.ga T.gg T.exC (PySem.W.findObj_own T.hdC hno rfl (by rw [hl, hu])) (handed_of ru) ⟨v, H1, I1.tok _, ru, q⟩
/-- what isinstance asks of an own exception class -/
structure IsC (K : PySem.W.Frag) (C : Addr) : Prop where
  xf : XfC K C
  ca : PySem.W.findIn K (.ref C) "__class__" = some (some (.builtin "object.__class__"))
  cn : PySem.W.specialIn K (.builtin "object.__class__") "__get__" = some (some (.builtin "getset_descriptor.__get__"))
  ct : PySem.W.takesIn K (.builtin "object.__class__") = some true
  cm : PySem.W.mroIn K C (.type "object") = some true
/-- isinstance(e, c) of an exception that is a value -/
def rIsX (K : PySem.W.Frag) : List V → Hp → VK → Prop := fun xs H Q => ∃ (a C d : Addr) (fs : List (Str × V)) (c : V) (u : Value) (b : Bool), xs = [.ref a, c] ∧ ClsV c u ∧ H a = some (exo a C (some d)) ∧ H d = some (exd d fs) ∧ OexC K C ∧ IsC K C ∧ PySem.W.kitOne K (.ref C) u = some b ∧ Q (.bl b) H
theorem call_isX : CallR X (.builtin "isinstance") (rIsX X.K) := by
  intro pins s σ H xs us Q I r h
  obtain ⟨a, C, d, fs, c, u, b, rfl, k, ea, ed, T, Z, e, q⟩ := h
  obtain ⟨u1, u2, rfl, r1, r2⟩ := vals2 r
  obtain rfl := k.eq r2
  obtain rfl : u1 = Value.ref a := r1
  obtain ⟨t1, ha⟩ := exo_at I.hok ea
  obtain ⟨mA, hns, hr⟩ := exd_at I.hok ed
  obtain ⟨od, ho, hl⟩ := lookIn_ns hns
  have J : PySem.W.InstAt s.heap a ({ cls := .ref C, dict := some d, data := .fields #[.ref t1, .none, .none, .none, .bool false, .none] } : Obj) C (some od) := ⟨ha, rfl, rfl, ho⟩
  have hcl : (PySem.W.clsIn X.K C).isSome = true := by
    obtain ⟨nm, q, N, bs, bm, sn, sub, ab, col, dd, k0, k1, k2, k3, k5, hC, hbm⟩ := T.cls
    unfold PySem.W.clsIn
    rw [hC]
    rfl
  exact PySem.W.kia_one (PySem.W.kitx_exc hcl Z.xf.ga Z.xf.gg Z.xf.exC Z.ca Z.cn Z.ct Z.cm) I.kIn J e (fun z => nomatch z) fun tk => ⟨.bl b, H, I.tok tk, rfl, q⟩
end
end Gk
/-! Gk37: raise C(e), C's __init__ its own: the exception's context is None. -/
namespace Gk
open PySem PySem.Spec PyProof.Rows L2
theorem pmk_oexN {X : Cx} {x : Str} {e : Expr} {es : List Expr} {ta : TA} {p pos : Pos} {C fI : Addr} {k : Nat} {fd : FuncData} {ps : List Str} {sp : Sp} (T : OexC X.K C) (iC : PySem.W.findIn X.K (.ref C) "__init__" = some (some (.ref fI))) (tI : PySem.W.typeIn X.K (.ref fI) = some (.type "function"))
    (F1 : FnOk X.prog X.w X.K X.mg X.base CX0 k fI fd ps sp) (hr : Room (k + 1) X.A) (hb : Binds X.K fd ps []) (hg : Gl X x) (hm : X.mg x = some (.ref C)) (ha : PA X (e :: es) ta)
    (hdb : (x == ("__debug__" : Str)) = false := by decide) (he : starEach (e :: es) X.env = (false, eval e X.env) :: starEach es X.env := by rfl) (hpl : (backTo pos (starEach es X.env)).any (·.1) = false := by rfl) :
    L2N.PMk X (.Call (.Name x p) (e :: es) [] pos) (tMkO C sp [] ta) := by
  intro pins s σ H Q I h
  obtain ⟨nm, q, N, bs, bm, sn, sub, ab, col, dd, k0, k1, k2, k3, k5, hC, hbm⟩ := T.cls
  refine wpAny_Call_Name_kw (ld_glob I hg hm ?_ hdb)
  refine PySem.W.callWith_K (h₀ := X.base) I.ok.mod.kin T.kC (thn (ha.run pos pins s σ H _ I h) fun us s1 q1 => ?_) he hpl
  obtain ⟨vs, H1, I1, r1, small, want⟩ := q1
  refine ⟨I1.kIn, ?_⟩
  show wpAny _ _ (call (.ref C) us) _ _ _
  obtain ⟨hp, g, dr, tk, os⟩ := s1
  -- the object's place
  have le : hp.objs.size ≤ hp.objs.size + 1 := Nat.le_succ _
  have hn : H1 (hp.objs.size + 1) = none := I1.hok.fresh le
  have hq := want _ hn
  have keep : ∀ b o, hp.get? b = some o → ((hp.push (PySem.W.kdv_tup us)).push (PySem.HandSPX.excO C hp.objs.size)).get? b = some o := fun b o z => Heap.get?_push_of_some _ (Heap.get?_push_of_some _ z)
  have at1 : ((hp.push (PySem.W.kdv_tup us)).push (PySem.HandSPX.excO C hp.objs.size)).get? (hp.objs.size + 1) = some (PySem.HandSPX.excO C hp.objs.size) := by heap_get
  have I2 : Inv X pins σ (upd H1 (hp.objs.size + 1) (exo (hp.objs.size + 1) C none)) ⟨(hp.push (PySem.W.kdv_tup us)).push (PySem.HandSPX.excO C hp.objs.size), g, dr, tk, os⟩ :=
    I1.laid (t' := tk) (o := exo (hp.objs.size + 1) C none) keep le (exo_ok at1)
  have r2 : Vals (V.ref (hp.objs.size + 1) :: (vs ++ [])) (Value.ref (hp.objs.size + 1) :: (us ++ [])) := .cons rfl (r1.append .nil)
  have ll : (Value.ref (hp.objs.size + 1) :: (us ++ [])).length = ps.length := r2.length ▸ F1.len _ _ _ _ hq
  have lus : us.length ≤ sizeLine := by
    have := Paired.length r1
    rw [sizeLine_eq]
    omega
  have go := F1.run _ X.stack _ _ ⟨Value.ref (hp.objs.size + 1) :: us, []⟩ _ _ _ (fun _ _ _ => False) (hr.make C us []) (I2.env0.make C us []) (hb _ (Value.ref (hp.objs.size + 1) :: us) I2.kIn ll) r2 hq
  refine wpAny_call (PySem.HandSPX.call_own F.excBase_ValueError (fun Y => PySem.HandSPX.refsVE_contains Y bm hbm) (I1.kIn _ _ hC) (PySem.W.looks_findIn I1.kIn iC) (fun self => PySem.W.bind_fn I1.kIn self tI) lus (codeAny_mono go fun r s' hq' => ?_))
  match r, hq' with
  | .ok (.ret u), hq' =>
    obtain ⟨v, H2, os2, bare2, un2, hok2, rv, rfl, d, fs, ea, ed, hd1, q2⟩ := hq'
    obtain ⟨h2, g2, d2, t2, os'⟩ := s'
    obtain ⟨t0, G, J, kG, ge, hoe, na⟩ := mk_end0 (d2 := d2) (t2 := t2) I1 le keep un2 hok2 os2 bare2 ea ed hd1
    refine ⟨rv, hp.objs.size + 1, _, _, ⟨G, g2, d2, t2, os'⟩, _, .ref C, some d, rfl, J, kG, ge, hoe, ⟨rfl, rfl, fun zs hz => ?_⟩, rfl, rfl, na, rfl, bare2, raises_own T.exC T.tyC, q2⟩
    cases hz
    rfl
  | .ok .next, hq' => exact False.elim hq'
  | .ok .brk, hq' => exact False.elim hq'
  | .ok .cont, hq' => exact False.elim hq'
  | .error e, hq' => exact False.elim hq'
end Gk
/-! Gk49: d.get(k, x) whose k may be None; fields and mates, plain; promises of a schema's methods. -/
namespace Gk
open PySem PySem.Spec PyProof.Rows L2
/-- d.get(y, z), y may be None -/
def tDGet2N (td ty tx : TE) : TE := fun st H Q => td st H fun x H1 => ∃ a, x = .ref a ∧ IsD H1 a ∧ ty st H1 fun y H2 => tx st H2 fun z H3 => (∃ o, DGet H3 a y o ∧ Q (o.getD z) H3) ∨ (y = .non ∧ (∃ kvs, Rd H3 a (.dK kvs)) ∧ Q z H3)
section
variable {X : Cx} {o e f : Expr} {apos cpos : Pos} {td ty tx : TE}
theorem pe_dget2N (hu : X.A.units + 1 < cLine) (ho : PE X o td) (he : PE X e ty) (hf : PE X f tx) (m : M2 X o "get" apos e f cpos) : PE X (.Call (.Attribute o "get" apos) [e, f] [] cpos) (tDGet2N td ty tx) := by
  refine ⟨fun pins s st H Q I h => ?_⟩
  refine wpAny_Call_method m.base m.few m.line PySem.F.plainAttrs_dict PySem.F.slot_dict_get PySem.F.type_dict_get (thn (ho.run pins s st H _ I h) fun u s1 ⟨x, H1, I1, rx, a, ex, d, q1⟩ => ?_)
  subst ex
  obtain rfl : u = Value.ref a := rx
  obtain ⟨t1, t2, _⟩ := isD_at I1 d
  refine ⟨t1, t2, ?_⟩
  rw [m.trees]
  refine Calls.callWith_builtin rfl (Calls.evalArgs_plain (Calls.spliced_cons (thn (he.run pins s1 st H1 _ I1 q1) fun iv s2 ⟨y, H2, I2, ry, q2⟩ =>
    Calls.spliced_cons (thn (hf.run pins s2 st H2 _ I2 q2) fun fv s3 ⟨z, H3, I3, rz, q3⟩ => Calls.spliced_nil ?_))))
  rcases q3 with ⟨ov, g, q3⟩ | ⟨rfl, ⟨kvs, rd⟩, q3⟩
  · exact d_get2 hu I3 g ry rz fun w2 s4 I4 rw2 => ⟨_, H3, I4, rw2, q3⟩
  · cases ry
    obtain ⟨_, hd, vs, _, dd⟩ := dk_rd I3.hok rd
    obtain ⟨fm, hm, hf⟩ := none_map dd
    refine call_meetsIn PySem.F.slot_dict_get dd.typeIs PySem.F.entry_dict_get (PySem.F.args_dict_get_3 _ _ _) (meets_dict_get_default (noneKind X.prog X.w) (k := none) a rfl hd fv) ⟨_, hm, ?_⟩
    rw [hf]
    exact ⟨_, H3, I3.tok _, rz, q3⟩
end
theorem at_last (xs : List V) (v : V) : L2.atI (xs ++ [v]) (-1) = some v := by
  have e : L2.ixN (xs ++ [v]).length (-1) = some xs.length := by
    unfold L2.ixN
    rw [List.length_append, List.length_singleton, if_neg (by decide), if_pos (by omega)]
    congr 1
    omega
  unfold L2.atI
  rw [e]
  show (xs ++ [v])[xs.length]? = some v
  simp
theorem cut_ini2 (xs : List V) (v : V) : cutV (xs ++ [v]) none (some (-1)) = xs := by
  have e : HT.sIx (xs ++ [v]).length (xs ++ [v]).length (some (-1)) = xs.length := by
    unfold HT.sIx
    rw [List.length_append, List.length_singleton]
    show (if (-1 : Int) < 0 then ((-1 : Int) + ((xs.length + 1 : Nat) : Int)).toNat else _) = _
    rw [if_pos (by decide)]
    omega
  unfold cutV
  rw [e, HT.sIx_none, List.drop_zero, Nat.sub_zero]
  exact List.take_left
theorem cut_init_part (xs : List V) (v : V) : ¬ (HT.sIx (xs ++ [v]).length 0 none = 0 ∧ HT.sIx (xs ++ [v]).length (xs ++ [v]).length (some (-1)) = (xs ++ [v]).length) := by
  intro z
  have e : HT.sIx (xs ++ [v]).length (xs ++ [v]).length (some (-1)) = xs.length := by
    unfold HT.sIx
    rw [List.length_append, List.length_singleton]
    show (if (-1 : Int) < 0 then ((-1 : Int) + ((xs.length + 1 : Nat) : Int)).toNat else _) = _
    rw [if_pos (by decide)]
    omega
  have h := z.2
  rw [e, List.length_append, List.length_singleton] at h
  omega
theorem inV_strs (l : Str) (c : Pth) : L2.inV (.str l) (c.map V.str) = decide (l ∈ c) := by
  unfold L2.inV
  rw [List.any_map]
  induction c with
  | nil => rfl
  | cons x c ih =>
    rw [List.any_cons, ih]
    show (decide (x = l) || decide (l ∈ c)) = decide (l ∈ x :: c)
    by_cases e : x = l
    · subst e
      simp
    · have e2 : ¬ l = x := fun z => e z.symm
      simp [e, e2, List.mem_cons]
theorem flat_strs2 (c : Pth) : (c.map V.str).all L2.flatV = true := by
  rw [List.all_map]
  exact List.all_eq_true.mpr fun _ _ => rfl
/-! ### plain -/
/-- the message at a path -/
def msgAt (ms : Msgs) (o : Option Pth) : Option Str := match o with
  | some [] => some "top"
  | some p => (kindAt ms p).bind msgOf
  | none => none
def mateRows (ks : Cho) (nm : Option Str) : List Pth := match nm with
  | some n => rowsOf ks n
  | none => []
def matesOf (rows : List Pth) (q : Pth) (l : Str) : List Pth := (rows.filter fun c => decide (l ∈ c)).flatMap fun c => (c.filter fun f => decide (f ≠ l)).map fun f => q ++ [f]
def StrV (o : Option Str) : V := match o with
  | some x => .str x
  | none => .non
/-! ### promises -/
def spMsgIn (K : PySem.W.Frag) : Sp := fun vs H Q _ => ∃ (f v : V) (ms : Msgs) (ks : Cho) (o : Option Pth), vs = [f, v] ∧ IsFm H f ms ks ∧ Sch ms ∧ PV K H v o ∧ ∀ H2, Kp T0 H H2 → Q (StrV (msgAt ms o)) H2
def spFieldsIn (K : PySem.W.Frag) : Sp := fun vs H Q _ => ∃ (f v : V) (ms : Msgs) (ks : Cho) (o : Option Pth) (x : Str), vs = [f, v] ∧ IsFm H f ms ks ∧ Sch ms ∧ PV K H v o ∧ msgAt ms o = some x ∧
  ∀ H2 l ys, Kp T0 H H2 → H l = none → H2 l = some (.lst (ys.map V.str)) → ys.Perm ((fldsOf ms x).map (·.1)) → sortedS ys = true → Q (.ref l) H2
/-- rows of choices that are not overlong -/
def KsOk (ks : Cho) : Prop := ∀ c ∈ ks, c.2.length < 64 ∧ ∀ p ∈ c.2, RowOk p
def spMatesIn (K : PySem.W.Frag) : Sp := fun vs H Q _ => ∃ (f v : V) (ms : Msgs) (ks : Cho) (q : Pth) (l : Str), vs = [f, v] ∧ IsFm H f ms ks ∧ Sch ms ∧ KsOk ks ∧ IsP H v (q ++ [l]) ∧ OkN (q ++ [l]) ∧ q.length < 1000 ∧
  ∀ H2 r ys, Kp T0 H H2 → H r = none → H2 r = some (.lst ys) → Ps H2 ys (matesOf (mateRows ks (msgAt ms (some q))) q l) → Q (.ref r) H2
end Gk
/-! Gk50: methods that may raise, called in a def or in a try; what a schema's methods promise. -/
namespace Gk
open PySem PySem.Spec PyProof.Rows L2
/-- a method that may raise -/
structure DmX (P : Program) (w : World) (K : PySem.W.Frag) (mg : Str → Option Value) (base : Heap) (C : Addr) (k : Nat) (m : Str) (f : Addr) (ps : List Str) (sp : Sp) : Prop where
  ex : ∃ fd, FnOk P w K mg base (L2N.CX P w) k f fd ps sp ∧ Binds K fd ps []
  me : Meth K C m f
def tMethS (C : Addr) (m : Str) (sp : Sp) (E : L2.St → XK) (ta : TE) (t : TA) : TE := fun st H Q => ta st H fun x H1 => ∃ a dx fs, x = .ref a ∧ H1 a = some (.ins C dx fs) ∧ fs.lookup m = none ∧ t st H1 fun vs H2 => sp (x :: vs) H2 Q (E st)
section
variable {X : Cx} {C f : Addr} {k : Nat} {m : Str} {ps : List Str} {sp : Sp} {E : L2.St → XK} {o e : Expr} {es : List Expr} {apos pos : Pos} {ta : TE} {t : TA}
theorem pe_dmX {pl : Sem Bool} (ho : PE X o ta) (c : Cls X.K C) (D : DmX X.prog X.w X.K X.mg X.base C k m f ps sp) (hr : Room k X.A) (hx : ∀ st, PassesAt (L2N.CX X.prog X.w) X st (E st)) (ha : PA X (e :: es) t)
    (hst : starEach (e :: es) X.env = (false, eval e X.env) :: starEach es X.env := by rfl) (hpl : (backTo pos (starEach es X.env)).any (·.1) = false := by rfl)
    (ht : eval (.Call (.Attribute o m apos) (e :: es) [] pos) X.env = (do
      let ov ← eval o X.env
      standAt apos.atName
      let (fv, first) ← holding [ov] (getMethod ov m pl)
      callWith pos fv first (backTo pos (starEach (e :: es) X.env)) (backToKw pos (keywordEach [] X.env))) := by rfl) :
    PE X (.Call (.Attribute o m apos) (e :: es) [] pos) (tMethS C m sp E ta t) := by
  obtain ⟨fd, F, b⟩ := D.ex
  refine ⟨fun pins s st H Q I h => ?_⟩
  refine PySem.W.methodCall_KW (pl := pl) (thn (ho.run pins s st H _ I h) fun u s1 ⟨x, H1, I1, rx, a, dx, fs, ex, ea, l, q⟩ => ?_) ht
  subst ex
  obtain rfl : u = Value.ref a := rx
  refine getmeth_ok I1 ea c D.me l ?_
  refine PySem.W.callWith_K (first := [.ref a]) (h₀ := X.base) I.ok.mod.kin D.me.kp (thn (ha.run pos pins s1 st H1 _ I1 q) fun us s2 ⟨vs, H2, I2, r, q2⟩ => ⟨I2.kIn, ?_⟩) hst hpl
  exact run_fnS (us := .ref a :: us) (vs := .ref a :: vs) F hr b (hx st) I2 (.cons rfl r) q2
end
/-- THE RULE for a def that lets exceptions out -/
theorem fun_okN {P : Program} {w : World} {K : PySem.W.Frag} {mg : Str → Option Value} {base : Heap} {x qual : Str} {st : Stmt} {f : Addr} {fd : FuncData} {N ps : List Str} {k : Nat} {sp : Sp} (F : Fun K x qual st f fd) (S : FnScope N ps (defScope st)) (len : ∀ vs H Q E, sp vs H Q E → vs.length = ps.length)
    (body : ∀ (cdv : Value) (A : Around) (outer : List Env) (s : Shared) (H : Hp) (vs : List V) (Q : VK) (E : XK), Room k (A.deeper (envOfC qual (defScope st) s.heap.objs.size f cdv)) → sp vs H Q E →
      ∃ t, PSs (cxOf (L2N.CX P w) P w K mg base N qual (defScope st) f cdv A outer s H E) (defBody st) t ∧ t { nx := fun _ H2 => Q .non H2, rt := Q } (start N vs) H) : FnOk P w K mg base (L2N.CX P w) (k + 1) f fd ps sp := by
  obtain ⟨oc, od, kV, doc, pm, an, cdv, ct, osl, rfl, lk, hcd⟩ := F.ex
  exact fn_of lk hcd S len fun A outer s H vs Q E hr hsp => body cdv A outer s H vs Q E hr hsp
/-! ### a schema's methods -/
/-- BadPath with the very value -/
def Bad (CB : Addr) (v : V) (H : Hp) (E : XK) : Prop := ∀ H2 d, Kp T0 H H2 → H2 d = some (.xd [("value", v)]) → E (.ref CB) (some d) H2
theorem kp_raise2 {H3 : Hp} {a d : Addr} {fs : List (Str × V)} {o1 o2 o3 : HO} (ha : H3 a = none) (hd : upd H3 a o1 d = none) (ne : d ≠ a) : Kp T0 H3 (upd (del (upd (upd (upd H3 a o1) d o2) a o3) a) d (.xd fs)) := by
  intro b o _ e
  have ba : b ≠ a := ne_of_none e ha
  have hd1 : H3 d = none := by rw [upd_ne ne] at hd; exact hd
  have bd : b ≠ d := ne_of_none e hd1
  rw [upd_ne bd, del_ne ba, upd_ne ba, upd_ne bd, upd_ne ba]
  exact e
def spNeed (K : PySem.W.Frag) (C CB : Addr) : Sp := fun vs H Q E => ∃ (s v : V) (ms : Msgs) (ks : Cho) (o : Option Pth), vs = [s, v] ∧ IsS C H s ms ks ∧ Sch ms ∧ PV K H v o ∧
  ((o.bind (kindAt ms)).isSome = true → ∀ H2, Kp T0 H H2 → Q .non H2) ∧ (o.bind (kindAt ms) = none → Bad CB v H E)
def spKindAt (K : PySem.W.Frag) (C CB : Addr) : Sp := fun vs H Q E => ∃ (s v : V) (ms : Msgs) (ks : Cho) (o : Option Pth), vs = [s, v] ∧ IsS C H s ms ks ∧ Sch ms ∧ PV K H v o ∧
  (∀ k, o.bind (kindAt ms) = some k → ∀ H2 r, Kp T0 H H2 → IsP H2 r k → Q r H2) ∧ (o.bind (kindAt ms) = none → Bad CB v H E)
def spIsPath (K : PySem.W.Frag) (C : Addr) : Sp := fun vs H Q _ => ∃ (s v : V) (ms : Msgs) (ks : Cho) (o : Option Pth), vs = [s, v] ∧ IsS C H s ms ks ∧ Sch ms ∧ PV K H v o ∧ ∀ H2, Kp T0 H H2 → Q (.bl (o.bind (kindAt ms)).isSome) H2
def spFields (K : PySem.W.Frag) (C CB : Addr) : Sp := fun vs H Q E => ∃ (s v : V) (ms : Msgs) (ks : Cho) (o : Option Pth), vs = [s, v] ∧ IsS C H s ms ks ∧ Sch ms ∧ PV K H v o ∧
  (∀ x, msgAt ms o = some x → ∀ H2 l ys, Kp T0 H H2 → H l = none → H2 l = some (.lst (ys.map V.str)) → ys.Perm ((fldsOf ms x).map (·.1)) → sortedS ys = true → Q (.ref l) H2) ∧ (msgAt ms o = none → Bad CB v H E)
def spMates (K : PySem.W.Frag) (C CB : Addr) : Sp := fun vs H Q E => ∃ (s v : V) (ms : Msgs) (ks : Cho) (o : Option Pth), vs = [s, v] ∧ IsS C H s ms ks ∧ Sch ms ∧ KsOk ks ∧ PV K H v o ∧ (∀ p, o = some p → p.length < 1000) ∧
  (∀ p l, o = some (p ++ [l]) → (kindAt ms (p ++ [l])).isSome = true → ∀ H2 r ys, Kp T0 H H2 → H r = none → H2 r = some (.lst ys) → Ps H2 ys (matesOf (mateRows ks (msgAt ms (some p))) p l) → Q (.ref r) H2) ∧ (o.bind (kindAt ms) = none → Bad CB v H E)
end Gk
namespace Lw
open PySem L2 Gk
abbrev sMsgIn : Stmt := topS 28
abbrev sFieldsIn : Stmt := topS 29
abbrev sMatesIn : Stmt := topS 30
theorem walk_ok {ms : Msgs} (S : Sch ms) : ∀ {p : Pth} {k k2 : Gk.Kind}, KindOk ms k → walkP ms k p = some k2 → KindOk ms k2
  | [], _, _, h, e => by
    cases Option.some.inj e
    exact h
  | n :: p, k, k2, h, e => by
    have e : (match stepP ms k n with
      | some k2 => walkP ms k2 p
      | none => none) = some k2 := e
    cases e2 : stepP ms k n with
    | none =>
      rw [e2] at e
      cases e
    | some k3 =>
      rw [e2] at e
      exact walk_ok S (step_ok S h e2) e
theorem top_ok {ms : Msgs} (S : Sch ms) : KindOk ms topK := ⟨by decide, fun x hx => by
  have e : x = "top" := (Option.some.inj hx).symm
  rw [e]
  exact S.top⟩
theorem kindAt_ok {ms : Msgs} (S : Sch ms) {p : Pth} {k : Gk.Kind} (h : kindAt ms p = some k) : KindOk ms k := by
  unfold kindAt at h
  by_cases c : p = []
  · rw [if_pos c] at h
    cases h
  · rw [if_neg c] at h
    exact walk_ok S (top_ok S) h
theorem msgAt_in {ms : Msgs} (S : Sch ms) {o : Option Pth} {x : Str} (h : msgAt ms o = some x) : (ms.lookup x).isSome = true := by
  unfold msgAt at h
  split at h
  · cases Option.some.inj h
    exact S.top
  · rename_i p _
    cases e : kindAt ms p with
    | none =>
      rw [e] at h
      cases h
    | some k =>
      rw [e] at h
      exact (kindAt_ok S e).2 x h
  · cases h
theorem rd_eqE {K : PySem.W.Frag} {H : Hp} {v : V} {o : Option Pth} {e0 : Addr} {Q : VK} (h : PV K H v o) (h0 : H e0 = some (.tup [])) (k : Q (.bl (decide (o = some []))) H) : rEqE K v (.ref e0) H Q := by
  refine ⟨e0, rfl, h0, ?_⟩
  rcases h with ⟨p, rfl, ⟨a, rfl, ha⟩, _, _⟩ | ⟨rfl, ⟨a, xs, rs, rfl, ha, pr, _, no⟩ | h⟩
  · refine .inl ⟨a, _, rfl, ha, ?_⟩
    have e : decide (some p = some []) = (p.map V.str).isEmpty := by
      cases p with
      | nil => rfl
      | cons x p => simp
    rw [← e]
    exact k
  · refine .inl ⟨a, _, rfl, ha, ?_⟩
    have e : decide ((none : Option Pth) = some []) = xs.isEmpty := by
      cases pr with
      | nil => cases no
      | cons _ _ => rfl
    rw [← e]
    exact k
  · exact .inr ⟨h, k⟩
section
variable {P : Program} {w : World} {K : PySem.W.Frag} {mg : Str → Option Value} {base : Heap}
theorem scMsgIn : FnScope ["forms", "path", "kind"] ["forms", "path"] (defScope sMsgIn) := ⟨rfl, rfl, rfl, by decide +kernel, rfl, by decide +kernel, by decide +kernel⟩
theorem ok_msgIn {f fK : Addr} {fd : FuncData} (F : Fun K "message_in" "message_in" sMsgIn f fd) (DK : Df P w K mg base 3 fK "kind_in" ["forms", "path"] (spKindIn K)) : FnOk P w K mg base CX0 4 f fd ["forms", "path"] (spMsgIn K) := by
  refine F.ok scMsgIn (fun vs H Q E h => ?_) (fun cdv A outer s H vs Q E hr h => ?_)
  · obtain ⟨_, _, _, _, _, rfl, _⟩ := h
    rfl
  · obtain ⟨fv, v, ms, ks, o, rfl, fm, S, pv_, q⟩ := h
    have hu0 : _ < cLine := Nat.lt_of_le_of_lt (Nat.le_add_right _ _) (hu_of hr)
    refine ⟨_, pss_cons (ps_if (pt_cmpR (op_eqE hu0) (pv 1) (pe_tup pa_nil) (nomark _)) (pss_one (ps_ret pe_str)) pss_nil)
      (pss_cons (ps_set (i := 2) scMsgIn.nd rfl (Or.inl rfl) (pe_df DK hr (by rfl) (pa_cons (pv 0) (pa_cons (pv 1) pa_nil))))
      (pss_one (ps_ret (pe_ifExp (PW.pt (pw_and (pt_cmpR op_notN (pv 2) pe_non (nomark _)) (pw_and1 (pt_cmpR op_eq (pe_ix (r := rIx K) ix_seq (pv 2) pe_int (fun _ _ => rfl)) pe_str (nomark _))))) (pe_ix (r := rIx K) ix_seq (pv 2) pe_int (fun _ _ => rfl)) pe_non)))), ?_⟩
    -- what follows where the path is not ()
    refine ⟨_, rfl, Nat.zero_le _, fun e0 he0 => ?_⟩
    have k1 : Kp T0 H (upd H e0 (.tup [])) := (Kp.refl H).new he0
    have h0 : (upd H e0 (.tup [])) e0 = some (.tup []) := upd_same
    generalize upd H e0 (.tup []) = H1 at k1 h0 ⊢
    have pv1 := pv_.keep0 k1
    have fm1 := fm.keep0 k1
    refine rd_eqE pv1 h0 ⟨_, rfl, ?_⟩
    by_cases c : o = some []
    · subst c
      rw [decide_eq_true rfl]
      exact iteT (q H1 k1)
    rw [decide_eq_false c]
    refine iteF ?_
    have em : msgAt ms o = (o.bind (kindAt ms)).bind msgOf := by
      match o, c with
      | none, _ => rfl
      | some [], c => exact absurd rfl c
      | some (x :: p), _ => rfl
    rw [em] at q
    refine ⟨_, rfl, _, rfl, fv, v, ms, ks, o, rfl, fm1, S, pv1, fun H2 r k2 kv => ?_⟩
    have k02 := k1.trans k2
    cases e : o.bind (kindAt ms) with
    | none =>
      rw [e] at kv q
      have er : r = .non := kv
      subst er
      refine ⟨_, rfl, rfl, _, rfl, ?_⟩
      rw [decide_eq_true rfl]
      refine iteF ?_
      exact iteF (q H2 k02)
    | some k =>
      rw [e] at kv q
      obtain ⟨ra, rfl, hra⟩ := kv
      have kok : KindOk ms k := by
        cases o with
        | none => cases e
        | some p => exact kindAt_ok S e
      obtain ⟨m, rest0, ek, sh⟩ := kind_shape kok.1
      refine ⟨_, rfl, rfl, _, rfl, ?_⟩
      rw [decide_eq_false (fun z => nomatch z)]
      refine iteT ?_
      refine ⟨_, rfl, .inr (.inl ⟨ra, _, 0, .str m, rfl, rfl, SqT.of hra, ?_, rfl, _, rfl, ?_⟩)⟩
      · rw [ek]
        exact at_0 _ _
      rcases sh with ⟨em2, x, er, mo⟩ | ⟨nm, mo⟩
      · rw [decide_eq_true (by rw [em2] : V.str m = V.str "message")]
        refine iteT ⟨_, rfl, .inr (.inl ⟨ra, _, 1, .str x, rfl, rfl, SqT.of hra, ?_, ?_⟩)⟩
        · rw [ek, er]
          exact at_1 _ _ _
        · have z := q H2 k02
          rw [Option.bind_some, mo] at z
          exact z
      · rw [decide_eq_false (fun z => nm (by injection z) : ¬ V.str m = V.str "message")]
        refine iteF ?_
        have z := q H2 k02
        rw [Option.bind_some, mo] at z
        exact z
theorem scFieldsIn : FnScope ["forms", "path"] ["forms", "path"] (defScope sFieldsIn) := ⟨rfl, rfl, rfl, by decide +kernel, rfl, by decide +kernel, by decide +kernel⟩
theorem ok_fieldsIn {f fM : Addr} {fd : FuncData} (F : Fun K "fields_in" "fields_in" sFieldsIn f fd) (zs : mg "sorted" = none) (DM : Df P w K mg base 4 fM "message_in" ["forms", "path"] (spMsgIn K)) : FnOk P w K mg base CX0 5 f fd ["forms", "path"] (spFieldsIn K) := by
  refine F.ok scFieldsIn (fun vs H Q E h => ?_) (fun cdv A outer s H vs Q E hr h => ?_)
  · obtain ⟨_, _, _, _, _, _, rfl, _⟩ := h
    rfl
  · obtain ⟨fv, v, ms, ks, o, x, rfl, fm, S, pv_, hx, q⟩ := h
    have hu := hu_of hr
    refine ⟨_, pss_one (ps_ret (pe_callB (call_sortedD rfl) (by rfl) zs (by decide +kernel) (pa_cons (pe_dget hu (pe_dget hu (pv 0) pe_str (fun _ _ => rfl)) (pe_df DM hr (by rfl) (pa_cons (pv 0) (pa_cons (pv 1) pa_nil))) (fun _ _ => rfl)) pa_nil))), ?_⟩
    obtain ⟨fd0, ma, rfl, isd, dg, im⟩ := fm_msgs fm
    refine ⟨_, rfl, fd0, _, rfl, dg, _, rfl, _, rfl, .ref fd0, v, ms, ks, o, rfl, fm, S, pv_, fun H2 k2 => ?_⟩
    rw [hx]
    obtain ⟨vF, dg2, isF⟩ := msgs_at2 (im.keep0 k2) (msgAt_in S hx)
    obtain ⟨fs, hf⟩ := Option.isSome_iff_exists.mp (msgAt_in S hx)
    have ef : fldsOf ms x = fs := by
      unfold fldsOf
      rw [hf]
      rfl
    have fok : FldOk (fldsOf ms x) := by
      rw [ef]
      exact (S.mok.2.2 _ (lookup_mem hf)).2
    obtain ⟨aF, kF, rfl, hF, pF⟩ := isF
    refine ⟨ma, _, rfl, dg2, aF, kF, (fldsOf ms x).map (·.1), rfl, .inl hF, ent_keys pF, (by rw [List.length_map]; exact fok.1), fun ys l perm srt hl => ?_⟩
    exact q _ l ys (k2.new hl) (k2.free hl) upd_same perm srt
end
end Lw
namespace Lw
open PySem L2 Gk
/-- the rows of a message, if it is one -/
theorem rd_rows {K : PySem.W.Frag} {st : L2.St} {H : Hp} {f : V} {ms : Msgs} {ks : Cho} {nm : Option Str} {R : It → Hp → Prop} (fm : IsFm H f ms ks) (h0 : st[0]? = some (some f)) (h2 : st[2]? = some (some (StrV nm)))
    (k : ∀ ra xs H3, Kp T0 H H3 → H3 ra = some (.lst xs) → Ps H3 xs (mateRows ks nm) → R (Itl K ra) H3) : iList K (tDGet2N (tDGet (tVar 0) (tC (.str "choices"))) (tVar 2) (tLst tNil)) st H R := by
  obtain ⟨fd, ca, ck, rfl, dg, hc, pc⟩ := fm_chos fm
  refine ⟨_, h0, fd, _, rfl, dg, ca, rfl, .inl ⟨ck, .inl hc⟩, _, h2, Nat.zero_le _, fun l0 hl0 => ?_⟩
  have k1 : Kp T0 H (upd H l0 (.lst [])) := (Kp.refl H).new hl0
  have d1 : (upd H l0 (.lst [])) l0 = some (.lst []) := upd_same
  have hc1 := k1.at0 hc
  have pc1 : Paired (Ent (IsRs (upd H l0 (.lst [])))) ck ks := ent_map pc fun _ _ _ z => z.keep0 k1
  cases nm with
  | none => exact .inr ⟨rfl, ⟨ck, .inl hc1⟩, l0, rfl, ⟨[], SqL.of d1⟩, k l0 [] _ k1 d1 .nil⟩
  | some n =>
    rcases ent_find n pc1 with ⟨e1, e2⟩ | ⟨rows, v, e1, e2, ra, xs, rfl, hr, hp⟩
    · refine .inl ⟨none, .inl ⟨ck, .inr n, .inl hc1, rfl, e2.symm⟩, l0, rfl, ⟨[], SqL.of d1⟩, k l0 [] _ k1 d1 ?_⟩
      show Ps _ [] ((ks.lookup n).getD [])
      rw [e1]
      exact .nil
    · refine .inl ⟨some (.ref ra), .inl ⟨ck, .inr n, .inl hc1, rfl, e2.symm⟩, ra, rfl, ⟨xs, SqL.of hr⟩, k ra xs _ k1 hr ?_⟩
      show Ps _ xs ((ks.lookup n).getD [])
      rw [e1]
      exact hp
/-- the rows, as an iterable -/
def iRows (K : PySem.W.Frag) : TI := fun st H R => ∃ (f : V) (ms : Msgs) (ks : Cho) (nm : Option Str), st[0]? = some (some f) ∧ st[2]? = some (some (StrV nm)) ∧ IsFm H f ms ks ∧ ∀ ra xs H3, Kp T0 H H3 → H3 ra = some (.lst xs) → Ps H3 xs (mateRows ks nm) → R (Itl K ra) H3
theorem pi_imp {X : Cx} {tg it : Expr} {w1 w2 : TI} (h : PI X tg it w1) (i : ∀ st H R, w2 st H R → w1 st H R) : PI X tg it w2 := ⟨fun pins s st H R I q => h.run pins s st H R I (i st H R q)⟩
theorem pi_rows {X : Cx} {tg it : Expr} (h : PI X tg it (iList X.K (tDGet2N (tDGet (tVar 0) (tC (.str "choices"))) (tVar 2) (tLst tNil)))) : PI X tg it (iRows X.K) := pi_imp h fun st H R q => by
  obtain ⟨f, ms, ks, nm, h0, h2, fm, k⟩ := q
  exact rd_rows fm h0 h2 k
theorem rows_small {ks : Cho} (h : KsOk ks) (nm : Option Str) : (mateRows ks nm).length < 64 ∧ ∀ p ∈ mateRows ks nm, RowOk p := by
  cases nm with
  | none => exact ⟨by show 0 < 64; decide, fun p m => nomatch m⟩
  | some n =>
    show ((ks.lookup n).getD []).length < 64 ∧ ∀ p ∈ (ks.lookup n).getD [], RowOk p
    cases e : ks.lookup n with
    | none => exact ⟨by show 0 < 64; decide, fun p m => nomatch m⟩
    | some rows => exact h _ (lookup_mem e)
section
variable {P : Program} {w : World} {K : PySem.W.Frag} {mg : Str → Option Value} {base : Heap}
abbrev NM : List Str := ["forms", "path", "name", "found", "choice", "field"]
theorem scMatesIn : FnScope NM ["forms", "path"] (defScope sMatesIn) := ⟨rfl, rfl, rfl, by decide +kernel, rfl, by decide +kernel, by decide +kernel⟩
theorem ok_matesIn {f fM : Addr} {fd : FuncData} (F : Fun K "mates_in" "mates_in" sMatesIn f fd) (DM : Df P w K mg base 4 fM "message_in" ["forms", "path"] (spMsgIn K)) : FnOk P w K mg base CX0 5 f fd ["forms", "path"] (spMatesIn K) := by
  refine F.ok scMatesIn (fun vs H Q E h => ?_) (fun cdv A outer s H vs Q E hr h => ?_)
  · obtain ⟨_, _, _, _, _, _, rfl, _⟩ := h
    rfl
  · obtain ⟨fv, v, ms, ks, p, l, rfl, fm, S, kok, ⟨a, rfl, ha⟩, okn, lp, q⟩ := h
    have hz : (16777216 : Nat) = PySem.sizeLine := PySem.sizeLine_eq.symm
    have hu := hu_of hr
    refine ⟨_, pss_cons (ps_set (i := 2) scMatesIn.nd rfl (Or.inl rfl) (pe_df DM hr (by rfl) (pa_cons (pv 0) (pa_cons (pe_slice sl_tupA (pv 1) po_none (po_some (pe_un un_neg pe_int))) pa_nil))))
      (pss_cons (ps_setLc (i := 3) (own := [("choice", 4)]) (g := gName 4) (tt := tTest (tOp (rIn K false) (tOp (rIx K) (tVar 1) (tUn (rU fun i => .int (-i)) (tC (.int 1)))) (tVar 4))) rfl scMatesIn.nd rfl rfl (sw_true rfl rfl rfl (by decide +kernel))
          (pi_rows (pi_list (pe_dget2N hu (pe_dget hu (pv 0) pe_str (fun _ _ => rfl)) (pv 2) (pe_lst pa_nil) ⟨by rfl, by rfl, by rfl, by rfl⟩)))
          (blkOk_by (N := NM) (sc := defScope sMatesIn) (by decide +kernel)) (fun _ _ _ _ _ => pg_name (i := 4) scMatesIn.nd rfl (Or.inl rfl))
          (fun _ _ _ _ _ => pts_one (pt_cmpR (r := rIn K false) op_in_seq (pe_ix (r := rIx K) ix_seq (pv 1) (pe_un un_neg pe_int) (fun _ _ => rfl)) (pv 4) (by with_unfolding_all rfl)))
          (fun _ _ _ _ _ => pv 4))
      (pss_one (ps_ret (pe_lc2 (own := [("choice", 4), ("field", 5)]) (vs1 := [5]) (wi1 := iTup K (tVar 4)) (g := gName 4) (g1 := gName 5) (tt := tYes) (tt1 := tTest (tOp rNe (tVar 5) (tOp (rIx K) (tVar 1) (tUn (rU fun i => .int (-i)) (tC (.int 1)))))) (te := tTup (StX.tStar K (tSl (rSlA K) (tVar 1) tNoPart (tPart (tUn (rU fun i => .int (-i)) (tC (.int 1))))) (tCons (tVar 5) tNil))) rfl scMatesIn.nd (pi_list (pv 3))
            (blkOk_by (N := NM) (sc := defScope sMatesIn) (by decide +kernel)) (by decide) (fun _ _ _ _ _ => pg_name (i := 4) scMatesIn.nd rfl (Or.inl rfl)) (fun _ _ _ _ _ => pts_nil)
            (fun _ _ _ _ _ => pi_tup (pv 4)) (fun _ _ _ _ _ => pg_name (i := 5) scMatesIn.nd rfl (Or.inl rfl)) (fun _ _ _ _ _ => pts_one (pt_cmpR (r := rNe) op_ne (pv 5) (pe_ix (r := rIx K) ix_seq (pv 1) (pe_un un_neg pe_int) (fun _ _ => rfl)) (nomark _)))
            (fun _ _ _ _ _ => pe_tup (StX.pa_star (pe_slice sl_tupA (pv 1) po_none (po_some (pe_un un_neg pe_int))) (pa_cons (pv 5) pa_nil))))))), ?_⟩
    rw [List.map_append] at ha
    have ha : H a = some (.tup (p.map V.str ++ [V.str l])) := ha
    have okp : OkN p := fun x m => okn x (List.mem_append_left _ m)
    have isl : L2.atI (p.map V.str ++ [V.str l]) (-1) = some (.str l) := at_last _ _
    refine ⟨_, rfl, _, rfl, _, rfl, _, rfl, a, _, rfl, SqT.of ha, fun z => absurd z (cut_init_part _ _), fun _ t ht => ?_⟩
    have ec : cutV (p.map V.str ++ [V.str l]) none (some (-1)) = p.map V.str := cut_ini2 _ _
    rw [ec]
    have k1 : Kp T0 H (upd H t (.tup (p.map V.str))) := (Kp.refl H).new ht
    refine ⟨fv, .ref t, ms, ks, some p, rfl, fm.keep0 k1, S, .inl ⟨p, rfl, ⟨t, rfl, upd_same⟩, okp, by omega⟩, fun H2 k2 => ?_⟩
    have k02 := k1.trans k2
    generalize upd H t (.tup (p.map V.str)) = H1 at k1 k2
    generalize eN : msgAt ms (some p) = nm at q ⊢
    obtain ⟨rl, rok⟩ := rows_small kok nm
    refine ⟨fv, ms, ks, nm, rfl, rfl, fm.keep0 k02, fun ra xs H3 k3 hr hps D hD => ?_⟩
    have k03 := k02.trans k3
    have ha3 := k03.at0 ha
    generalize mateRows ks nm = rows at rl rok hps q
    have lx : xs.length = rows.length := Paired.length hps
    refine lc_kp (T := T0) (walk_list (xs := xs)) (i0 := 4) (fun i v => xs[i]? = some v) (fun i zs _ => Ps H3 zs ((rows.take i).filter fun c => decide (l ∈ c))) (fun _ _ _ _ _ y => y) hD id (by omega) (wipe1 _ 4) (fun H4 k4 => SqL.of (k4.at0 hr)) .nil
      (fun i v zs H4 Ky Kn hi sx k4 d4 pz ky kn => ?_) (fun zs H4 k4 d4 lz pz => ?_)
    · obtain ⟨c, hc, ic⟩ := Ps.get hps sx
      obtain ⟨cb, rfl, hcb⟩ := ic.keep0 k4
      refine ⟨_, rfl, _, rfl, .inr (.inl ⟨a, _, -1, .str l, rfl, rfl, SqT.of (k4.at0 ha3), isl, _, rfl, cb, c.map V.str, rfl, .inr (SqT.of hcb), rfl, flat_strs2 c, _, rfl, ?_⟩)⟩
      show if L2.inV (.str l) (c.map V.str) = true then _ else _
      rw [inV_strs]
      have tk : (rows.take (i + 1)).filter (fun c => decide (l ∈ c)) = (rows.take i).filter (fun c => decide (l ∈ c)) ++ [c].filter (fun c => decide (l ∈ c)) := by
        rw [List.take_add_one, hc, List.filter_append]
        rfl
      by_cases m : l ∈ c
      · rw [decide_eq_true m]
        refine iteT ⟨_, rfl, ky _ _ (Kp.refl _) ?_⟩
        rw [tk]
        have e : [c].filter (fun c => decide (l ∈ c)) = [c] := by simp [List.filter, m]
        rw [e]
        exact pz.snoc ic
      · rw [decide_eq_false m]
        refine iteF (kn _ (Kp.refl _) ?_)
        rw [tk]
        have e : [c].filter (fun c => decide (l ∈ c)) = [] := by simp [List.filter, m]
        rw [e, List.append_nil]
        exact pz
    rw [lx, List.take_length] at pz
    have k04 := k03.trans k4
    have ha4 := k04.at0 ha
    have fl : (rows.filter fun c => decide (l ∈ c)).length < 64 := Nat.lt_of_le_of_lt (List.length_filter_le _ _) rl
    have fok : ∀ c ∈ rows.filter fun c => decide (l ∈ c), RowOk c := fun c m => rok c (List.mem_filter.mp m).1
    have q2 : ∀ H2 r ys, Kp T0 H H2 → H r = none → H2 r = some (.lst ys) → Ps H2 ys ((rows.filter fun c => decide (l ∈ c)).flatMap fun c => (c.filter fun f => decide (f ≠ l)).map fun f => p ++ [f]) → Q (.ref r) H2 := q
    have pz4 := pz.keep0 k4
    generalize rows.filter (fun c => decide (l ∈ c)) = fnd at pz pz4 fl fok q2
    have lz2 : zs.length = fnd.length := Paired.length pz
    refine ⟨_, rfl, D, rfl, ⟨_, SqL.of d4⟩, fun D2 hD2 => ?_⟩
    refine lc2_it (g := gName 4) (g1 := gName 5) (tt := tYes) (tt1 := tTest (tOp rNe (tVar 5) (tOp (rIx K) (tVar 1) (tUn (rU fun i => .int (-i)) (tC (.int 1)))))) (te := tTup (StX.tStar K (tSl (rSlA K) (tVar 1) tNoPart (tPart (tUn (rU fun i => .int (-i)) (tC (.int 1))))) (tCons (tVar 5) tNil))) (wi1 := iTup K (tVar 4)) (vs := [4, 5]) (vs1 := [5])
      (walk_list (xs := zs)) (fun j Ha => ∃ us, Kp T0 H4 Ha ∧ Ha D2 = some (.lst us) ∧ us.length ≤ j * 64 ∧ Ps Ha us ((fnd.take j).flatMap fun c => (c.filter fun f => decide (f ≠ l)).map fun f => p ++ [f]))
      ⟨[], (Kp.refl H4).over hD2, upd_same, Nat.zero_le _, .nil⟩ (fun j Ha _ pp => ?_) (fun j x Ha Hb hj pp y => ?_) (fun Ha pp => ?_)
    · obtain ⟨us, k5, _⟩ := pp
      exact SqL.of (k5.at0 d4)
    · obtain ⟨us, k5, d5, l5, p5⟩ := pp
      obtain ⟨rfl, sx⟩ := y
      obtain ⟨c, hc, ic⟩ := Ps.get pz4 sx
      have cok := fok c (List.mem_of_getElem? hc)
      obtain ⟨cb, rfl, hcb⟩ := ic.keep0 k5
      refine ⟨wipe2x _ 4 5 _, ?_⟩
      refine yes_ ?_
      refine ⟨_, rfl, cb, rfl, ⟨_, SqT.of hcb⟩, ?_⟩
      have j64 : j < 64 := by omega
      have c64 : c.length < 64 := cok.1
      refine run2_it (walk_tup (xs := c.map V.str)) (fun n Hc => ∃ ws, Kp T0 H4 Hc ∧ Hc D2 = some (.lst ws) ∧ Hc cb = some (.tup (c.map V.str)) ∧ ws.length ≤ j * 64 + n ∧ Ps Hc ws (((fnd.take j).flatMap fun c => (c.filter fun f => decide (f ≠ l)).map fun f => p ++ [f]) ++ ((c.take n).filter fun f => decide (f ≠ l)).map fun f => p ++ [f]))
        ⟨us, k5, d5, hcb, by omega, by simpa using p5⟩ (fun n Hc _ pp => ?_) (fun n y Hc Hd hn pp yy => ?_) (fun Hc pp => ?_)
      · obtain ⟨ws, _, _, s5, _⟩ := pp
        exact SqT.of s5
      · obtain ⟨ws, k7, d7, s7, l7, p7⟩ := pp
        obtain ⟨rfl, sy⟩ := yy
        rw [List.length_map] at hn
        rw [List.getElem?_map] at sy
        cases ey : c[n]? with
        | none =>
          rw [ey] at sy
          cases sy
        | some y =>
          rw [ey] at sy
          cases Option.some.inj sy
          refine ⟨wipe2b _ 4 5 _ _, ?_⟩
          have ha7 := (k04.trans k7).at0 ha
          have tk : (c.take (n + 1)).filter (fun f => decide (f ≠ l)) = (c.take n).filter (fun f => decide (f ≠ l)) ++ [y].filter (fun f => decide (f ≠ l)) := by
            rw [List.take_add_one, ey, List.filter_append]
            rfl
          refine ⟨_, rfl, _, rfl, _, rfl, .inr (.inl ⟨a, _, -1, .str l, rfl, rfl, SqT.of ha7, isl, rfl, _, rfl, ?_⟩)⟩
          by_cases m : y = l
          · subst m
            rw [decide_eq_true rfl]
            refine iteF ⟨ws, k7, d7, s7, by omega, ?_⟩
            rw [tk]
            have e : [y].filter (fun f => decide (f ≠ y)) = [] := by simp [List.filter]
            rw [e, List.append_nil]
            exact p7
          · rw [decide_eq_false (fun z => m (by injection z) : ¬ V.str y = V.str l)]
            refine iteT ?_
            refine ⟨_, rfl, _, rfl, _, rfl, a, _, rfl, SqT.of ha7, fun z => absurd z (cut_init_part _ _), fun _ t2 ht2 => ?_⟩
            rw [ec]
            have g8 : Kp T0 Hd (upd Hd t2 (.tup (p.map V.str))) := (Kp.refl Hd).new ht2
            have h8 : (upd Hd t2 (.tup (p.map V.str))) t2 = some (.tup (p.map V.str)) := upd_same
            generalize upd Hd t2 (.tup (p.map V.str)) = H8 at g8 h8 ⊢
            refine ⟨t2, _, rfl, .inl (SqT.of h8), _, rfl, ?_, fun t3 ht3 => ?_⟩
            · show (p.map V.str ++ [V.str y]).length ≤ sizeLine
              rw [List.length_append, List.length_map]
              show p.length + 1 ≤ sizeLine
              omega
            have g9 : Kp T0 H8 (upd H8 t3 (.tup (p.map V.str ++ [V.str y]))) := (Kp.refl H8).new ht3
            have k9 := g8.trans g9
            have d9 := k9.at0 d7
            have s9 := k9.at0 s7
            have n3 : cb ≠ D2 := fun z => by
              rw [z, d7] at s7
              cases s7
            refine ⟨ws, d9, by omega, ws ++ [.ref t3], (k7.trans k9).over hD2, upd_same, ?_, ?_, ?_⟩
            · rw [upd_ne n3]
              exact s9
            · rw [List.length_append]
              show ws.length + 1 ≤ _
              omega
            · rw [tk]
              have e : [y].filter (fun f => decide (f ≠ l)) = [y] := by simp [List.filter, m]
              rw [e, List.map_append, ← List.append_assoc]
              refine Ps.snoc ((p7.keep0 k9).un d9 fun _ z => nomatch z) ?_
              have ip : IsP (upd H8 t3 (.tup (p.map V.str ++ [V.str y]))) (.ref t3) (p ++ [y]) := ⟨t3, rfl, by rw [upd_same, List.map_append]; rfl⟩
              exact ip.un d9 fun _ z => nomatch z
      · obtain ⟨ws, k7, d7, s7, l7, p7⟩ := pp
        rw [List.length_map] at l7 p7
        refine ⟨ws, k7, d7, by omega, ?_⟩
        rw [List.take_length] at p7
        rw [List.take_add_one, hc, List.flatMap_append]
        simpa using p7
    obtain ⟨us, k5, d5, l5, p5⟩ := pp
    rw [lz2, List.take_length] at p5
    refine q2 _ _ _ (k04.trans k5) (k04.free hD2) d5 p5
end
end Lw
namespace Lw
open PySem L2 Gk
abbrev sNeed : Stmt := inClass (topS 34) 4
section
variable {P : Program} {w : World} {K : PySem.W.Frag} {mg : Str → Option Value} {base : Heap} {C CB : Addr}
theorem scNeed : FnScope ["self", "value"] ["self", "value"] (defScope sNeed) := ⟨rfl, rfl, rfl, by decide +kernel, rfl, by decide +kernel, by decide +kernel⟩
theorem kvo_non {H : Hp} {r : V} {o : Option Gk.Kind} (h : KVo H r o) : decide (r = .non) = !o.isSome := by
  cases o with
  | none =>
    have e : r = .non := h
    subst e
    rfl
  | some k =>
    obtain ⟨a, rfl, _⟩ := h
    rfl
/-- the raise of BadPath with a name's value -/
theorem ok_need {f fK : Addr} {fd : FuncData} (F : Fun K "need_path" "Schema.need_path" sNeed f fd) (T : TxtS K mg C) (TX : ErC P w K mg base 1 "BadPath" CB "value" "value") (DK : Df P w K mg base 3 fK "kind_in" ["forms", "path"] (spKindIn K)) : FnOk P w K mg base (L2N.CX P w) 4 f fd ["self", "value"] (spNeed K C CB) := by
  refine fun_okN F scNeed (fun vs H Q E h => ?_) (fun cdv A outer s H vs Q E hr h => ?_)
  · obtain ⟨_, _, _, _, _, rfl, _⟩ := h
    rfl
  · obtain ⟨_, v, ms, ks, o, rfl, ⟨x, dx, fv, rfl, hx, fm⟩, S, pv_, q1, q2⟩ := h
    obtain ⟨fI, fd2, iC, tI, F1, hb1, hb2⟩ := TX.ex
    have hbd : Binds K fd2 ["self", "value"] [] := fun s us _ hl => by
      match us, hl with
      | [u, v], _ => exact hb1 s u v
    refine ⟨_, pss_one (ps_if (pt_cmpR op_isN (pe_df DK hr (by rfl) (pa_cons (pe_fld (pv 0) rfl) (pa_cons (pv 1) pa_nil))) pe_non (nomark _)) (pss_one (L2N.ps_raise rfl (L2N.takes_of rfl rfl rfl rfl) (pmk_oexN TX.T iC tI F1 (hr.mono (by decide)) hbd (by rfl) TX.gl (pa_cons (pv 1) pa_nil)))) pss_nil), ?_⟩
    refine ⟨_, rfl, x, C, dx, _, _, rfl, hx, T.cl, T.nF, rfl, _, rfl, fv, v, ms, ks, o, rfl, fm, S, pv_, fun H2 r k2 kv => ⟨rfl, _, rfl, ?_⟩⟩
    rw [kvo_non kv]
    cases e : (o.bind (kindAt ms)) with
    | some k => exact iteF (q1 (by rw [e]; rfl) H2 k2)
    | none =>
      refine iteT ?_
      refine ⟨_, rfl, (by show 1 ≤ 1000; decide), fun b hb => ?_⟩
      refine ⟨b, v, rfl, upd_same, fun d hd ne => ⟨rfl, d, [("value", v)], upd_same, by rw [upd_ne ne]; exact upd_same, by rw [upd_ne ne] at hd; exact hd, ?_⟩⟩
      exact q2 e _ d (k2.trans (kp_raise2 hb hd ne)) upd_same
end
end Lw
/-! Gk31: repr of a list whose data may hold dicts at any depth (no dict of it is sys.modules, which is known of each tracked dict). -/
namespace Gk
open PySem PySem.Spec PyProof.Rows L2
mutual
/-- a value's data as the heap has it, no dict being sys.modules -/
inductive RS (h : Heap) : Value → PyData → Prop
  | none : RS h .none .none
  | bool (b : Bool) : RS h (.bool b) (.bool b)
  | int (i : Int) (t : Tok) : RS h (.int i t) (.int i)
  | str (x : Str) (t : Tok) : RS h (.str x t) (.str x)
  | list {a : Addr} {o : Obj} {vs : Array Value} {n : Nat} {xs : List PyData} : h.get? a = some o → o.cls = .type "list" → o.data = .seq vs n → RSs h vs.toList xs → RS h (.ref a) (.list xs)
  | tuple {a : Addr} {o : Obj} {vs : Array Value} {n : Nat} {xs : List PyData} : h.get? a = some o → o.cls = .type "tuple" → o.data = .seq vs n → RSs h vs.toList xs → RS h (.ref a) (.tuple xs)
  | dict {a : Addr} {o : Obj} {es : Array DictEntry} {n : Nat} {kvs : List (PyData × PyData)} : h.get? a = some o → o.cls = .type "dict" → o.data = .dict es n → (a == sysModules) = false → RSs h (es.toList.map (·.key)) (kvs.map (·.1)) → RSs h (es.toList.map (·.val)) (kvs.map (·.2)) → RS h (.ref a) (.dict kvs)
inductive RSs (h : Heap) : List Value → List PyData → Prop
  | nil : RSs h [] []
  | cons {v : Value} {vs : List Value} {d : PyData} {ds : List PyData} : RS h v d → RSs h vs ds → RSs h (v :: vs) (d :: ds)
end
mutual
theorem RS.reads {h : Heap} : ∀ {v : Value} {d : PyData}, RS h v d → ∃ as, Reads h v d as
  | _, _, .none => ⟨_, .none⟩
  | _, _, .bool b => ⟨_, .bool b⟩
  | _, _, .int i t => ⟨_, .int i t⟩
  | _, _, .str x t => ⟨_, .str x t⟩
  | _, _, .list e1 e2 e3 r => let ⟨_, q⟩ := RSs.reads r; ⟨_, .list e1 e2 e3 q⟩
  | _, _, .tuple e1 e2 e3 r => let ⟨_, q⟩ := RSs.reads r; ⟨_, .tuple e1 e2 e3 q⟩
  | _, _, .dict e1 e2 e3 _ r1 r2 => let ⟨_, q1⟩ := RSs.reads r1; let ⟨_, q2⟩ := RSs.reads r2; ⟨_, .dict e1 e2 e3 q1 q2⟩
theorem RSs.reads {h : Heap} : ∀ {vs : List Value} {ds : List PyData}, RSs h vs ds → ∃ as, ReadsAll h vs ds as
  | _, _, .nil => ⟨_, .nil⟩
  | _, _, .cons r rs => let ⟨_, q1⟩ := RS.reads r; let ⟨_, q2⟩ := RSs.reads rs; ⟨_, .cons q1 q2⟩
end
section
variable {P : Program} {w : World} {h : Heap}
mutual
theorem RS.repr : ∀ {v : Value} {d : PyData}, RS h v d → d.showable = true → d.shown.length ≤ sizeLine → ∃ bs, ReadAtMost h d.depth bs ∧ ReprK P w bs h d.depth v d.shown
  | _, _, .none, _, _ => ⟨[], (fun _ m => nomatch m), by simp only [PyData.shown]; exact .of_is ReprIs.none _ _ _⟩
  | _, _, .bool b, _, _ => ⟨[], (fun _ m => nomatch m), by simp only [PyData.shown]; exact .of_is (ReprIs.bool b) _ _ _⟩
  | _, _, .int i t, hs, _ => ⟨[], (fun _ m => nomatch m), by simp only [PyData.shown]; exact .of_is (ReprIs.int t (by simpa [PyData.showable] using hs)) _ _ _⟩
  | _, _, .str x t, _, hz => ⟨[], (fun _ m => nomatch m), by simp only [PyData.shown]; exact .of_is (ReprIs.str x t (by simpa only [PyData.shown] using hz)) _ _ _⟩
  | _, _, .list (a := a) (vs := vs) (xs := xs) e1 e2 e3 r, hs, hz => by
    have hz2 : (listText (PyData.shownAll xs)).length ≤ sizeLine := by simpa only [PyData.shown] using hz
    obtain ⟨bs, hb, hk⟩ := RSs.repr r (by simpa [PyData.showable] using hs) fun t ht => Nat.le_trans (listText_mem_le ht) hz2
    obtain ⟨as, rd⟩ := RS.reads (.list e1 e2 e3 r)
    have na : a ∉ bs := not_mem_of_deeper rd (by simp only [PyData.depth]; omega) hb
    refine ⟨a :: bs, ReadAtMost.cons rd (by simp only [PyData.depth]; omega) hb, ?_⟩
    simp only [PyData.depth, PyData.shown]
    obtain ⟨l⟩ := vs
    cases l with
    | nil =>
      cases (show RSs h [] xs from r)
      simp only [PyData.shownAll, listText_nil]
      exact ReprK.listEmpty e1 e2 e3
    | cons x l => exact ReprK.list e1 e2 e3 na (by simpa using hk.length_eq) fun i y e => hk.item i y (by simpa using e)
  | _, _, .tuple (a := a) (xs := xs) e1 e2 e3 r, hs, hz => by
    have hz2 : (tupleText (PyData.shownAll xs)).length ≤ sizeLine := by simpa only [PyData.shown] using hz
    obtain ⟨bs, hb, hk⟩ := RSs.repr r (by simpa [PyData.showable] using hs) fun t ht => Nat.le_trans (tupleText_mem_le ht) hz2
    obtain ⟨as, rd⟩ := RS.reads (.tuple e1 e2 e3 r)
    have na : a ∉ bs := not_mem_of_deeper rd (by simp only [PyData.depth]; omega) hb
    refine ⟨a :: bs, ReadAtMost.cons rd (by simp only [PyData.depth]; omega) hb, ?_⟩
    simp only [PyData.depth, PyData.shown]
    exact ReprK.tuple e1 e2 e3 na hk
  | _, _, .dict (a := a) (es := es) (kvs := kvs) e1 e2 e3 sy r1 r2, hs, hz => by
    have hz2 : (dictText (PyData.shownKv kvs)).length ≤ sizeLine := by simpa only [PyData.shown] using hz
    obtain ⟨hs1, hs2⟩ := PyData.showableKv_split kvs (by simpa [PyData.showable] using hs)
    obtain ⟨b1, hb1, k1⟩ := RSs.repr r1 hs1 fun t ht => let ⟨p, hp, hl⟩ := PyData.shownKv_key_le kvs t ht; Nat.le_trans hl (Nat.le_trans (dictText_mem_le hp) hz2)
    obtain ⟨b2, hb2, k2⟩ := RSs.repr r2 hs2 fun t ht => let ⟨p, hp, hl⟩ := PyData.shownKv_val_le kvs t ht; Nat.le_trans hl (Nat.le_trans (dictText_mem_le hp) hz2)
    obtain ⟨as, rd⟩ := RS.reads (.dict e1 e2 e3 sy r1 r2)
    have hb : ReadAtMost h (PyData.depthKv kvs) (b1 ++ b2) := (hb1.mono (PyData.depthAll_keys_le kvs)).append (hb2.mono (PyData.depthAll_vals_le kvs))
    have na : a ∉ b1 ++ b2 := not_mem_of_deeper rd (by simp only [PyData.depth]; omega) hb
    refine ⟨a :: (b1 ++ b2), ReadAtMost.cons rd (by simp only [PyData.depth]; omega) hb, ?_⟩
    simp only [PyData.depth, PyData.shown, PyData.shownKv_eq]
    exact ReprK.dict e1 e2 e3 sy na (ReprEntriesK.of_two es.toList _ _ (k1.more_le (fun b m => List.mem_append_left _ m) (PyData.depthAll_keys_le kvs)) (k2.more_le (fun b m => List.mem_append_right _ m) (PyData.depthAll_vals_le kvs)))
theorem RSs.repr : ∀ {vs : List Value} {ds : List PyData}, RSs h vs ds → PyData.showableAll ds = true → (∀ t ∈ PyData.shownAll ds, t.length ≤ sizeLine) → ∃ bs, ReadAtMost h (PyData.depthAll ds) bs ∧ ReprAllK P w bs h (PyData.depthAll ds) vs (PyData.shownAll ds)
  | _, _, .nil, _, _ => ⟨[], (fun _ m => nomatch m), by simp only [PyData.shownAll]; exact .nil⟩
  | _, _, .cons (d := d) (ds := ds) r rs, hs, hz => by
    have hs2 : d.showable = true ∧ PyData.showableAll ds = true := by simpa [PyData.showableAll] using hs
    obtain ⟨b1, hb1, k1⟩ := RS.repr r hs2.1 (hz _ (by simp only [PyData.shownAll]; exact List.mem_cons_self ..))
    obtain ⟨b2, hb2, k2⟩ := RSs.repr rs hs2.2 fun t ht => hz t (by simp only [PyData.shownAll]; exact List.mem_cons_of_mem _ ht)
    simp only [PyData.depthAll, PyData.shownAll]
    refine ⟨b1 ++ b2, (hb1.mono (Nat.le_max_left _ _)).append (hb2.mono (Nat.le_max_right _ _)), ?_⟩
    exact .cons ((k1.more fun b m => List.mem_append_left _ m).level_le (Nat.le_max_left _ _)) (k2.more_le (fun b m => List.mem_append_right _ m) (Nat.le_max_right _ _))
end
end
mutual
/-- a tracked value's data, with dicts, outside T -/
inductive Dd (T : Addr → Prop) (H : Hp) : V → PyData → Prop
  | sc {v : V} {d : PyData} : Sc v d → Dd T H v d
  | lst {a : Addr} {vs : List V} {ds : List PyData} : ¬ T a → H a = some (.lst vs) → Dds T H vs ds → Dd T H (.ref a) (.list ds)
  | tup {a : Addr} {vs : List V} {ds : List PyData} : ¬ T a → H a = some (.tup vs) → Dds T H vs ds → Dd T H (.ref a) (.tuple ds)
  | dict {a : Addr} {kvs : List (L2.Key × V)} {ds : List (PyData × PyData)} : ¬ T a → H a = some (.dK kvs) → DdK T H kvs ds → Dd T H (.ref a) (.dict ds)
inductive Dds (T : Addr → Prop) (H : Hp) : List V → List PyData → Prop
  | nil : Dds T H [] []
  | cons {v : V} {vs : List V} {d : PyData} {ds : List PyData} : Dd T H v d → Dds T H vs ds → Dds T H (v :: vs) (d :: ds)
inductive DdK (T : Addr → Prop) (H : Hp) : List (L2.Key × V) → List (PyData × PyData) → Prop
  | nil : DdK T H [] []
  | cons {k : L2.Key} {v : V} {kvs : List (L2.Key × V)} {d : PyData} {ds : List (PyData × PyData)} : Dd T H v d → DdK T H kvs ds → DdK T H ((k, v) :: kvs) ((dKey k, d) :: ds)
end
mutual
theorem Dd.keep {T : Addr → Prop} {H H2 : Hp} (k : Kp T H H2) : ∀ {v : V} {d : PyData}, Dd T H v d → Dd T H2 v d
  | _, _, .sc s => .sc s
  | _, _, .lst n e r => .lst n (k _ _ n e) (Dds.keep k r)
  | _, _, .tup n e r => .tup n (k _ _ n e) (Dds.keep k r)
  | _, _, .dict n e r => .dict n (k _ _ n e) (DdK.keep k r)
theorem Dds.keep {T : Addr → Prop} {H H2 : Hp} (k : Kp T H H2) : ∀ {vs : List V} {ds : List PyData}, Dds T H vs ds → Dds T H2 vs ds
  | _, _, .nil => .nil
  | _, _, .cons a r => .cons (Dd.keep k a) (Dds.keep k r)
theorem DdK.keep {T : Addr → Prop} {H H2 : Hp} (k : Kp T H H2) : ∀ {kvs : List (L2.Key × V)} {ds : List (PyData × PyData)}, DdK T H kvs ds → DdK T H2 kvs ds
  | _, _, .nil => .nil
  | _, _, .cons a r => .cons (Dd.keep k a) (DdK.keep k r)
end
mutual
/-- other places to be apart from: new ones -/
theorem Dd.out {T U : Addr → Prop} {H : Hp} (h : ∀ a, U a → T a ∨ H a = none) : ∀ {v : V} {d : PyData}, Dd T H v d → Dd U H v d
  | _, _, .sc s => .sc s
  | _, _, .lst n e r => .lst (fun z => (h _ z).elim n fun q => by rw [e] at q; cases q) e (Dds.out h r)
  | _, _, .tup n e r => .tup (fun z => (h _ z).elim n fun q => by rw [e] at q; cases q) e (Dds.out h r)
  | _, _, .dict n e r => .dict (fun z => (h _ z).elim n fun q => by rw [e] at q; cases q) e (DdK.out h r)
theorem Dds.out {T U : Addr → Prop} {H : Hp} (h : ∀ a, U a → T a ∨ H a = none) : ∀ {vs : List V} {ds : List PyData}, Dds T H vs ds → Dds U H vs ds
  | _, _, .nil => .nil
  | _, _, .cons a r => .cons (Dd.out h a) (Dds.out h r)
theorem DdK.out {T U : Addr → Prop} {H : Hp} (h : ∀ a, U a → T a ∨ H a = none) : ∀ {kvs : List (L2.Key × V)} {ds : List (PyData × PyData)}, DdK T H kvs ds → DdK U H kvs ds
  | _, _, .nil => .nil
  | _, _, .cons a r => .cons (Dd.out h a) (DdK.out h r)
end
section
variable {X : Cx} {pins : List (Addr × Obj)} {σ : L2.St} {H : Hp} {s : Shared}
theorem sc_rs {h : Heap} {v : V} {u : Value} {d : PyData} (s : Sc v d) (r : RelV v u) : RS h u d := by
  cases s with
  | non => cases r; exact .none
  | bl b => cases r; exact .bool b
  | int i => obtain ⟨t, rfl⟩ := (show ∃ t, u = Value.int i t from r); exact .int i t
  | str x => obtain ⟨t, rfl⟩ := (show ∃ t, u = Value.str x t from r); exact .str x t
theorem key_rs {h : Heap} {u : Value} {k : L2.Key} (e : keyIs k u = true) : RS h u (dKey k) := by
  rcases keyIs_shape e with ⟨i, t, e1, e2⟩ | ⟨x, t, e1, e2⟩
  · rw [e1, e2]
    exact .int i t
  · rw [e1, e2]
    exact .str x t
mutual
theorem Dd.rs {T : Addr → Prop} (I : Inv X pins σ H s) : ∀ {v : V} {d : PyData} (u : Value), Dd T H v d → RelV v u → RS s.heap u d
  | _, _, _, .sc c, r => sc_rs c r
  | _, _, u, .lst _ e q, r => by
    obtain rfl : u = Value.ref _ := r
    obtain ⟨z, its, n, rv, hl, ho⟩ := I.lstM e
    exact .list ho rfl rfl (by rw [List.toList_toArray]; exact Dds.rs I its q rv)
  | _, _, u, .tup _ e q, r => by
    obtain rfl : u = Value.ref _ := r
    obtain ⟨_, its, rv, o, h1, h2, n, h3⟩ := (show ObjOk X.prog X.w H s.heap _ (.tup _) from I.hok _ _ e)
    exact .tuple h1 h2 h3 (by rw [List.toList_toArray]; exact Dds.rs I its q rv)
  | _, _, u, .dict _ e q, r => by
    obtain rfl : u = Value.ref _ := r
    obtain ⟨_, ns, vs, kv, o, es, ep, ho, ex, hd, _, pr, _⟩ := dk_of I.hok e
    obtain ⟨r1, r2⟩ := DdK.rs I vs es.toList q kv pr
    exact .dict ho ex.1 hd ns r1 r2
theorem Dds.rs {T : Addr → Prop} (I : Inv X pins σ H s) : ∀ {vs : List V} {ds : List PyData} (us : List Value), Dds T H vs ds → Vals vs us → RSs s.heap us ds
  | _, _, _, .nil, .nil => .nil
  | _, _, _ :: _, .cons a q, .cons r t => .cons (Dd.rs I _ a r) (Dds.rs I _ q t)
theorem DdK.rs {T : Addr → Prop} (I : Inv X pins σ H s) : ∀ {kvs : List (L2.Key × V)} {ds : List (PyData × PyData)} (vs : List (L2.Key × Value)) (es : List DictEntry), DdK T H kvs ds → KV kvs vs → Pairs (mixKind X.prog X.w) es vs →
    RSs s.heap (es.map (·.key)) (ds.map (·.1)) ∧ RSs s.heap (es.map (·.val)) (ds.map (·.2))
  | _, _, _, _, .nil, .nil, .nil => ⟨.nil, .nil⟩
  | _, _, _, _, .cons a q, .cons r t, .cons k e p => by
    obtain ⟨i1, i2⟩ := DdK.rs I _ _ q t p
    refine ⟨.cons ?_ i1, .cons ?_ i2⟩
    · have k2 := k
      rw [← r.1] at k2
      exact key_rs k2
    · dsimp only
      rw [e]
      exact Dd.rs I _ a r.2
end
/-- repr of a list -/
def rReprL : List V → Hp → VK → Prop := fun xs H Q => ∃ (a : Addr) (vs : List V) (ds : List PyData) (T : Addr → Prop), xs = [.ref a] ∧ H a = some (.lst vs) ∧ Dds T H vs ds ∧ PyData.showableAll ds = true ∧ PyData.depthAll ds ≤ 60 ∧ (PyData.list ds).shown.length ≤ sizeLine ∧ Q (.str (PyData.list ds).shown) H
theorem call_reprL (hf : Free X.A) (hu : X.A.units + 70 < cLine) : CallR X (.builtin "repr") rReprL := by
  intro pins s σ H xs us Q I r h
  obtain ⟨a, vs, ds, T, rfl, e, dd, sw, dp, sz, q⟩ := h
  obtain ⟨u, rfl, ru⟩ := vals1 r
  obtain rfl : u = Value.ref a := ru
  obtain ⟨z, its, n, rv, hl, ho⟩ := I.lstM e
  have sz2 : (listText (PyData.shownAll ds)).length ≤ sizeLine := by simpa only [PyData.shown] using sz
  have rs := Dds.rs I its dd rv
  obtain ⟨bs, hb, hk⟩ := RSs.repr (P := X.prog) (w := X.w) rs sw fun t ht => Nat.le_trans (listText_mem_le ht) sz2
  have fin : ∀ (h2 : Heap) (t : Tok) (tk : Nat), (∀ b o, s.heap.get? b = some o → h2.get? b = some o) → EP X pins σ Q (.str (PyData.list ds).shown t) { s with heap := h2, toks := tk } := fun h2 t tk hk => ⟨.str (PyData.list ds).shown, H, I.kept hk, ⟨t, rfl⟩, q⟩
  obtain ⟨as, rd⟩ := RS.reads (RS.list ho rfl rfl (by rw [List.toList_toArray]; exact rs))
  have na : a ∉ bs := not_mem_of_deeper rd (by simp only [PyData.depth]; omega) hb
  refine call_repr_slot (by omega) (⟨_, ho, rfl⟩ : s.TypeIs (.ref a) "list") F.slot_list_repr.toG ?_
  simp only [PyData.shown] at fin
  cases its with
  | nil =>
    cases rs
    simp only [PyData.shownAll, listText_nil] at fin
    exact call_list_repr_empty ⟨_, ho, rfl⟩ ho rfl ⟨_, _, rfl, fin s.heap _ _ fun _ _ e => e⟩
  | cons x l =>
    refine call_list_reprK ho rfl rfl na (by simpa using hk.length_eq) (fun i y e => hk.item i y (by simpa using e)) (g := []) hf (fun b _ => Clear.nil b) (by show X.A.units + 1 + _ < cLine; omega) (fun _ _ e => e) (fun h2 u tk hk2 => ⟨_, _, rfl, fin h2 u tk hk2⟩) sz2
end
end Gk
/-! Gk61: values of kinds as data; data that stays while a dict of it is read. -/
namespace Gk
open PySem PySem.Spec PyProof.Rows L2
/-! ### data in the heap -/
theorem sc_one {v : V} {d e : PyData} (h : Sc v d) (g : Sc v e) : d = e := by
  cases h <;> cases g <;> rfl
mutual
theorem Dd.one {T U : Addr → Prop} {H : Hp} : ∀ {v : V} {d e : PyData}, Dd T H v d → Dd U H v e → d = e
  | _, _, _, .sc s, .sc t => sc_one s t
  | _, _, _, .sc s, .lst _ _ _ => by cases s
  | _, _, _, .sc s, .tup _ _ _ => by cases s
  | _, _, _, .sc s, .dict _ _ _ => by cases s
  | _, _, _, .lst _ _ _, .sc s => by cases s
  | _, _, _, .tup _ _ _, .sc s => by cases s
  | _, _, _, .dict _ _ _, .sc s => by cases s
  | _, _, _, .lst _ e r, .lst _ e2 r2 => by
    rw [e] at e2
    cases e2
    rw [Dds.one r r2]
  | _, _, _, .lst _ e _, .tup _ e2 _ => by rw [e] at e2; cases e2
  | _, _, _, .lst _ e _, .dict _ e2 _ => by rw [e] at e2; cases e2
  | _, _, _, .tup _ e r, .tup _ e2 r2 => by
    rw [e] at e2
    cases e2
    rw [Dds.one r r2]
  | _, _, _, .tup _ e _, .lst _ e2 _ => by rw [e] at e2; cases e2
  | _, _, _, .tup _ e _, .dict _ e2 _ => by rw [e] at e2; cases e2
  | _, _, _, .dict _ e r, .dict _ e2 r2 => by
    rw [e] at e2
    cases e2
    rw [DdK.one r r2]
  | _, _, _, .dict _ e _, .lst _ e2 _ => by rw [e] at e2; cases e2
  | _, _, _, .dict _ e _, .tup _ e2 _ => by rw [e] at e2; cases e2
theorem Dds.one {T U : Addr → Prop} {H : Hp} : ∀ {vs : List V} {ds es : List PyData}, Dds T H vs ds → Dds U H vs es → ds = es
  | _, _, _, .nil, .nil => rfl
  | _, _, _, .cons a r, .cons b t => by rw [Dd.one a b, Dds.one r t]
theorem DdK.one {T U : Addr → Prop} {H : Hp} : ∀ {kvs : List (L2.Key × V)} {ds es : List (PyData × PyData)}, DdK T H kvs ds → DdK U H kvs es → ds = es
  | _, _, _, .nil, .nil => rfl
  | _, _, _, .cons a r, .cons b t => by rw [Dd.one a b, DdK.one r t]
end
mutual
/-- what is less deep than a thing does not hold it -/
theorem Dd.away {T U : Addr → Prop} {H : Hp} {a : Addr} {D : PyData} (ha : Dd U H (.ref a) D) : ∀ {v : V} {d : PyData}, Dd T H v d → d.depth < D.depth → Dd (fun b => T b ∨ b = a) H v d
  | _, _, .sc s, _ => .sc s
  | _, _, .lst (a := b) n e r, l => by
    have l2 : PyData.depthAll _ + 1 < D.depth := l
    refine .lst (fun z => z.elim n fun q => ?_) e (Dds.away ha r (by omega))
    subst q
    have := Dd.one ha (.lst n e r)
    rw [← this] at l
    exact absurd l (Nat.lt_irrefl _)
  | _, _, .tup (a := b) n e r, l => by
    have l2 : PyData.depthAll _ + 1 < D.depth := l
    refine .tup (fun z => z.elim n fun q => ?_) e (Dds.away ha r (by omega))
    subst q
    have := Dd.one ha (.tup n e r)
    rw [← this] at l
    exact absurd l (Nat.lt_irrefl _)
  | _, _, .dict (a := b) n e r, l => by
    have l2 : PyData.depthKv _ + 1 < D.depth := l
    refine .dict (fun z => z.elim n fun q => ?_) e (DdK.away ha r (by omega))
    subst q
    have := Dd.one ha (.dict n e r)
    rw [← this] at l
    exact absurd l (Nat.lt_irrefl _)
theorem Dds.away {T U : Addr → Prop} {H : Hp} {a : Addr} {D : PyData} (ha : Dd U H (.ref a) D) : ∀ {vs : List V} {ds : List PyData}, Dds T H vs ds → PyData.depthAll ds < D.depth → Dds (fun b => T b ∨ b = a) H vs ds
  | _, _, .nil, _ => .nil
  | _, _, .cons (d := d) (ds := ds) h r, l => by
    rw [PyData.depthAll] at l
    exact .cons (Dd.away ha h (by omega)) (Dds.away ha r (by omega))
theorem DdK.away {T U : Addr → Prop} {H : Hp} {a : Addr} {D : PyData} (ha : Dd U H (.ref a) D) : ∀ {kvs : List (L2.Key × V)} {ds : List (PyData × PyData)}, DdK T H kvs ds → PyData.depthKv ds < D.depth → DdK (fun b => T b ∨ b = a) H kvs ds
  | _, _, .nil, _ => .nil
  | _, _, .cons (d := d) (ds := ds) h r, l => by
    rw [PyData.depthKv] at l
    exact .cons (Dd.away ha h (by omega)) (DdK.away ha r (by omega))
end
/-- the parts of a dict, while it is written or locked -/
theorem parts_away {T : Addr → Prop} {H : Hp} {a : Addr} {kvs : List (L2.Key × V)} {ds : List (PyData × PyData)} {o : HO} (n : ¬ T a) (e : H a = some (.dK kvs)) (r : DdK T H kvs ds) : DdK T (upd H a o) kvs ds := by
  have h : Dd T H (.ref a) (.dict ds) := .dict n e r
  have z := DdK.away h r (by show PyData.depthKv ds < PyData.depthKv ds + 1; omega)
  have k : Kp (fun b => T b ∨ b = a) H (upd H a o) := (Kp.refl H).put (.inr rfl)
  exact (DdK.keep k z).out fun b t => .inl (.inl t)
theorem ddk_at {T : Addr → Prop} {H : Hp} : ∀ {kvs : List (L2.Key × V)} {ds : List (PyData × PyData)} {i : Nat} {k : L2.Key} {v : V}, DdK T H kvs ds → kvs[i]? = some (k, v) → ∃ d, ds[i]? = some (dKey k, d) ∧ Dd T H v d
  | _, _, 0, k, v, .cons (d := d) h r, e => by
    cases Option.some.inj e
    exact ⟨d, rfl, h⟩
  | _, _, i + 1, k, v, .cons h r, e => ddk_at (i := i) r (by simpa using e)
theorem ddk_len {T : Addr → Prop} {H : Hp} : ∀ {kvs : List (L2.Key × V)} {ds : List (PyData × PyData)}, DdK T H kvs ds → kvs.length = ds.length
  | _, _, .nil => rfl
  | _, _, .cons _ r => by rw [List.length_cons, List.length_cons, ddk_len r]
theorem ddk_depth : ∀ {ds : List (PyData × PyData)} {i : Nat} {k d : PyData}, ds[i]? = some (k, d) → d.depth ≤ PyData.depthKv ds
  | (k0, d0) :: ds, 0, k, d, e => by
    cases Option.some.inj e
    rw [PyData.depthKv]
    omega
  | (k0, d0) :: ds, i + 1, k, d, e => by
    have z := ddk_depth (ds := ds) (i := i) (by simpa using e)
    rw [PyData.depthKv]
    omega
  | [], _, _, _, e => by simp at e
/-! ### texts that are not overlong -/
mutual
def wfD : PyData → Bool
  | .str x => decide (x.length < 1000)
  | .dict ds => decide (ds.length < 1000) && wfE ds
  | _ => true
def wfE : List (PyData × PyData) → Bool
  | [] => true
  | (k, d) :: r => ((match k with
    | .str x => decide (x.length < 1000)
    | _ => true) && wfD d) && wfE r
end
theorem wfE_at : ∀ {ds : List (PyData × PyData)} {i : Nat} {k d : PyData}, wfE ds = true → ds[i]? = some (k, d) → (∀ x, k = .str x → x.length < 1000) ∧ wfD d = true
  | (k0, d0) :: ds, 0, k, d, h, e => by
    cases Option.some.inj e
    unfold wfE at h
    simp only [Bool.and_eq_true] at h
    refine ⟨fun x ex => ?_, h.1.2⟩
    have h1 := h.1.1
    rw [ex] at h1
    exact of_decide_eq_true h1
  | (k0, d0) :: ds, i + 1, k, d, h, e => by
    unfold wfE at h
    simp only [Bool.and_eq_true] at h
    exact wfE_at (i := i) h.2 (by simpa using e)
  | [], _, _, _, _, e => by simp at e
def kdOf : PyData → Kd
  | .str x => .s x
  | .int i => .i i
  | .bool b => .b b
  | _ => .o
theorem noty {K : PySem.W.Frag} {H : Hp} {v : V} {t : Value} (h : TyX K H v t) (a : PySem.W.kitOne K t (.type "str") = some false) (b : PySem.W.kitOne K t (.type "int") = some false) (c : PySem.W.kitOne K t (.type "bool") = some false) : NoTy K H "str" v ∧ NoTy K H "int" v ∧ NoTy K H "bool" v := ⟨⟨t, h, a⟩, ⟨t, h, b⟩, ⟨t, h, c⟩⟩
theorem dd_kd {K : PySem.W.Frag} {T : Addr → Prop} {H : Hp} {v : V} {d : PyData} (h : Dd T H v d) (w : wfD d = true) : KdAt K H v (kdOf d) := by
  cases h with
  | sc s =>
    cases s with
    | non => exact noty (.base .non) (kit_ty (by decide +kernel)) (kit_ty (by decide +kernel)) (kit_ty (by decide +kernel))
    | bl b => exact rfl
    | int i => exact rfl
    | str x =>
      rw [wfD] at w
      exact ⟨rfl, Nat.lt_trans (of_decide_eq_true w) (by rw [sizeLine_eq]; decide)⟩
  | lst n e r => exact noty (.base (.lst e)) (kit_ty (by decide +kernel)) (kit_ty (by decide +kernel)) (kit_ty (by decide +kernel))
  | tup n e r => exact noty (.base (.tup e)) (kit_ty (by decide +kernel)) (kit_ty (by decide +kernel)) (kit_ty (by decide +kernel))
  | dict n e r => exact noty (.base (.dK e)) (kit_ty (by decide +kernel)) (kit_ty (by decide +kernel)) (kit_ty (by decide +kernel))
/-! ### what is of a kind -/
def keyIs (n : Str) : PyData → Bool
  | .str x => decide (x = n)
  | _ => false
def hasK (ds : List (PyData × PyData)) (n : Str) : Bool := ds.any fun e => keyIs n e.1
def choB (rows : List Pth) (ds : List (PyData × PyData)) : Bool := rows.all fun c => decide ((c.filter fun n => hasK ds n).length < 2)
mutual
def okK (ms : Msgs) (ks : Cho) : PyData → Kind → Bool
  | .str x, k => decide (k = ([("text" : Str)] : Kind)) && isLet x 0 12
  | .int i, k => decide (k = ([("number" : Str)] : Kind)) && decide (0 ≤ i)
  | .bool _, k => decide (k = ([("flag" : Str)] : Kind))
  | .dict ds, k => match k with
    | [m, x] => if m = "message" then okE ms ks ds (fun n => (fldsOf ms x).lookup n) && choB (rowsOf ks x) ds else !ds.isEmpty && okE ms ks ds (fun _ => some [x])
    | _ => false
  | .list _, _ => false
  | .tuple _, _ => false
  | .none, _ => false
def okE (ms : Msgs) (ks : Cho) : List (PyData × PyData) → (Str → Option Kind) → Bool
  | [], _ => true
  | (key, d) :: r, f => (match key with
    | .str n => isNm n && (match f n with
      | some k => okK ms ks d k
      | none => false)
    | _ => false) && okE ms ks r f
end
/-- of one entry -/
def okP (ms : Msgs) (ks : Cho) (f : Str → Option Kind) (e : PyData × PyData) : Bool := match e.1 with
  | .str n => isNm n && (match f n with
    | some k => okK ms ks e.2 k
    | none => false)
  | _ => false
theorem okE_all (ms : Msgs) (ks : Cho) (f : Str → Option Kind) : ∀ ds : List (PyData × PyData), okE ms ks ds f = ds.all (okP ms ks f)
  | [] => by rw [okE]; rfl
  | (key, d) :: r => by
    unfold okE
    rw [List.all_cons, okE_all ms ks f r]
    rfl
theorem keyIs_key (n : Str) (k : L2.Key) : keyIs n (dKey k) = decide (k = .inr n) := by
  cases k with
  | inl i => exact (decide_eq_false (fun z => nomatch z)).symm
  | inr x =>
    show decide (x = n) = decide ((.inr x : L2.Key) = .inr n)
    exact decide_eq_decide.mpr ⟨fun e => by rw [e], fun e => Sum.inr.inj e⟩
theorem hasK_val {T : Addr → Prop} {H : Hp} (n : Str) : ∀ {kvs : List (L2.Key × V)} {ds : List (PyData × PyData)}, DdK T H kvs ds → (valV kvs (.inr n)).isSome = hasK ds n
  | _, _, .nil => rfl
  | _, _, .cons (k := k) (v := v) (kvs := kvs) (d := d) (ds := ds) h r => by
    have ih := hasK_val n r
    show (Option.map (·.2) (List.find? (fun kv : L2.Key × V => decide (kv.1 = .inr n)) ((k, v) :: kvs))).isSome = (keyIs n (dKey k) || hasK ds n)
    rw [keyIs_key]
    by_cases e : k = .inr n
    · rw [List.find?_cons_of_pos (by simpa using e), decide_eq_true e]
      rfl
    · rw [List.find?_cons_of_neg (by simpa using e), decide_eq_false e, Bool.false_or]
      exact ih
/-! ### dicts and {} -/
def rEq0 : R2 := fun x y H Q => ∃ a b ks, x = .ref a ∧ y = .ref b ∧ H a = some (.dK ks) ∧ H b = some (.dK []) ∧ Q (.bl ks.isEmpty) H
def rNe0 : R2 := fun x y H Q => ∃ a b ks, x = .ref a ∧ y = .ref b ∧ H a = some (.dK ks) ∧ H b = some (.dK []) ∧ Q (.bl (!ks.isEmpty)) H
section
variable {X : Cx}
theorem op_eq0 (hu : X.A.units < cLine) : OpR X (compareOp .Eq) rEq0 := by
  intro pins s σ H x y v u Q I rx ry h
  obtain ⟨a, b, ks, rfl, rfl, ea, eb, q⟩ := h
  obtain rfl : v = Value.ref a := rx
  obtain rfl : u = Value.ref b := ry
  obtain ⟨_, ya, va, ra, da⟩ := (show ObjOk X.prog X.w H s.heap a (.dK ks) from I.hok a _ ea)
  obtain ⟨_, yb, vb, rb, db⟩ := (show ObjOk X.prog X.w H s.heap b (.dK []) from I.hok b _ eb)
  have hb : vb.length = 0 := by rw [← rb.length]; rfl
  have hl : va.length = ks.length := ra.length.symm
  refine PySem.W.keq_eq (knd := mixKind X.prog X.w) (r := true) ya yb da db hu (fun z => hits_all rb ra fun p m => ?_) (fin_bl I q ?_)
  · have : ks.length = 0 := by omega
    rw [List.length_eq_zero_iff.mp this] at m
    cases m
  · cases ks with
    | nil =>
      have : va.length = 0 := hl
      simp [this, hb]
    | cons x xs =>
      have : va.length = xs.length + 1 := hl
      simp [this, hb]
theorem op_ne0 (hu : X.A.units < cLine) : OpR X (compareOp .NotEq) rNe0 := by
  intro pins s σ H x y v u Q I rx ry h
  obtain ⟨a, b, ks, rfl, rfl, ea, eb, q⟩ := h
  obtain rfl : v = Value.ref a := rx
  obtain rfl : u = Value.ref b := ry
  obtain ⟨_, ya, va, ra, da⟩ := (show ObjOk X.prog X.w H s.heap a (.dK ks) from I.hok a _ ea)
  obtain ⟨_, yb, vb, rb, db⟩ := (show ObjOk X.prog X.w H s.heap b (.dK []) from I.hok b _ eb)
  have hb : vb.length = 0 := by rw [← rb.length]; rfl
  have hl : va.length = ks.length := ra.length.symm
  refine PySem.W.keq_ne (knd := mixKind X.prog X.w) (r := true) ya yb da db hu (fun z => hits_all rb ra fun p m => ?_) (fin_bl I q ?_)
  · have : ks.length = 0 := by omega
    rw [List.length_eq_zero_iff.mp this] at m
    cases m
  · cases ks with
    | nil =>
      have : va.length = 0 := hl
      simp [this, hb]
    | cons x xs =>
      have : va.length = xs.length + 1 := hl
      simp [this, hb]
end
/-! ### promises -/
/-- where a heap has something -/
def Oc (B : Hp) : Addr → Prop := fun b => B b ≠ none
theorem oc_none {B : Hp} {a : Addr} (h : ¬ Oc B a) : B a = none := by
  cases e : B a with
  | none => rfl
  | some o => exact absurd (by rw [Oc, e]; exact fun z => nomatch z) h
end Gk
/-! Gk60: match of a tuple of texts. -/
namespace Gk
open PySem PySem.Spec PyProof.Rows L2
/-- cases over a tuple of texts -/
structure PMC (X : Cx) (cs : List MatchCase) (t : Pth → TS) : Prop where
  run : ∀ (pins : List (Addr × Obj)) (s : Shared) (σ : L2.St) (H : Hp) (D : Ends) (a : Addr) (p : Pth) (first : Bool), Inv X pins σ H s → H a = some (.tup (p.map V.str)) → t p D σ H → wpAny (model X.prog X.w) X.A (matchCases cs X.env (.ref a) first) (SP X pins D) X.xe s
section
variable {X : Cx} {b : List Stmt} {rest : List MatchCase} {u : TS} {t : Pth → TS} {lit x : Str} {j : Nat} {p1 p2 p3 p4 pos : Pos} {i : Nat}
theorem pmc_nil : PMC X [] (fun _ D σ H => D.nx σ H) := ⟨fun pins s σ H D a p first I _ h => wpAny_matchCases_nil ⟨σ, H, I, h⟩⟩
theorem pmc_one (hc : X.calm = true) (hb : PSs X b u) (hr : PMC X rest t) : PMC X (⟨.MatchSequence [.MatchValue (.Constant (.str lit) j p1) p2] p3, none, b⟩ :: rest) (fun p D σ H => if p = [lit] then u D σ H else t p D σ H) := by
  refine ⟨fun pins s σ H D a p first I ha h => ?_⟩
  obtain ⟨its, rv, ht, hz⟩ := I.tuple (SqT.of (K := X.K) ha)
  have hl : its.length = p.length := by rw [← rv.length, List.length_map]
  have fit : ((its.toArray.size : Nat) : Int) < 2 ^ 63 := by
    rw [List.size_toArray, ← rv.length]
    rw [sizeLine_eq] at hz
    have : (2 : Int) ^ 63 = 9223372036854775808 := by decide
    omega
  refine wpAny_matchCases_cons ?_
  match p, hl, h, ha, rv, ht with
  | [], hl, h, ha, rv, ht =>
    refine matchSeq_tuple_miss ht fit (by rw [List.size_toArray, hl]; simp) ?_
    exact hr.run pins _ σ H D a [] _ (I.tok _) ha (by rw [if_neg (fun z => nomatch z)] at h; exact h)
  | m :: y :: r, hl, h, ha, rv, ht =>
    refine matchSeq_tuple_miss ht fit (by rw [List.size_toArray, hl]; simp) ?_
    exact hr.run pins _ σ H D a (m :: y :: r) _ (I.tok _) ha (by rw [if_neg (fun z => nomatch z)] at h; exact h)
  | [m], hl, h, ha, rv, ht =>
    have hn : its.toArray.size = [Pattern.MatchValue (.Constant (.str lit) j p1) p2].length := by rw [List.size_toArray, hl]; rfl
    refine matchSeq_tuple_hit ht fit hn ?_
    rw [← hn]
    refine unpackItems_tuple (I.ok.hd hc) ht fun h' hx => ?_
    have I1 : Inv X pins σ H { s with heap := h', toks := s.toks + 1 + 1 } := I.kept (t' := s.toks + 1 + 1) fun b o e => hx b o (Nat.ne_of_lt (Heap.lt_size e)) e
    obtain ⟨v, rfl, r1⟩ := vals1 rv
    refine wpAny_matchEach_cons (wpAny_matchPattern_Value (thn (pe_str.run pins _ σ H (fun y H2 => y = .str lit ∧ H2 = H) I1 ⟨rfl, rfl⟩) fun w s2 ⟨y, H2, I2, r2, e1, e2⟩ => ?_))
    subst e1 e2
    refine thn (op_eq pins s2 σ H2 (.str m) (.str lit) v w (fun z H3 => z = .bl (decide (V.str m = V.str lit)) ∧ H3 = H2) I2 r1 r2 ⟨rfl, rfl, rfl⟩) fun c s3 ⟨z, H3, I3, r3, e1, e2⟩ => ?_
    subst e1 e2
    cases r3
    refine wpAny_truthy_bool ?_
    by_cases e : m = lit
    · rw [decide_eq_true (by rw [e] : V.str m = V.str lit)]
      rw [if_pos (by rw [e])] at h
      refine wpAny_matchEach_nil ?_
      exact wpAny_assignInOrder_none (hb.run pins _ σ H3 D I3 h)
    · rw [decide_eq_false (fun q => e (by injection q) : ¬ V.str m = V.str lit)]
      rw [if_neg (fun q => e (by injection q))] at h
      exact hr.run pins _ σ H3 D a [m] _ I3 ha h
theorem pmc_two (hc : X.calm = true) (hN : X.N.Nodup) (hi : X.N[i]? = some x) (hx : Loc X.env.scope x) (hb : PSs X b u) (hr : PMC X rest t) (hf : X.fn x = true ∨ X.env.scope.names.lookup x = some .local := by first | exact .inl rfl | exact .inr rfl | assumption) :
    PMC X (⟨.MatchSequence [.MatchValue (.Constant (.str lit) j p1) p2, .MatchAs none (some x) p4] p3, none, b⟩ :: rest) (fun p D σ H => match p with
      | [m, y] => if m = lit then u D (σ.set i (some (.str y))) H else t p D σ H
      | _ => t p D σ H) := by
  refine ⟨fun pins s σ H D a p first I ha h => ?_⟩
  obtain ⟨its, rv, ht, hz⟩ := I.tuple (SqT.of (K := X.K) ha)
  have hl : its.length = p.length := by rw [← rv.length, List.length_map]
  have fit : ((its.toArray.size : Nat) : Int) < 2 ^ 63 := by
    rw [List.size_toArray, ← rv.length]
    rw [sizeLine_eq] at hz
    have : (2 : Int) ^ 63 = 9223372036854775808 := by decide
    omega
  refine wpAny_matchCases_cons ?_
  match p, hl, h, ha, rv, ht with
  | [], hl, h, ha, rv, ht =>
    refine matchSeq_tuple_miss ht fit (by rw [List.size_toArray, hl]; simp) ?_
    exact hr.run pins _ σ H D a [] _ (I.tok _) ha h
  | [m], hl, h, ha, rv, ht =>
    refine matchSeq_tuple_miss ht fit (by rw [List.size_toArray, hl]; simp) ?_
    exact hr.run pins _ σ H D a [m] _ (I.tok _) ha h
  | m :: y :: z :: r, hl, h, ha, rv, ht =>
    refine matchSeq_tuple_miss ht fit (by rw [List.size_toArray, hl]; simp) ?_
    exact hr.run pins _ σ H D a (m :: y :: z :: r) _ (I.tok _) ha h
  | [m, y], hl, h, ha, rv, ht =>
    have hn : its.toArray.size = [Pattern.MatchValue (.Constant (.str lit) j p1) p2, .MatchAs none (some x) p4].length := by rw [List.size_toArray, hl]; rfl
    refine matchSeq_tuple_hit ht fit hn ?_
    rw [← hn]
    refine unpackItems_tuple (I.ok.hd hc) ht fun h' hx' => ?_
    have I1 : Inv X pins σ H { s with heap := h', toks := s.toks + 1 + 1 } := I.kept (t' := s.toks + 1 + 1) fun b o e => hx' b o (Nat.ne_of_lt (Heap.lt_size e)) e
    obtain ⟨v, v2, rfl, r1, r12⟩ := vals2 rv
    refine wpAny_matchEach_cons (wpAny_matchPattern_Value (thn (pe_str.run pins _ σ H (fun y H2 => y = .str lit ∧ H2 = H) I1 ⟨rfl, rfl⟩) fun w s2 ⟨y2, H2, I2, r2, e1, e2⟩ => ?_))
    subst e1 e2
    refine thn (op_eq pins s2 σ H2 (.str m) (.str lit) v w (fun z H3 => z = .bl (decide (V.str m = V.str lit)) ∧ H3 = H2) I2 r1 r2 ⟨rfl, rfl, rfl⟩) fun c s3 ⟨z, H3, I3, r3, e1, e2⟩ => ?_
    subst e1 e2
    cases r3
    refine wpAny_truthy_bool ?_
    have h : if m = lit then u D (σ.set i (some (.str y))) H3 else t [m, y] D σ H3 := h
    by_cases e : m = lit
    · rw [decide_eq_true (by rw [e] : V.str m = V.str lit)]
      rw [if_pos e] at h
      refine wpAny_matchEach_cons (wpAny_matchPattern_Capture (wpAny_matchEach_nil ?_))
      refine wpAny_assignInOrder_more (wpAny_bindName (store_ok I3 hN hi hx r12 (fun s4 I4 => ?_) hf))
      exact wpAny_assignInOrder_none (hb.run pins _ _ H3 D I4 h)
    · rw [decide_eq_false (fun q => e (by injection q) : ¬ V.str m = V.str lit)]
      rw [if_neg e] at h
      exact hr.run pins _ σ H3 D a [m, y] _ I3 ha h
theorem ps_matchT {e : Expr} {te : TE} {cs : List MatchCase} (he : PE X e te) (h : PMC X cs t) : PS X (.Match e cs pos) (fun D σ H => te σ H fun v H1 => ∃ a p, v = .ref a ∧ H1 a = some (.tup (p.map V.str)) ∧ t p D σ H1) := by
  refine ⟨fun pins s σ H D I q => ?_⟩
  refine wpAny_Match (thn (he.run pins s σ H _ I q) fun u s1 ⟨v, H1, I1, r, a, p, e, ha, q1⟩ => ?_)
  subst e
  cases r
  exact h.run pins s1 σ H1 D a p true I1 ha q1
end
end Gk
namespace Lw
open PySem L2 Gk
abbrev sOfKind : Stmt := topS 31
abbrev sContent : Stmt := topS 32
abbrev sValueIn : Stmt := topS 33
/-- the scope of a comprehension; what the last return hands in -/
def lcScope : Expr → Scope
  | .ListComp _ _ sc _ => sc
  | _ => default
def callArg : List Stmt → Expr
  | [.Return (some (.Call _ (e :: _) _ _)) _] => e
  | _ :: r => callArg r
  | [] => .Constant .none 0 default
def relab (o i : Scope) : Scope := { i with names := i.names.map fun (n, k) => if (k == NameKind.free && o.names.lookup n == some .cell) then (n, NameKind.cell) else (n, k) }
abbrev rLenK (K : PySem.W.Frag) : List V → Hp → VK → Prop := fun xs H Q => ∃ x n, xs = [x] ∧ L2.LenV K x H n ∧ Q (.int (n : Nat)) H
structure TxtO (mg : Str → Option Value) : Prop where
  z_isinstance : mg "isinstance" = none
  z_dict : mg "dict" = none
  z_all : mg "all" = none
  z_len : mg "len" = none
def spOfKind (n : Nat) : Sp := fun vs H Q _ => ∃ (f kv v : V) (B : Hp) (ms : Msgs) (ks : Cho) (k : Gk.Kind) (d : PyData), vs = [f, kv, v] ∧ IsFm B f ms ks ∧ Kp T0 B H ∧ Sch ms ∧ KsOk ks ∧ IsP H kv k ∧ KindOk ms k ∧ Dd (Oc B) H v d ∧ wfD d = true ∧ d.depth < n ∧ ∀ H2, Kp T0 H H2 → Q (.bl (okK ms ks d k)) H2
def spContent (n : Nat) : Sp := fun vs H Q _ => ∃ (f v : V) (x : Str) (B : Hp) (ms : Msgs) (ks : Cho) (d : PyData), vs = [f, .str x, v] ∧ IsFm B f ms ks ∧ Kp T0 B H ∧ Sch ms ∧ KsOk ks ∧ KindOk ms ["message", x] ∧ Dd (Oc B) H v d ∧ wfD d = true ∧ d.depth ≤ n ∧ ∀ H2, Kp T0 H H2 → Q (.bl (okK ms ks d ["message", x])) H2
def isDict : PyData → Bool
  | .dict _ => true
  | _ => false
theorem dd_isdict {K : PySem.W.Frag} {T : Addr → Prop} {H : Hp} {v : V} {d : PyData} (h : Dd T H v d) : ∃ t, TyX K H v t ∧ PySem.W.kitOne K t (.type "dict") = some (isDict d) := by
  cases h with
  | sc s =>
    cases s with
    | non => exact ⟨_, .base .non, kit_ty (by decide +kernel)⟩
    | bl b => exact ⟨_, .base (.bl b), kit_ty (show kitB "bool" "dict" = some false by decide +kernel)⟩
    | int i => exact ⟨_, .base (.int i), kit_ty (show kitB "int" "dict" = some false by decide +kernel)⟩
    | str x => exact ⟨_, .base (.str x), kit_ty (show kitB "str" "dict" = some false by decide +kernel)⟩
  | lst n e r => exact ⟨_, .base (.lst e), kit_ty (show kitB "list" "dict" = some false by decide +kernel)⟩
  | tup n e r => exact ⟨_, .base (.tup e), kit_ty (show kitB "tuple" "dict" = some false by decide +kernel)⟩
  | dict n e r => exact ⟨_, .base (.dK e), kit_ty (show kitB "dict" "dict" = some true by decide +kernel)⟩
/-- the rows of a name -/
theorem rd_rows1 {K : PySem.W.Frag} {st : L2.St} {H : Hp} {f : V} {ms : Msgs} {ks : Cho} {n : Str} {R : It → Hp → Prop} (fm : IsFm H f ms ks) (h0 : st[0]? = some (some f)) (h1 : st[1]? = some (some (.str n)))
    (k : ∀ ra xs H3, Kp T0 H H3 → H3 ra = some (.lst xs) → Ps H3 xs (rowsOf ks n) → R (Itl K ra) H3) : iList K (tDGet2N (tDGet (tVar 0) (tC (.str "choices"))) (tVar 1) (tLst tNil)) st H R := by
  obtain ⟨fd, ca, ck, rfl, dg, hc, pc⟩ := fm_chos fm
  refine ⟨_, h0, fd, _, rfl, dg, ca, rfl, .inl ⟨ck, .inl hc⟩, _, h1, Nat.zero_le _, fun l0 hl0 => ?_⟩
  have k1 : Kp T0 H (upd H l0 (.lst [])) := (Kp.refl H).new hl0
  have d1 : (upd H l0 (.lst [])) l0 = some (.lst []) := upd_same
  have hc1 := k1.at0 hc
  have pc1 : Paired (Ent (IsRs (upd H l0 (.lst [])))) ck ks := ent_map pc fun _ _ _ z => z.keep0 k1
  rcases ent_find n pc1 with ⟨e1, e2⟩ | ⟨rows, v, e1, e2, ra, xs, rfl, hr, hp⟩
  · refine .inl ⟨none, .inl ⟨ck, .inr n, .inl hc1, rfl, e2.symm⟩, l0, rfl, ⟨[], SqL.of d1⟩, k l0 [] _ k1 d1 ?_⟩
    show Ps _ [] ((ks.lookup n).getD [])
    rw [e1]
    exact .nil
  · refine .inl ⟨some (.ref ra), .inl ⟨ck, .inr n, .inl hc1, rfl, e2.symm⟩, ra, rfl, ⟨xs, SqL.of hr⟩, k ra xs _ k1 hr ?_⟩
    show Ps _ xs ((ks.lookup n).getD [])
    rw [e1]
    exact hp
/-- the rows, as an iterable -/
def iRows1 (K : PySem.W.Frag) : TI := fun st H R => ∃ (f : V) (ms : Msgs) (ks : Cho) (n : Str), st[0]? = some (some f) ∧ st[1]? = some (some (.str n)) ∧ IsFm H f ms ks ∧ ∀ ra xs H3, Kp T0 H H3 → H3 ra = some (.lst xs) → Ps H3 xs (rowsOf ks n) → R (Itl K ra) H3
theorem pi_rows1 {X : Cx} {tg it : Expr} (h : PI X tg it (iList X.K (tDGet2N (tDGet (tVar 0) (tC (.str "choices"))) (tVar 1) (tLst tNil)))) : PI X tg it (iRows1 X.K) := pi_imp h fun st H R q => by
  obtain ⟨f, ms, ks, n, h0, h1, fm, k⟩ := q
  exact rd_rows1 fm h0 h1 k
theorem okK_other {ms : Msgs} {ks : Cho} {d : PyData} (h : isDict d = false) (x : Str) : okK ms ks d ["message", x] = false := by
  cases d with
  | dict ds => cases h
  | none => rw [okK]
  | list xs => rw [okK]
  | tuple xs => rw [okK]
  | bool b => rw [okK]; exact decide_eq_false (fun z => by injection z with a b; cases b)
  | int i => rw [okK, decide_eq_false (fun z => by injection z with a b; cases b)]; rfl
  | str y => rw [okK, decide_eq_false (fun z => by injection z with a b; cases b)]; rfl
section
variable {P : Program} {w : World} {K : PySem.W.Frag} {mg : Str → Option Value} {base : Heap}
abbrev NCt : List Str := ["forms", "name", "value", "fields", "field", "part", "choice"]
theorem scContent : FnScope NCt ["forms", "name", "value"] (defScope sContent) := ⟨rfl, rfl, rfl, by decide +kernel, rfl, by decide +kernel, by decide +kernel⟩
theorem ok_content {n0 : Nat} {f fN fK : Addr} {fd : FuncData} (F : Fun K "is_content_in" "is_content_in" sContent f fd) (T : TxtO mg) (DN : Df P w K mg base 2 fN "is_name" ["value"] (spIsName K)) (DK : Df P w K mg base (3 + 2 * n0) fK "is_of_kind" ["forms", "kind", "value"] (spOfKind n0)) : FnOk P w K mg base CX0 (4 + 2 * n0) f fd ["forms", "name", "value"] (spContent n0) := by
  have e4 : 4 + 2 * n0 = (3 + 2 * n0) + 1 := by omega
  rw [e4]
  refine F.ok scContent (fun vs H Q E h => ?_) (fun cdv A outer s H vs Q E hr h => ?_)
  · obtain ⟨_, _, _, _, _, _, _, rfl, _⟩ := h
    rfl
  · obtain ⟨fv, v, x, B, ms, ks, d, rfl, fm, kB, S, kok, kx, dd, wf, dep, q⟩ := h
    have hx : (ms.lookup x).isSome = true := kx.2 x rfl
    have hz : (16777216 : Nat) = PySem.sizeLine := PySem.sizeLine_eq.symm
    have hu := hu_of hr
    have r2 : Room 2 _ := hr.mono (by omega)
    refine ⟨_, pss_cons (ps_if (pt_not (pt_val (pe_callB call_isi (by rfl) T.z_isinstance (by decide +kernel) (pa_cons (pv 2) (pa_cons (pe_bltn (v := .ty "dict") (by rfl) T.z_dict (by decide +kernel) rfl) pa_nil))))) (pss_one (ps_ret pe_bl)) pss_nil)
      (pss_cons (ps_set (i := 3) scContent.nd rfl (Or.inl rfl) (pe_dget hu (pe_dget hu (pv 0) pe_str (fun _ _ => rfl)) (pv 1) (fun _ _ => rfl)))
      (pss_cons (ps_lock (ps_for PassesOwn.never rfl (pi_items (pv 2)) (pg_tup rfl (pgs_cons (pg_name (i := 4) scContent.nd rfl (Or.inl rfl)) (pgs_cons (pg_name (i := 5) scContent.nd rfl (Or.inl rfl)) pgs_nil)))
        (pss_one (ps_if (PW.pt (pw_or (pt_not (pt_val (pe_df DN r2 (by rfl) (pa_cons (pv 4) pa_nil)))) (pw_or (pt_cmp (pc_dnotin hu (pv 4) (pv 3))) (pw_or1 (pt_not (pt_val (pe_df DK hr (by rfl) (pa_cons (pv 0) (pa_cons (pe_dget hu (pv 3) (pv 4) (fun _ _ => rfl)) (pa_cons (pv 5) pa_nil)))))))))) (pss_one (ps_ret pe_bl)) pss_nil))))
      (pss_one (ps_ret (pe_callB (cr_all rfl) (by rfl) T.z_all (by decide +kernel) (pa_cons (pe_lc (te := tOp (rI0 fun i j => .bl (decide (i < j))) (tCB (rLenK K) (tCons (tLc (iTup K (tVar 6)) (gName 4) (tTest (tDIn (tVar 4) (tVar 2))) (tVar 4) [4]) tNil)) (tC (.int 2))) (own := [("choice", 6)]) (g := gName 6) (tt := tYes) rfl scContent.nd
          (pi_rows1 (pi_list (pe_dget2N hu (pe_dget hu (pv 0) pe_str (fun _ _ => rfl)) (pv 1) (pe_lst pa_nil) ⟨by rfl, by rfl, by rfl, by rfl⟩)))
          (blkOk_by (N := NCt) (sc := defScope sContent) (by decide +kernel)) (fun _ _ _ _ _ => pg_name (i := 6) scContent.nd rfl (Or.inl rfl)) (fun _ _ _ _ _ => pts_nil)
          (fun _ _ _ _ _ => pe_cmpR op_lt (pe_callB call_len (by rfl) T.z_len PySem.boot_len (pa_cons (pe_lc (wi := iTup K (tVar 6)) (te := tVar 4) (tt := tTest (tDIn (tVar 4) (tVar 2))) (own := [("field", 4)]) (g := gName 4) rfl scContent.nd (pi_tup (pv 6)) (blkOk_by (N := NCt) (sc := relab (defScope sContent) (lcScope (callArg (defBody sContent)))) (by decide +kernel)) (fun _ _ _ _ _ => pg_name (i := 4) scContent.nd rfl (Or.inl rfl)) (fun _ _ _ _ _ => pts_one (pt_cmp (pc_din hu (pv 4) (pv 2)))) (fun _ _ _ _ _ => pv 4)) pa_nil)) pe_int (nomark _))) pa_nil)))))), ?_⟩
    obtain ⟨t, ty, kit⟩ := dd_isdict (K := K) dd
    refine ⟨_, rfl, _, _, _, _, isDict d, rfl, .ty "dict", ty, kit, isDict d, rfl, ?_⟩
    cases hd : isDict d with
    | false =>
      refine iteT ?_
      have z := q H (Kp.refl H)
      rw [okK_other hd] at z
      exact z
    | true =>
    refine iteF ?_
    cases d with
    | none => cases hd
    | bool b => cases hd
    | int i => cases hd
    | str x => cases hd
    | list xs => cases hd
    | tuple xs => cases hd
    | dict ds =>
    cases dd with
    | sc s => cases s
    | @dict a kvs _ nT ha r =>
    have ll : kvs.length = ds.length := ddk_len r
    have few : ds.length < 1000 := by
      unfold wfD at wf
      rw [Bool.and_eq_true] at wf
      exact of_decide_eq_true wf.1
    have wfe : wfE ds = true := by
      unfold wfD at wf
      rw [Bool.and_eq_true] at wf
      exact wf.2
    -- fields
    obtain ⟨fd, ma, ca, mk, ck, rfl, h1, h2, p2, h3, p3⟩ := id fm
    rcases ent_find x p2 with ⟨e1, _⟩ | ⟨fs, vF, e1, e2, isF⟩
    · rw [e1] at hx
      cases hx
    have efs : fldsOf ms x = fs := by
      unfold fldsOf
      rw [e1]
      rfl
    refine ⟨_, rfl, fd, _, rfl, .inl ⟨_, .inr "messages", .inl (kB.at0 h1), rfl, rfl⟩, _, rfl, ma, vF, rfl, .inl ⟨mk, .inr x, .inl (kB.at0 h2), rfl, e2.symm⟩, ?_⟩
    have oke : okK ms ks (.dict ds) ["message", x] = ((ds.all (okP ms ks fun n => fs.lookup n)) && choB (rowsOf ks x) ds) := by
      unfold okK
      show (if ("message" : Str) = "message" then _ else _) = _
      rw [if_pos rfl, okE_all, efs]
    -- each field
    refine ⟨a, .dK kvs, ha, trivial, fun od => ⟨_, rfl, a, od, kvs, rfl, upd_same, ?_⟩⟩
    have na : (upd H a (.frz od (.dK kvs))) a = some (.frz od (.dK kvs)) := upd_same
    have kG : Kp T0 B (upd H a (.frz od (.dK kvs))) := kB.over (oc_none nT)
    have rG : DdK (Oc B) (upd H a (.frz od (.dK kvs))) kvs ds := parts_away nT ha r
    have back : ∀ H2, Kp T0 (upd H a (.frz od (.dK kvs))) H2 → Kp T0 H (upd H2 a (.dK kvs)) := fun H2 k => kp_unlock ha k
    generalize upd H a (.frz od (.dK kvs)) = G at na kG rG back ⊢
    refine for_it (walk_items (d := a) (o := od) (kvs := kvs)) (fun i st H2 => Kp T0 G H2 ∧ ((ds.take i).all (okP ms ks fun n => fs.lookup n)) = true ∧ ∃ o4 o5 : Option V, st = [some (.ref fd), some (.str x), some (.ref a), some vF, o4, o5, none])
      ⟨Kp.refl G, rfl, none, none, rfl⟩ (fun i st H2 _ p => p.1.at0 na) (fun i y st H2 H3 hi p y1 => ?_) (fun st H2 p => ?_)
    · obtain ⟨k2, ok, o4, o5, rfl⟩ := p
      obtain ⟨tp, x1, y1, rfl, htp, rfl, ex, ey⟩ := y1
      have hk : kvs[i]? = some kvs[i] := List.getElem?_eq_getElem hi
      dsimp only at ex ey
      rw [hk] at ex ey
      generalize kvs[i] = kv at hk ex ey
      obtain ⟨key, vp⟩ := kv
      cases Option.some.inj ey
      obtain ⟨d, hds, dp⟩ := ddk_at (DdK.keep k2.wide rG) hk
      obtain ⟨wk, wd⟩ := wfE_at wfe hds
      have hdp := ddk_depth hds
      have ex2 : x1 = kV key := (Option.some.inj ex).symm
      subst ex2
      have k3 : Kp T0 G (upd H2 tp (.tup [kV key, vp])) := k2.new htp
      have dp3 : Dd (Oc B) (upd H2 tp (.tup [kV key, vp])) vp d := dp.keep ((Kp.refl H2).new htp : Kp T0 H2 _).wide
      have htp3 : (upd H2 tp (.tup [kV key, vp])) tp = some (.tup [kV key, vp]) := upd_same
      generalize upd H2 tp (.tup [kV key, vp]) = H3 at k3 dp3 htp3 ⊢
      refine ⟨tp, [kV key, vp], rfl, SqT.of htp3, rfl, _, _, rfl, _, _, rfl, rfl, ?_⟩
      have nextB : okP ms ks (fun n => fs.lookup n) (dKey key, d) = true → ((ds.take (i + 1)).all (okP ms ks fun n => fs.lookup n)) = true := fun h => by
        rw [List.take_add_one, hds, List.all_append, ok, Bool.true_and]
        show (okP ms ks _ (dKey key, d) && true) = true
        rw [h]
        rfl
      have noB : okP ms ks (fun n => fs.lookup n) (dKey key, d) = false → okK ms ks (.dict ds) ["message", x] = false := fun h => by
        rw [oke]
        cases e : ds.all (okP ms ks fun n => fs.lookup n) with
        | false => rfl
        | true =>
          have z := List.all_eq_true.mp e _ (List.mem_of_getElem? hds)
          rw [h] at z
          cases z
      have bad : ∀ H5, Kp T0 G H5 → okP ms ks (fun n => fs.lookup n) (dKey key, d) = false → Q (.bl false) (upd H5 a (.dK kvs)) := fun H5 k5 h => by
        have z := q _ (back _ k5)
        rw [noB h] at z
        exact z
      have stop : ∀ H5, Kp T0 G H5 → H5 a = some (.frz od (.dK kvs)) := fun H5 k5 => k5.at0 na
      -- if not is_name(field)
      have itn : ItN K H3 (kV key) (match dKey key with | .str n => isNm n | _ => false) := by
        cases key with
        | inl j => exact .inr ⟨⟨.type "int", .base (.int j), kit_ty (show kitB "int" "str" = some false by decide +kernel)⟩, rfl⟩
        | inr n => exact .inl ⟨n, rfl, Nat.lt_trans (wk n rfl) (by rw [PySem.sizeLine_eq]; decide), rfl⟩
      refine ⟨_, rfl, kV key, _, rfl, itn, fun H4 k4 => ⟨_, rfl, ?_⟩⟩
      have k04 := k3.trans k4
      cases key with
      | inl j => exact iteT (iteT ⟨stop _ k04, bad _ k04 rfl⟩)
      | inr n =>
      have okp : okP ms ks (fun n => fs.lookup n) (dKey (.inr n), d) = (isNm n && (match fs.lookup n with
        | some k => okK ms ks d k
        | none => false)) := rfl
      show if (!isNm n) = true then _ else _
      cases en : isNm n with
      | false => exact iteT (iteT ⟨stop _ k04, bad _ k04 (by rw [okp, en]; rfl)⟩)
      | true =>
      refine iteF ?_
      obtain ⟨fa, fk, rfl, hfa, pf⟩ := id isF
      have kB4 := kG.trans k04
      rcases ent_find n pf with ⟨e3, e4⟩ | ⟨k, kv, e3, e4, ip⟩
      · refine ⟨_, rfl, _, rfl, fa, none, rfl, .inl ⟨fk, .inr n, .inl (kB4.at0 hfa), rfl, e4.symm⟩, _, rfl, ?_⟩
        exact iteT (iteT ⟨stop _ k04, bad _ k04 (by rw [okp, en, e3]; rfl)⟩)
      · refine ⟨_, rfl, _, rfl, fa, some kv, rfl, .inl ⟨fk, .inr n, .inl (kB4.at0 hfa), rfl, e4.symm⟩, _, rfl, ?_⟩
        refine iteF ?_
        have okk : KindOk ms k := step_ok S kx (n := n) (by rw [step_msg, efs]; exact e3)
        have hdep : d.depth < n0 := by
          have : PyData.depthKv ds + 1 ≤ n0 := dep
          omega
        refine ⟨_, rfl, _, rfl, _, rfl, fa, kv, rfl, .inl ⟨fk, .inr n, .inl (kB4.at0 hfa), rfl, e4.symm⟩, _, rfl, .ref fd, kv, vp, B, ms, ks, k, d, rfl, fm, kB4, S, kok, ip.keep0 kB4, okk, dp3.keep k4.wide, wd, hdep, fun H5 k5 => ⟨_, rfl, ?_⟩⟩
        have k05 := k04.trans k5
        cases eo : okK ms ks d k with
        | false => exact iteT ⟨stop _ k05, bad _ k05 (by rw [okp, en, e3]; exact eo)⟩
        | true => exact iteF ⟨k05, nextB (by rw [okp, en, e3]; exact eo), _, _, rfl⟩
    obtain ⟨k2, ok, o4, o5, rfl⟩ := p
    rw [ll, List.take_length] at ok
    refine ⟨k2.at0 na, ?_⟩
    have K1 := back _ k2
    have ha1 : (upd H2 a (.dK kvs)) a = some (.dK kvs) := upd_same
    generalize upd H2 a (.dK kvs) = G1 at K1 ha1 ⊢
    rw [oke, ok, Bool.true_and] at q
    -- the choices
    obtain ⟨rl, rok⟩ := rows_small kok (some x)
    have rl : (Gk.rowsOf ks x).length < 64 := rl
    have rok : ∀ p ∈ Gk.rowsOf ks x, RowOk p := rok
    refine ⟨.ref fd, ms, ks, x, rfl, rfl, (fm.keep0 kB).keep0 K1, fun ra xs H3 k3 hr hps D hD => ?_⟩
    generalize Gk.rowsOf ks x = rows at rl rok hps q
    have lx : xs.length = rows.length := Paired.length hps
    have K3 := K1.trans k3
    have ha3 := k3.at0 ha1
    refine lc_kp (T := T0) (walk_list (xs := xs)) (i0 := 6) (fun i v => xs[i]? = some v) (fun i zs _ => zs = (rows.take i).map fun c => V.bl (decide ((c.filter fun n => hasK ds n).length < 2))) (fun _ _ _ _ _ y => y) hD id (by omega) (wipe1 _ 6) (fun H4 k4 => SqL.of (k4.at0 hr)) rfl
      (fun i v zs H4 Ky Kn hi sx k4 d4 pz ky kn => ?_) (fun zs H4 k4 d4 lz pz => ?_)
    · obtain ⟨c, hc, ic⟩ := Ps.get hps sx
      obtain ⟨cl, cn⟩ := rok c (List.mem_of_getElem? hc)
      obtain ⟨cb, rfl, hcb⟩ := ic.keep0 k4
      have ha4 := k4.at0 ha3
      refine yes_ ?_
      refine ⟨_, rfl, cb, rfl, ⟨_, SqT.of hcb⟩, fun D2 hD2 => ?_⟩
      refine lc_kp (T := T0) (walk_tup (xs := c.map V.str)) (i0 := 4) (fun j v => (c.map V.str)[j]? = some v) (fun j zs _ => zs = ((c.take j).filter fun n => hasK ds n).map V.str) (fun _ _ _ _ _ y => y) hD2 id (by rw [List.length_map]; omega) (wipe1 _ 4) (fun H5 k5 => SqT.of (k5.at0 hcb)) rfl
        (fun j v ws H5 Ky2 Kn2 hj sy k5 d5 pw ky2 kn2 => ?_) (fun ws H5 k5 d5 lw pw => ?_)
      · rw [List.getElem?_map] at sy
        cases ey : c[j]? with
        | none =>
          rw [ey] at sy
          cases sy
        | some y =>
          rw [ey] at sy
          cases Option.some.inj sy
          refine ⟨_, rfl, _, rfl, a, valV kvs (.inr y), rfl, .inl ⟨kvs, .inr y, .inl (k5.at0 ha4), rfl, rfl⟩, _, rfl, ?_⟩
          rw [hasK_val y r]
          have tk : (c.take (j + 1)).filter (fun n => hasK ds n) = (c.take j).filter (fun n => hasK ds n) ++ [y].filter (fun n => hasK ds n) := by
            rw [List.take_add_one, ey, List.filter_append]
            rfl
          cases eh : hasK ds y with
          | true =>
            refine iteT ⟨_, rfl, ?_⟩
            refine ky2 _ _ (Kp.refl _) ?_
            rw [pw, tk, List.filter_cons_of_pos (by rw [eh]), List.map_append]
            rfl
          | false =>
            refine iteF ?_
            refine kn2 _ (Kp.refl _) ?_
            rw [pw, tk, List.filter_cons_of_neg (by rw [eh]; exact Bool.false_ne_true), List.filter_nil, List.append_nil]
      rw [List.length_map, List.take_of_length_le (Nat.le_refl _)] at pw
      subst pw
      refine ⟨_, _, rfl, .inl ⟨_, SqL.of d5, rfl⟩, _, _, rfl, rfl, ?_⟩
      refine ky _ _ k5 ?_
      rw [pz, List.take_add_one, hc, List.map_append, List.length_map]
      show _ = _ ++ [V.bl (decide ((c.filter fun n => hasK ds n).length < 2))]
      congr 3
      show V.bl (decide (((List.filter (fun n => hasK ds n) c).length : Int) < 2)) = _
      congr 1
      exact decide_eq_decide.mpr (by omega)
    rw [lx, List.take_length] at pz
    refine ⟨D, rows.map fun c => decide ((c.filter fun n => hasK ds n).length < 2), rfl, SqL.of (by rw [d4, pz, List.map_map]; rfl), ?_⟩
    have z := q _ (K3.trans k4)
    rw [List.all_map]
    exact z
theorem okK_txt {ms : Msgs} {ks : Cho} (d : PyData) : okK ms ks d ["text"] = textK (kdOf d) := by
  cases d with
  | str x => rw [okK]; show (decide _ && _) = _; rw [decide_eq_true rfl]; rfl
  | int i => rw [okK, decide_eq_false (fun z => by injection z with a b; exact absurd a (by decide))]; rfl
  | bool b => rw [okK]; exact decide_eq_false (fun z => by injection z with a b; exact absurd a (by decide))
  | dict ds => unfold okK; rfl
  | list xs => rw [okK]; rfl
  | tuple xs => rw [okK]; rfl
  | none => rw [okK]; rfl
theorem okK_num {ms : Msgs} {ks : Cho} (d : PyData) : okK ms ks d ["number"] = numK (kdOf d) := by
  cases d with
  | int i => rw [okK]; show (decide _ && _) = _; rw [decide_eq_true rfl]; rfl
  | str x => rw [okK, decide_eq_false (fun z => by injection z with a b; exact absurd a (by decide))]; rfl
  | bool b => rw [okK]; exact decide_eq_false (fun z => by injection z with a b; exact absurd a (by decide))
  | dict ds => unfold okK; rfl
  | list xs => rw [okK]; rfl
  | tuple xs => rw [okK]; rfl
  | none => rw [okK]; rfl
theorem okK_flag {ms : Msgs} {ks : Cho} (d : PyData) : okK ms ks d ["flag"] = flagK (kdOf d) := by
  cases d with
  | bool i => rw [okK]; exact decide_eq_true rfl
  | str x => rw [okK, decide_eq_false (fun z => by injection z with a b; exact absurd a (by decide))]; rfl
  | int b => rw [okK, decide_eq_false (fun z => by injection z with a b; exact absurd a (by decide))]; rfl
  | dict ds => unfold okK; rfl
  | list xs => rw [okK]; rfl
  | tuple xs => rw [okK]; rfl
  | none => rw [okK]; rfl
theorem okK_map {ms : Msgs} {ks : Cho} {d : PyData} (h : isDict d = false) (x : Str) : okK ms ks d ["map", x] = false := by
  cases d with
  | dict ds => cases h
  | none => rw [okK]
  | list xs => rw [okK]
  | tuple xs => rw [okK]
  | bool b => rw [okK]; exact decide_eq_false (fun z => by injection z with a b; cases b)
  | int i => rw [okK, decide_eq_false (fun z => by injection z with a b; cases b)]; rfl
  | str y => rw [okK, decide_eq_false (fun z => by injection z with a b; cases b)]; rfl
theorem okK_mapD {ms : Msgs} {ks : Cho} {ds : List (PyData × PyData)} (x : Str) : okK ms ks (.dict ds) ["map", x] = (!ds.isEmpty && ds.all (okP ms ks fun _ => some [x])) := by
  unfold okK
  show (if ("map" : Str) = "message" then _ else _) = _
  rw [if_neg (by decide), okE_all]
/-- the kinds there are -/
theorem kinds_are {k : Gk.Kind} (h : kindP k = true) : k = [("text" : Str)] ∨ k = [("number" : Str)] ∨ k = [("flag" : Str)] ∨ (∃ x : Str, k = [("message" : Str), x]) ∨ ∃ x : Str, k = [("map" : Str), x] ∧ kindP [x] = true := by
  match k, h with
  | [x], h =>
    have h : scalarS x = true := h
    unfold scalarS at h
    simp only [Bool.or_eq_true, decide_eq_true_eq] at h
    rcases h with e | e | e
    · subst e; exact .inl rfl
    · subst e; exact .inr (.inl rfl)
    · subst e; exact .inr (.inr (.inl rfl))
  | [m, x], h =>
    have h : ((decide (m = "map") && scalarS x) || (decide (m = "message") && isNm x)) = true := h
    simp only [Bool.or_eq_true, Bool.and_eq_true, decide_eq_true_eq] at h
    rcases h with h | h
    · exact .inr (.inr (.inr (.inr ⟨x, by rw [h.1], h.2⟩)))
    · exact .inr (.inr (.inr (.inl ⟨x, by rw [h.1]⟩)))
  | [], h => cases h
  | _ :: _ :: _ :: _, h => cases h
abbrev NOk : List Str := ["forms", "kind", "value", "inner", "name", "part"]
theorem scOfKind : FnScope NOk ["forms", "kind", "value"] (defScope sOfKind) := ⟨rfl, rfl, rfl, by decide +kernel, rfl, by decide +kernel, by decide +kernel⟩
theorem ok_ofKind {n0 : Nat} {f fN fT fNu fF fC : Addr} {fd : FuncData} (F : Fun K "is_of_kind" "is_of_kind" sOfKind f fd) (T : TxtO mg) (DN : Df P w K mg base 2 fN "is_name" ["value"] (spIsName K))
    (DT : Df P w K mg base 2 fT "is_text" ["value"] (spKd K textK)) (DNu : Df P w K mg base 1 fNu "is_number" ["value"] (spKd K numK)) (DF : Df P w K mg base 1 fF "is_flag" ["value"] (spKd K flagK))
    (DC : Df P w K mg base (4 + 2 * n0) fC "is_content_in" ["forms", "name", "value"] (spContent n0)) (DK : Df P w K mg base (3 + 2 * n0) f "is_of_kind" ["forms", "kind", "value"] (spOfKind n0)) : FnOk P w K mg base CX0 (3 + 2 * (n0 + 1)) f fd ["forms", "kind", "value"] (spOfKind (n0 + 1)) := by
  have e4 : 3 + 2 * (n0 + 1) = (4 + 2 * n0) + 1 := by omega
  rw [e4]
  refine F.ok scOfKind (fun vs H Q E h => ?_) (fun cdv A outer s H vs Q E hr h => ?_)
  · obtain ⟨_, _, _, _, _, _, _, _, rfl, _⟩ := h
    rfl
  · obtain ⟨fv, kv, v, B, ms, ks, k, d, rfl, fm, kB, S, kok, ip, okk, dd, wf, dep, q⟩ := h
    have hz : (16777216 : Nat) = PySem.sizeLine := PySem.sizeLine_eq.symm
    have hu := hu_of hr
    have r3 : Room (3 + 2 * n0) _ := hr.mono (by omega)
    have r2 : Room 2 _ := hr.mono (by omega)
    have r1 : Room 1 _ := hr.mono (by omega)
    refine ⟨_, pss_cons (ps_matchT (pv 1) (pmc_one (by rfl) (pss_one (ps_ret (pe_df DT r2 (by rfl) (pa_cons (pv 2) pa_nil)))) (pmc_one (by rfl) (pss_one (ps_ret (pe_df DNu r1 (by rfl) (pa_cons (pv 2) pa_nil)))) (pmc_one (by rfl) (pss_one (ps_ret (pe_df DF r1 (by rfl) (pa_cons (pv 2) pa_nil))))
        (pmc_two (i := 3) (by rfl) scOfKind.nd rfl (Or.inl rfl) (pss_one (ps_ret (pe_df DC hr (by rfl) (pa_cons (pv 0) (pa_cons (pv 3) (pa_cons (pv 2) pa_nil)))))) pmc_nil)))))
      (pss_cons (ps_if (PW.pt (pw_or (pt_not (pt_val (pe_callB call_isi (by rfl) T.z_isinstance (by decide +kernel) (pa_cons (pv 2) (pa_cons (pe_bltn (v := .ty "dict") (by rfl) T.z_dict (by decide +kernel) rfl) pa_nil))))) (pw_or1 (pt_cmpR (op_eq0 (Nat.lt_of_succ_lt hu)) (pv 2) pe_dnewK (nomark _))))) (pss_one (ps_ret pe_bl)) pss_nil)
      (pss_one (ps_ret (pe_callB (cr_all rfl) (by rfl) T.z_all (by decide +kernel) (pa_cons (pe_lock (pe_lc (own := [("name", 4), ("part", 5)]) (g := g2 K 4 5) (tt := tYes) rfl scOfKind.nd (pi_items (pv 2))
        (blkOk_by (N := NOk) (sc := defScope sOfKind) (by decide +kernel)) (fun _ _ _ _ _ => pg_tup rfl (pgs_cons (pg_name (i := 4) scOfKind.nd rfl (Or.inl rfl)) (pgs_cons (pg_name (i := 5) scOfKind.nd rfl (Or.inl rfl)) pgs_nil))) (fun _ _ _ _ _ => pts_nil)
        (fun _ _ _ _ _ => pe_and (pe_df DN r2 (by rfl) (pa_cons (pv 4) pa_nil)) (pe_one (pe_df DK r3 (by rfl) (pa_cons (pv 0) (pa_cons (pe_tup (pa_cons (pe_ix (r := rIx K) ix_seq (pv 1) pe_int (fun _ _ => rfl)) pa_nil)) (pa_cons (pv 5) pa_nil)))))))) pa_nil))))), ?_⟩
    obtain ⟨ka, rfl, hka⟩ := id ip
    refine ⟨_, rfl, ka, k, rfl, hka, ?_⟩
    rcases kinds_are okk.1 with rfl | rfl | rfl | ⟨x, rfl⟩ | ⟨x, rfl, kx⟩
    · show (if ([("text" : Str)] : Pth) = [("text" : Str)] then _ else _)
      rw [if_pos rfl]
      refine ⟨_, rfl, v, kdOf d, rfl, dd_kd dd wf, fun H2 k2 => ?_⟩
      have z := q H2 k2
      rw [okK_txt] at z
      exact z
    · show (if ([("number" : Str)] : Pth) = [("text" : Str)] then _ else if ([("number" : Str)] : Pth) = [("number" : Str)] then _ else _)
      rw [if_neg (by decide), if_pos rfl]
      refine ⟨_, rfl, v, kdOf d, rfl, dd_kd dd wf, fun H2 k2 => ?_⟩
      have z := q H2 k2
      rw [okK_num] at z
      exact z
    · show (if ([("flag" : Str)] : Pth) = [("text" : Str)] then _ else if ([("flag" : Str)] : Pth) = [("number" : Str)] then _ else if ([("flag" : Str)] : Pth) = [("flag" : Str)] then _ else _)
      rw [if_neg (by decide), if_neg (by decide), if_pos rfl]
      refine ⟨_, rfl, v, kdOf d, rfl, dd_kd dd wf, fun H2 k2 => ?_⟩
      have z := q H2 k2
      rw [okK_flag] at z
      exact z
    · show (if ([("message" : Str), x] : Pth) = [("text" : Str)] then _ else if ([("message" : Str), x] : Pth) = [("number" : Str)] then _ else if ([("message" : Str), x] : Pth) = [("flag" : Str)] then _ else if ("message" : Str) = "message" then _ else _)
      rw [if_neg (fun z => nomatch z), if_neg (fun z => nomatch z), if_neg (fun z => nomatch z), if_pos rfl]
      exact ⟨_, rfl, _, rfl, _, rfl, fv, v, x, B, ms, ks, d, rfl, fm, kB, S, kok, okk, dd, wf, Nat.le_of_lt_succ dep, q⟩
    show (if ([("map" : Str), x] : Pth) = [("text" : Str)] then _ else if ([("map" : Str), x] : Pth) = [("number" : Str)] then _ else if ([("map" : Str), x] : Pth) = [("flag" : Str)] then _ else if ("map" : Str) = "message" then _ else _)
    rw [if_neg (fun z => nomatch z), if_neg (fun z => nomatch z), if_neg (fun z => nomatch z), if_neg (by decide)]
    obtain ⟨t, ty, kit⟩ := dd_isdict (K := K) dd
    refine ⟨_, rfl, _, _, _, _, isDict d, rfl, .ty "dict", ty, kit, isDict d, rfl, ?_⟩
    cases hd : isDict d with
    | false =>
      refine iteT (iteT ?_)
      have z := q H (Kp.refl H)
      rw [okK_map hd] at z
      exact z
    | true =>
    refine iteF ?_
    cases d with
    | none => cases hd
    | bool b => cases hd
    | int i => cases hd
    | str x => cases hd
    | list xs => cases hd
    | tuple xs => cases hd
    | dict ds =>
    cases dd with
    | sc s => cases s
    | @dict a kvs _ nT ha r =>
    have ll : kvs.length = ds.length := ddk_len r
    have few : ds.length < 1000 := by
      unfold wfD at wf
      rw [Bool.and_eq_true] at wf
      exact of_decide_eq_true wf.1
    have wfe : wfE ds = true := by
      unfold wfD at wf
      rw [Bool.and_eq_true] at wf
      exact wf.2
    rw [okK_mapD] at q
    -- value == {}
    refine ⟨_, rfl, fun p0 hp0 => ?_⟩
    have g0 : Kp T0 H (upd H p0 (.dK [])) := (Kp.refl H).new hp0
    refine ⟨a, p0, kvs, rfl, rfl, g0.at0 ha, upd_same, _, rfl, ?_⟩
    have ee : kvs.isEmpty = ds.isEmpty := by
      cases r <;> rfl
    rw [ee]
    cases ed : ds.isEmpty with
    | true =>
      refine iteT ?_
      have z := q _ g0
      rw [ed] at z
      exact z
    | false =>
    refine iteF ?_
    rw [ed] at q
    have ha0 := g0.at0 ha
    have r0 := DdK.keep g0.wide r
    have kB0 := kB.trans g0
    have hka0 := g0.at0 hka
    generalize upd H p0 (.dK []) = H0 at g0 ha0 r0 kB0 hka0 ⊢
    refine ⟨a, .dK kvs, ha0, trivial, fun od => ⟨_, rfl, a, od, kvs, rfl, upd_same, fun D hD => ?_⟩⟩
    have na : (upd H0 a (.frz od (.dK kvs))) a = some (.frz od (.dK kvs)) := upd_same
    have kG : Kp T0 B (upd H0 a (.frz od (.dK kvs))) := kB0.over (oc_none nT)
    have rG : DdK (Oc B) (upd H0 a (.frz od (.dK kvs))) kvs ds := parts_away nT ha0 r0
    have nak : ka ≠ a := fun z => by
      rw [z, ha0] at hka0
      cases hka0
    have kG2 : (upd H0 a (.frz od (.dK kvs))) ka = some (.tup ([("map" : Str), x].map V.str)) := by
      rw [upd_ne nak]
      exact hka0
    have nD : D ≠ a := fun z => by
      rw [z, upd_same] at hD
      cases hD
    have back : ∀ H2, Kp T0 (upd H0 a (.frz od (.dK kvs))) H2 → Kp T0 H (upd H2 a (.dK kvs)) := fun H2 k => g0.trans (kp_unlock ha0 k)
    generalize upd H0 a (.frz od (.dK kvs)) = G at na kG rG kG2 hD back ⊢
    refine lc_pr (T := T0) (walk_items (kvs := kvs)) (i0 := 4) (i1 := 5) (fun i zs _ => zs = (ds.take i).map fun e => V.bl (okP ms ks (fun _ => some [x]) e)) (fun _ _ _ _ _ p => p) hD id (by omega) (fun x y => wipe2 _ 4 5 _ _) (fun H1 k1 => k1.at0 na) rfl
      (fun i x1 y1 zs H1 Ky Kn hi ex ey k1 d1 p ky kn => ?_) (fun zs H1 k1 d1 lz p => ?_)
    · have hk : kvs[i]? = some kvs[i] := List.getElem?_eq_getElem hi
      rw [hk] at ex ey
      generalize kvs[i] = kv2 at hk ex ey
      obtain ⟨key, vp⟩ := kv2
      cases Option.some.inj ey
      obtain ⟨d, hds, dp⟩ := ddk_at (DdK.keep k1.wide rG) hk
      obtain ⟨wk, wd⟩ := wfE_at wfe hds
      have hdp := ddk_depth hds
      have ex2 : x1 = kV key := (Option.some.inj ex).symm
      subst ex2
      refine yes_ ?_
      have nx : ∀ b : Bool, b = okP ms ks (fun _ => some [x]) (dKey key, d) → zs ++ [V.bl b] = (ds.take (i + 1)).map fun e => V.bl (okP ms ks (fun _ => some [x]) e) := fun b hb => by
        rw [p, List.take_add_one, hds, List.map_append, hb]
        rfl
      have itn : ItN K H1 (kV key) (match dKey key with | .str n => isNm n | _ => false) := by
        cases key with
        | inl j => exact .inr ⟨⟨.type "int", .base (.int j), kit_ty (show kitB "int" "str" = some false by decide +kernel)⟩, rfl⟩
        | inr n => exact .inl ⟨n, rfl, Nat.lt_trans (wk n rfl) (by rw [PySem.sizeLine_eq]; decide), rfl⟩
      refine ⟨_, rfl, kV key, _, rfl, itn, fun H4 k4 => ⟨_, rfl, ?_⟩⟩
      cases key with
      | inl j => exact iteF (ky _ _ k4 (nx false rfl))
      | inr n =>
      have okp : okP ms ks (fun _ => some [x]) (dKey (.inr n), d) = (isNm n && okK ms ks d [x]) := rfl
      show if isNm n = true then _ else _
      cases en : isNm n with
      | false => exact iteF (ky _ _ k4 (nx false (by rw [okp, en]; rfl)))
      | true =>
      refine iteT ?_
      have kG4 := k1.trans k4
      refine ⟨_, rfl, _, rfl, .inr (.inl ⟨ka, _, 1, .str x, rfl, rfl, SqT.of (kG4.at0 kG2), at_1 _ _ _, (by show 1 ≤ sizeLine; omega), fun t5 ht5 => ?_⟩)⟩
      have g5 : Kp T0 H4 (upd H4 t5 (.tup [.str x])) := (Kp.refl H4).new ht5
      have i5 : IsP (upd H4 t5 (.tup [.str x])) (.ref t5) [x] := ⟨t5, rfl, upd_same⟩
      generalize upd H4 t5 (.tup [.str x]) = H5 at g5 i5 ⊢
      have hdep : d.depth < n0 := by
        have : PyData.depthKv ds + 1 < n0 + 1 := dep
        omega
      refine ⟨_, rfl, fv, .ref t5, vp, B, ms, ks, [x], d, rfl, fm, (kG.trans kG4).trans g5, S, kok, i5, ⟨kx, fun _ e => nomatch e⟩, (dp.keep k4.wide).keep g5.wide, wd, hdep, fun H6 k6 => ky _ _ ((k4.trans g5).trans k6) (nx _ (by rw [okp, en, Bool.true_and]))⟩
    · refine ⟨k1.at0 na, D, ds.map (okP ms ks fun _ => some [x]), rfl, SqL.of ?_, ?_⟩
      · rw [upd_ne nD, d1, p, ll, List.take_length, List.map_map]
        rfl
      · have z := q _ (back _ k1)
        rw [List.all_map]
        exact z
theorem ok_kinds {f fN fT fNu fF fC : Addr} {fd fdC : FuncData} (F : Fun K "is_of_kind" "is_of_kind" sOfKind f fd) (FC : Fun K "is_content_in" "is_content_in" sContent fC fdC) (T : TxtO mg) (DN : Df P w K mg base 2 fN "is_name" ["value"] (spIsName K))
    (DT : Df P w K mg base 2 fT "is_text" ["value"] (spKd K textK)) (DNu : Df P w K mg base 1 fNu "is_number" ["value"] (spKd K numK)) (DF : Df P w K mg base 1 fF "is_flag" ["value"] (spKd K flagK))
    (b : Binds K fd ["forms", "kind", "value"] []) (mgf : mg "is_of_kind" = some (.ref f)) (kf : PySem.W.keepIn K (.ref f) = true) (bC : Binds K fdC ["forms", "name", "value"] []) (mgC : mg "is_content_in" = some (.ref fC)) (kC : PySem.W.keepIn K (.ref fC) = true) :
    ∀ n, FnOk P w K mg base CX0 (3 + 2 * n) f fd ["forms", "kind", "value"] (spOfKind n) ∧ FnOk P w K mg base CX0 (4 + 2 * n) fC fdC ["forms", "name", "value"] (spContent n)
  | 0 => by
    have h0 : FnOk P w K mg base CX0 (3 + 2 * 0) f fd ["forms", "kind", "value"] (spOfKind 0) := fn_none fun vs H Q E h => by
      obtain ⟨_, _, _, _, _, _, _, d, _, _, _, _, _, _, _, _, _, lt, _⟩ := h
      exact absurd lt (Nat.not_lt_zero _)
    exact ⟨h0, ok_content FC T DN ⟨⟨_, h0, b⟩, mgf, kf⟩⟩
  | n + 1 => by
    obtain ⟨h1, h2⟩ := ok_kinds F FC T DN DT DNu DF b mgf kf bC mgC kC n
    have h3 := ok_ofKind F T DN DT DNu DF ⟨⟨_, h2, bC⟩, mgC, kC⟩ ⟨⟨_, h1, b⟩, mgf, kf⟩
    exact ⟨h3, ok_content FC T DN ⟨⟨_, h3, b⟩, mgf, kf⟩⟩
end
end Lw
namespace Lw
open PySem L2 Gk
abbrev sIsVal : Stmt := inClass (topS 34) 9
def spValIn (K : PySem.W.Frag) : Sp := fun vs H Q _ => ∃ (f v u : V) (B : Hp) (ms : Msgs) (ks : Cho) (o : Option Pth) (k : Gk.Kind) (d : PyData), vs = [f, v, u] ∧ IsFm B f ms ks ∧ Kp T0 B H ∧ Sch ms ∧ KsOk ks ∧ PV K H v o ∧ o.bind (kindAt ms) = some k ∧ Dd (Oc B) H u d ∧ wfD d = true ∧ d.depth < 12 ∧ ∀ H2, Kp T0 H H2 → Q (.bl (okK ms ks d k)) H2
def spIsVal (K : PySem.W.Frag) (C CB : Addr) : Sp := fun vs H Q E => ∃ (s v u : V) (B : Hp) (ms : Msgs) (ks : Cho) (o : Option Pth) (d : PyData), vs = [s, v, u] ∧ IsS C B s ms ks ∧ Kp T0 B H ∧ Sch ms ∧ KsOk ks ∧ PV K H v o ∧ Dd (Oc B) H u d ∧ wfD d = true ∧ d.depth < 12 ∧
  (∀ k, o.bind (kindAt ms) = some k → ∀ H2, Kp T0 H H2 → Q (.bl (okK ms ks d k)) H2) ∧ (o.bind (kindAt ms) = none → Bad CB v H E)
theorem bind_ok {ms : Msgs} (S : Sch ms) {o : Option Pth} {k : Gk.Kind} (h : o.bind (kindAt ms) = some k) : KindOk ms k := by
  cases o with
  | none => cases h
  | some p => exact kindAt_ok S h
section
variable {P : Program} {w : World} {K : PySem.W.Frag} {mg : Str → Option Value} {base : Heap} {C CB : Addr}
theorem scValIn : FnScope ["forms", "path", "value"] ["forms", "path", "value"] (defScope sValueIn) := ⟨rfl, rfl, rfl, by decide +kernel, rfl, by decide +kernel, by decide +kernel⟩
theorem ok_valIn {f fK fO : Addr} {fd : FuncData} (F : Fun K "is_value_in" "is_value_in" sValueIn f fd) (DK : Df P w K mg base 3 fK "kind_in" ["forms", "path"] (spKindIn K)) (DO : Df P w K mg base 27 fO "is_of_kind" ["forms", "kind", "value"] (spOfKind 12)) : FnOk P w K mg base CX0 28 f fd ["forms", "path", "value"] (spValIn K) := by
  refine F.ok scValIn (fun vs H Q E h => ?_) (fun cdv A outer s H vs Q E hr h => ?_)
  · obtain ⟨_, _, _, _, _, _, _, _, _, rfl, _⟩ := h
    rfl
  · obtain ⟨fv, v, u, B, ms, ks, o, k, d, rfl, fm, kB, S, kok, pv_, ek, dd, wf, dep, q⟩ := h
    refine ⟨_, pss_one (ps_ret (pe_df DO hr (by rfl) (pa_cons (pv 0) (pa_cons (pe_df DK (hr.mono (by decide)) (by rfl) (pa_cons (pv 0) (pa_cons (pv 1) pa_nil))) (pa_cons (pv 2) pa_nil))))), ?_⟩
    refine ⟨_, rfl, _, rfl, _, rfl, fv, v, ms, ks, o, rfl, fm.keep0 kB, S, pv_, fun H2 r k2 kv => ?_⟩
    rw [ek] at kv
    exact ⟨_, rfl, fv, r, u, B, ms, ks, k, d, rfl, fm, kB.trans k2, S, kok, kv, bind_ok S ek, dd.keep k2.wide, wf, dep, fun H3 k3 => q H3 (k2.trans k3)⟩
theorem scIsVal : FnScope ["self", "path", "value"] ["self", "path", "value"] (defScope sIsVal) := ⟨rfl, rfl, rfl, by decide +kernel, rfl, by decide +kernel, by decide +kernel⟩
theorem ok_isVal {f fV fN : Addr} {fd : FuncData} (F : Fun K "is_value" "Schema.is_value" sIsVal f fd) (T : TxtS K mg C) (DV : Df P w K mg base 28 fV "is_value_in" ["forms", "path", "value"] (spValIn K)) (DN : DmX P w K mg base C 4 "need_path" fN ["self", "value"] (spNeed K C CB)) : FnOk P w K mg base (L2N.CX P w) 29 f fd ["self", "path", "value"] (spIsVal K C CB) := by
  refine fun_okN F scIsVal (fun vs H Q E h => ?_) (fun cdv A outer s H vs Q E hr h => ?_)
  · obtain ⟨_, _, _, _, _, _, _, _, rfl, _⟩ := h
    rfl
  · obtain ⟨_, v, u, B, ms, ks, o, d, rfl, ⟨x, dx, fv, rfl, hx, fm⟩, kB, S, kok, pv_, dd, wf, dep, q1, q2⟩ := h
    refine ⟨_, pss_cons (ps_expr (pe_dmX (pv 0) T.cl DN (hr.mono (by decide)) (fun st => L2N.passAt (L2N.takes_of rfl rfl rfl rfl) st) (pa_cons (pv 1) pa_nil)))
      (pss_one (ps_ret (pe_df DV hr (by rfl) (pa_cons (pe_fld (pv 0) rfl) (pa_cons (pv 1) (pa_cons (pv 2) pa_nil)))))), ?_⟩
    have hx1 := kB.at0 hx
    refine ⟨_, rfl, x, dx, _, rfl, hx1, rfl, _, rfl, .ref x, v, ms, ks, o, rfl, ⟨x, dx, fv, rfl, hx1, fm.keep0 kB⟩, S, pv_, fun e H2 k2 => ?_, fun e => q2 e⟩
    obtain ⟨k, ek⟩ := Option.isSome_iff_exists.mp e
    exact ⟨_, rfl, x, C, dx, _, _, rfl, k2.at0 hx1, T.cl, T.nF, rfl, _, rfl, _, rfl, fv, v, u, B, ms, ks, o, k, d, rfl, fm, kB.trans k2, S, kok, pv_.keep0 k2, ek, dd.keep k2.wide, wf, dep, fun H3 k3 => q1 k ek H3 (k2.trans k3)⟩
end
end Lw
/-! Gk8: the laws' tape of draws. -/
namespace Gk
open PySem PySem.Spec PyProof.Rows L2

def kD : L2.Key := .inr "digits"
def kX : L2.Key := .inr "mixed"
def tapeL (d m : Int) : List (L2.Key × V) := [(kD, .int d), (kX, .int m)]
structure TapeOk (d m : Int) : Prop where
  d0 : 0 ≤ d
  db : nbits d ≤ 2097152
  m0 : 0 ≤ m
  m1 : m < 4294967296
def TapeAt (H : Hp) (t : Addr) : Prop := ∃ d m, H t = some (.dK (tapeL d m)) ∧ TapeOk d m
abbrev At (t : Addr) : Addr → Prop := fun b => b = t
theorem key_ne : ¬ (kX = kD) := by decide +kernel
theorem tape_d (d m : Int) : valV (tapeL d m) kD = some (.int d) := by
  unfold valV tapeL
  have e : (fun kv : L2.Key × V => decide (kv.1 = kD)) (kD, V.int d) = true := decide_eq_true rfl
  rw [List.find?_cons_of_pos (p := fun kv : L2.Key × V => decide (kv.1 = kD)) e]
  rfl
theorem tape_x (d m : Int) : valV (tapeL d m) kX = some (.int m) := by
  unfold valV tapeL
  have e1 : ¬ (fun kv : L2.Key × V => decide (kv.1 = kX)) (kD, V.int d) = true := fun z => key_ne (of_decide_eq_true z).symm
  have e2 : (fun kv : L2.Key × V => decide (kv.1 = kX)) (kX, V.int m) = true := decide_eq_true rfl
  rw [List.find?_cons_of_neg (p := fun kv : L2.Key × V => decide (kv.1 = kX)) e1, List.find?_cons_of_pos (p := fun kv : L2.Key × V => decide (kv.1 = kX)) e2]
  rfl
theorem put_d (d m x : Int) : putK (tapeL d m) kD (.int x) = tapeL x m := by
  unfold putK tapeL
  rw [if_pos (by rw [List.any_cons, decide_eq_true rfl] <;> rfl)]
  show [if kD = kD then (kD, V.int x) else _, if kX = kD then (kX, V.int x) else (kX, V.int m)] = _
  rw [if_pos rfl, if_neg key_ne]
theorem put_x (d m x : Int) : putK (tapeL d m) kX (.int x) = tapeL d x := by
  unfold putK tapeL
  rw [if_pos (by rw [List.any_cons, List.any_cons, decide_eq_true (show kX = kX from rfl), Bool.true_or, Bool.or_true])]
  show [if kD = kX then (kD, V.int x) else (kD, V.int d), if kX = kX then (kX, V.int x) else _] = _
  rw [if_neg (fun z : kD = kX => key_ne z.symm), if_pos rfl]
theorem merge_tape (d m : Int) : mergeK [] [(kD, .int d), (kX, .int m)] = tapeL d m := by
  unfold mergeK
  show putK (putK [] kD (.int d)) kX (.int m) = _
  have e1 : putK [] kD (V.int d) = [(kD, .int d)] := rfl
  rw [e1]
  unfold putK
  rw [if_neg (by rw [List.any_cons, decide_eq_false (fun z : kD = kX => key_ne z.symm)]; exact Bool.false_ne_true)]
  rfl

/-! ### numbers -/
theorem bits_small {x : Int} {k : Nat} (h : x.natAbs < 2 ^ k) : nbits x ≤ k := intBits_le_iff.mpr h
theorem bits_lt {x : Int} {k : Nat} (h : nbits x ≤ k) : x.natAbs < 2 ^ k := intBits_le_iff.mp h
theorem tape_step {m c : Int} (h0 : 0 ≤ m) (h1 : m < 4294967296) (hc : nbits c ≤ 1048576) : nbits (m * 30011 + c * c + 7) ≤ 2097160 := by
  have a1 : nbits (m * 30011) ≤ 47 := intBits_mul_le (bits_small (k := 32) (by omega)) (bits_small (k := 15) (by decide))
  have a2 : nbits (c * c) ≤ 2097152 := intBits_mul_le hc hc
  have a3 := intBits_add_le a1 a2
  have a4 : nbits (7 : Int) ≤ 3 := bits_small (by decide)
  exact Nat.le_trans (intBits_add_le a3 a4) (by decide)

theorem well_step {m c : Int} (h0 : 0 ≤ m) (h1 : m < 4294967296) (hc : nbits c ≤ 1048576) : nbits (m * 70121 + c * c + 41) ≤ 2097160 := by
  have a1 : nbits (m * 70121) ≤ 49 := intBits_mul_le (bits_small (k := 32) (by omega)) (bits_small (k := 17) (by decide))
  have a2 : nbits (c * c) ≤ 2097152 := intBits_mul_le hc hc
  have a4 : nbits (41 : Int) ≤ 6 := bits_small (by decide)
  exact Nat.le_trans (intBits_add_le (intBits_add_le a1 a2) a4) (by decide)

/-! ### what is promised of the tape's functions -/
def spTape (K : PySem.W.Frag) : Sp := fun vs H Q _ => ∃ (a : Addr) (ns : List Int) (start : Int), vs = [.ref a, .int start] ∧ SqL K H a (ns.map V.int) ∧ ns.length ≤ 63 ∧ (∀ z ∈ ns, nbits z ≤ 1048576) ∧ 0 ≤ start ∧ start ≤ 63 ∧
  ∀ t d m, H t = none → TapeOk d m → Q (.ref t) (upd H t (.dK (tapeL d m)))
def spPick : Sp := fun vs H Q _ => ∃ (t : Addr) (n : Int), vs = [.ref t, .int n] ∧ TapeAt H t ∧ 1 ≤ n ∧ n ≤ 1048576 ∧ ∀ H2 r, Kp (At t) H H2 → TapeAt H2 t → 0 ≤ r → r < n → Q (.int r) H2
def spOneOf (K : PySem.W.Frag) : Sp := fun vs H Q _ => ∃ (t l : Addr) (xs : List V), vs = [.ref t, .ref l] ∧ TapeAt H t ∧ SqL K H l xs ∧ 1 ≤ xs.length ∧ xs.length ≤ 1048576 ∧ ∀ H2 x, Kp (At t) H H2 → TapeAt H2 t → x ∈ xs → Q x H2
/-- a drawn path -/
def Drawn (NM : List Str) (p : Pth) : Prop := 1 ≤ p.length ∧ p.length ≤ 3 ∧ ∀ x ∈ p, x ∈ NM
def spPath (NM : List Str) : Sp := fun vs H Q _ => ∃ (t : Addr), vs = [.ref t] ∧ TapeAt H t ∧ ∀ H2 v p, Kp (At t) H H2 → TapeAt H2 t → IsP H2 v p → Drawn NM p → Q v H2
def spDrawn (NM : List Str) : Sp := fun vs H Q _ => ∃ (t : Addr), vs = [.ref t] ∧ TapeAt H t ∧ ∀ H2 l ys ps, Kp (At t) H H2 → TapeAt H2 t → H l = none → H2 l = some (.lst ys) → Ps H2 ys ps → ys.length ≤ 6 → (∀ p ∈ ps, Drawn NM p) → Q (.ref l) H2
theorem tape_ne {H : Hp} {t l : Addr} (h : TapeAt H t) {xs : List V} (s : H l = some (.lst xs)) : ¬ At t l := by
  intro e
  obtain ⟨d, m, z, _⟩ := h
  rw [show l = t from e, z] at s
  cases s
theorem tape_fresh {H : Hp} {t l : Addr} (h : TapeAt H t) (s : H l = none) : ¬ At t l := by
  intro e
  obtain ⟨d, m, z, _⟩ := h
  rw [show l = t from e, z] at s
  cases s
theorem TapeAt.new {H : Hp} {t p : Addr} {o : HO} (h : TapeAt H t) (n : H p = none) : TapeAt (upd H p o) t := by
  obtain ⟨d, m, z, k⟩ := h
  exact ⟨d, m, (upd_ne (ne_of_none z n)).trans z, k⟩
theorem TapeAt.over {H : Hp} {t p : Addr} {o : HO} (h : TapeAt H t) (n : ¬ At t p) : TapeAt (upd H p o) t := by
  obtain ⟨d, m, z, k⟩ := h
  exact ⟨d, m, (upd_ne (fun e => n e.symm)).trans z, k⟩
theorem TapeAt.keep {H H2 : Hp} {t : Addr} (h : TapeAt H t) (k : Kp T0 H H2) : TapeAt H2 t := by
  obtain ⟨d, m, z, q⟩ := h
  exact ⟨d, m, k.at0 z, q⟩
theorem TapeAt.loose {H : Hp} {t : Addr} (h : TapeAt H t) : Loose (At t) H := by
  intro a o e q
  obtain ⟨d, m, z, _⟩ := h
  rw [show a = t from e, z] at q
  cases q
  exact ⟨(fun _ e => nomatch e), fun _ _ _ e => nomatch e⟩
theorem sqL_tape {K : PySem.W.Frag} {H H2 : Hp} {t l : Addr} {xs : List V} (h : TapeAt H t) (s : SqL K H l xs) (k : Kp (At t) H H2) : SqL K H2 l xs := by
  rcases s with (s | ⟨o, s⟩) | s
  · refine .inl (.inl (k l _ (fun e => ?_) s))
    obtain ⟨d, m, z, _⟩ := h
    rw [show l = t from e, z] at s
    cases s
  · refine .inl (.inr ⟨o, k l _ (fun e => ?_) s⟩)
    obtain ⟨d, m, z, _⟩ := h
    rw [show l = t from e, z] at s
    cases s
  · exact .inr s
theorem Ps.tape {H H2 : Hp} {t : Addr} {vs : List V} {ps : List Pth} (h : Ps H vs ps) (k : Kp (At t) H H2) (ta : TapeAt H t) : Ps H2 vs ps := h.keep k fun a o e q => (ta.loose a o e q).1
theorem IsM.tape {H H2 : Hp} {t C : Addr} {v : V} {qs : List Pth} (h : IsM C H v qs) (k : Kp (At t) H H2) (ta : TapeAt H t) : IsM C H2 v qs := h.keep k ta.loose
/-- drawn paths are right ones -/
theorem drawn_ok {NM : List Str} (hn : NM.all isNm = true) {p : Pth} (h : Drawn NM p) : OkP p ∧ p ≠ [] := by
  obtain ⟨h1, h3, hm⟩ := h
  refine ⟨⟨fun x hx => List.all_eq_true.mp hn x (hm x hx), by omega⟩, fun e => ?_⟩
  rw [e] at h1
  exact absurd h1 (by decide)
theorem dget_d {H : Hp} {t : Addr} {d m : Int} (h : H t = some (.dK (tapeL d m))) : DGet H t (.str "digits") (some (.int d)) := by
  rw [← tape_d d m]
  exact DGet.k (k := kD) h
theorem dget_x {H : Hp} {t : Addr} {d m : Int} (h : H t = some (.dK (tapeL d m))) : DGet H t (.str "mixed") (some (.int m)) := by
  rw [← tape_x d m]
  exact DGet.k (k := kX) h
theorem dput_d {H : Hp} {t : Addr} {d m : Int} (h : H t = some (.dK (tapeL d m))) (x : Int) : DPut H t (.str "digits") (.int x) (upd H t (.dK (tapeL x m))) := by
  rw [← put_d d m x]
  exact DPut.k (k := kD) h (by show 2 < sizeLine; rw [sizeLine_eq]; decide)
theorem dput_x {H : Hp} {t : Addr} {d m : Int} (h : H t = some (.dK (tapeL d m))) (x : Int) : DPut H t (.str "mixed") (.int x) (upd H t (.dK (tapeL d x))) := by
  rw [← put_x d m x]
  exact DPut.k (k := kX) h (by show 2 < sizeLine; rw [sizeLine_eq]; decide)
theorem TapeAt.put {H : Hp} {t : Addr} {d m : Int} (o : TapeOk d m) : TapeAt (upd H t (.dK (tapeL d m))) t := ⟨d, m, upd_same, o⟩
/-- what a law promises -/
def spLaw (K : PySem.W.Frag) : Sp := fun vs H Q _ => ∃ (a : Addr) (ns : List Int), vs = [.ref a] ∧ SqL K H a (ns.map V.int) ∧ ns.length ≤ 63 ∧ (∀ z ∈ ns, nbits z ≤ 1048576) ∧ ∀ H2, Q (.bl true) H2
end Gk
/-! Gk51: displays of dicts, lists and tuples: what they lay, put together from what their parts give. -/
namespace Gk
open PySem PySem.Spec PyProof.Rows L2
/-- the expression gives a value of R, and lays new things alone -/
def Gives (st : L2.St) (H0 : Hp) (te : TE) (R : Hp → V → Prop) : Prop := ∀ (H : Hp) (Q : VK), Kp T0 H0 H → (∀ v H2, Kp T0 H H2 → R H2 v → Q v H2) → te st H Q
theorem gv_var {st : L2.St} {H0 : Hp} {i : Nat} {v : V} {R : Hp → V → Prop} (h : st[i]? = some (some v)) (r : ∀ H, Kp T0 H0 H → R H v) : Gives st H0 (tVar i) R := fun H Q k q => ⟨v, h, q v H (Kp.refl H) (r H k)⟩
theorem gv_c {st : L2.St} {H0 : Hp} {v : V} {R : Hp → V → Prop} (r : ∀ H, R H v) : Gives st H0 (tC v) R := fun H Q k q => q v H (Kp.refl H) (r H)
theorem Gives.mono {st : L2.St} {H0 : Hp} {te : TE} {R S : Hp → V → Prop} (h : Gives st H0 te R) (i : ∀ H v, R H v → S H v) : Gives st H0 te S := fun H Q k q => h H Q k fun v H2 k2 r => q v H2 k2 (i H2 v r)
theorem Gives.later {st : L2.St} {H0 H1 : Hp} {te : TE} {R : Hp → V → Prop} (h : Gives st H0 te R) (k : Kp T0 H0 H1) : Gives st H1 te R := fun H Q k1 q => h H Q (k.trans k1) q
/-- what stays under new things, and while a new dict is filled -/
structure Firm {α : Type} (R : Hp → V → α → Prop) : Prop where
  keep : ∀ {H H2 v a}, Kp T0 H H2 → R H v a → R H2 v a
  fill : ∀ {H : Hp} {d : Addr} {o : HO} {v : V} {a : α}, H d = some (.dK []) → R H v a → R (upd H d o) v a
theorem firm_p : Firm IsP := ⟨fun k h => h.keep0 k, fun e h => h.frz e⟩
theorem firm_rs : Firm IsRs := ⟨fun k h => h.keep0 k, fun e h => h.frz e⟩
/-- fields that are not empty -/
def IsF1 (H : Hp) (v : V) (fs : Flds) : Prop := IsF H v fs ∧ fs ≠ []
theorem firm_f : Firm IsF1 := ⟨fun k h => ⟨h.1.keep0 k, h.2⟩, fun {H d o v a} e h => ⟨h.1.frz e fun z => by
  obtain ⟨b, kvs, ev, hb, p⟩ := h.1
  rw [z] at ev
  cases ev
  rw [e] at hb
  cases hb
  cases p
  exact h.2 rfl, h.2⟩⟩
theorem merge_app : ∀ (kvs acc : List (L2.Key × V)), ((acc ++ kvs).map (·.1)).Nodup → mergeK acc kvs = acc ++ kvs
  | [], acc, _ => (List.append_nil acc).symm
  | (k, v) :: kvs, acc, nd => by
    show mergeK (putK acc k v) kvs = _
    have e : valV acc k = none := by
      unfold valV
      have z : acc.find? (fun kv => decide (kv.1 = k)) = none := by
        rw [List.find?_eq_none]
        intro x mx hx
        have hx := of_decide_eq_true hx
        rw [List.map_append, List.nodup_append] at nd
        exact nd.2.2 x.1 (List.mem_map_of_mem mx) k (by simp) hx
      rw [z]
      rfl
    rw [putK_new _ e, merge_app kvs _ (by rw [List.append_assoc]; exact nd), List.append_assoc]
    rfl
theorem merge_nil {kvs : List (L2.Key × V)} (nd : (kvs.map (·.1)).Nodup) : mergeK [] kvs = kvs := merge_app kvs [] (by simpa using nd)
/-- the pairs of a display -/
theorem gv_pairs {α : Type} {R : Hp → V → α → Prop} (F : Firm R) {st : L2.St} : ∀ (ts : List (Str × TE × α)) {H0 H : Hp} {Q : List (V × V) → Hp → Prop}, (∀ t ∈ ts, Gives st H0 t.2.1 fun H v => R H v t.2.2) → Kp T0 H0 H →
    (∀ kvs H2, Kp T0 H H2 → Paired (Ent (R H2)) kvs (ts.map fun t => (t.1, t.2.2)) → Q (kvs.map fun kv => (kV kv.1, kv.2)) H2) → tPairs (ts.map fun t => (tC (.str t.1), t.2.1)) st H Q
  | [], H0, H, Q, _, k, q => q [] H (Kp.refl H) .nil
  | (x, te, a) :: ts, H0, H, Q, g, k, q => by
    refine g (x, te, a) List.mem_cons_self H _ k fun v H2 k2 r => ?_
    refine gv_pairs F ts (H0 := H0) (fun t m => g t (List.mem_cons_of_mem _ m)) (k.trans k2) fun kvs H3 k3 p => ?_
    exact q ((.inr x, v) :: kvs) H3 (k2.trans k3) (.cons ⟨rfl, F.keep k3 r⟩ p)
/-- a dict -/
def IsD2 {α : Type} (R : Hp → V → α → Prop) (H : Hp) (v : V) (es : List (Str × α)) : Prop := ∃ a kvs, v = .ref a ∧ H a = some (.dK kvs) ∧ Paired (Ent (R H)) kvs es
theorem ent_keys2 {α : Type} {R : V → α → Prop} : ∀ {kvs : List (L2.Key × V)} {fs : List (Str × α)}, Paired (Ent R) kvs fs → kvs.map (·.1) = (fs.map (·.1)).map Sum.inr
  | _, _, .nil => rfl
  | _, _, .cons a r => by rw [List.map_cons, List.map_cons, List.map_cons, ent_keys2 r, a.1]
theorem nodup_inr {xs : List Str} (h : xs.Nodup) : (xs.map (Sum.inr : Str → L2.Key)).Nodup := by
  rw [List.nodup_iff_pairwise_ne] at h ⊢
  exact List.pairwise_map.mpr (h.imp fun n e => n (Sum.inr.inj e))
theorem gv_disp {α : Type} {R : Hp → V → α → Prop} (F : Firm R) {st : L2.St} {H0 : Hp} (ts : List (Str × TE × α)) (g : ∀ t ∈ ts, Gives st H0 t.2.1 fun H v => R H v t.2.2) (nd : (ts.map (·.1)).Nodup) (few : ts.length ≤ 15) :
    Gives st H0 (tDisp (ts.map fun t => (tC (.str t.1), t.2.1))) fun H v => IsD2 R H v (ts.map fun t => (t.1, t.2.2)) := by
  intro H Q k q p hp
  have k1 : Kp T0 H (upd H p (.dK [])) := (Kp.refl H).new hp
  have d1 : (upd H p (.dK [])) p = some (.dK []) := upd_same
  refine gv_pairs F ts g (k.trans k1) fun kvs H2 k2 pr => ?_
  have d2 := k2.at0 d1
  have ln : kvs.length = ts.length := by rw [Paired.length pr, List.length_map]
  have ek := ent_keys2 pr
  have nd2 : (kvs.map (·.1)).Nodup := by
    rw [ek]
    refine nodup_inr ?_
    rw [List.map_map]
    exact nd
  refine ⟨d2, kvs, rfl, by omega, ?_⟩
  rw [merge_nil nd2]
  exact q _ _ ((k1.trans k2).over hp) ⟨p, kvs, rfl, upd_same, ent_map pr fun _ _ _ z => F.fill d2 z⟩
/-- a tuple of texts -/
theorem gv_tup {st : L2.St} {H0 : Hp} : ∀ (p : Pth), p.length ≤ 15 → Gives st H0 (tTup ((p.map fun x => tC (.str x)).foldr tCons tNil)) fun H v => IsP H v p := by
  intro p few H Q k q
  have go : ∀ (p : Pth) (R : List V → Hp → Prop), R (p.map V.str) H → ((p.map fun x => tC (.str x)).foldr tCons tNil) st H R := by
    intro p
    induction p with
    | nil => exact fun R h => h
    | cons x p ih => exact fun R h => ih _ h
  refine go p _ ⟨?_, fun t ht => q _ _ ((Kp.refl H).new ht) ⟨t, rfl, upd_same⟩⟩
  rw [List.length_map, sizeLine_eq]
  omega
/-- a list of tuples of texts -/
theorem gv_rows {st : L2.St} {H0 : Hp} (ts : List (TE × Pth)) (g : ∀ t ∈ ts, Gives st H0 t.1 fun H v => IsP H v t.2) (few : ts.length ≤ 15) : Gives st H0 (tLst ((ts.map (·.1)).foldr tCons tNil)) fun H v => IsRs H v (ts.map (·.2)) := by
  have go : ∀ (ts : List (TE × Pth)), (∀ t ∈ ts, Gives st H0 t.1 fun H v => IsP H v t.2) → ∀ (H : Hp) (R : List V → Hp → Prop), Kp T0 H0 H → (∀ vs H2, Kp T0 H H2 → Ps H2 vs (ts.map (·.2)) → R vs H2) → ((ts.map (·.1)).foldr tCons tNil) st H R := by
    intro ts
    induction ts with
    | nil => exact fun _ H R _ h => h [] H (Kp.refl H) .nil
    | cons t ts ih =>
      intro g H R k h
      refine g t List.mem_cons_self H _ k fun v H2 k2 r => ?_
      exact ih (fun t m => g t (List.mem_cons_of_mem _ m)) H2 _ (k.trans k2) fun vs H3 k3 p => h (v :: vs) H3 (k2.trans k3) (.cons (r.keep0 k3) p)
  intro H Q k q
  refine go ts g H _ k fun vs H2 k2 p => ⟨?_, fun l hl => ?_⟩
  · have e : vs.length = ts.length := by rw [Paired.length p, List.length_map]
    rw [e, sizeLine_eq]
    omega
  · have k3 : Kp T0 H2 (upd H2 l (.lst vs)) := (Kp.refl H2).new hl
    exact q _ _ (k2.trans k3) ⟨l, vs, rfl, upd_same, p.keep0 k3⟩
end Gk
/-! Gk52: the four schemas that the laws draw; data of schemas under a tape that goes on. -/
namespace Gk
open PySem PySem.Spec PyProof.Rows L2
theorem gc {α : Type} {P : α → Prop} {t : α} {ts : List α} (h : P t) (r : ∀ x ∈ ts, P x) : ∀ x ∈ t :: ts, P x := fun x m => (List.mem_cons.mp m).elim (fun e => e ▸ h) (r x)
theorem gn {α : Type} {P : α → Prop} : ∀ x ∈ ([] : List α), P x := fun _ m => nomatch m
def fmM : Nat → Msgs
  | 0 => [("top", [("a", ["text"]), ("ab", ["text"]), ("f", ["flag"]), ("x", ["text"])])]
  | 1 => [("top", [("f", ["flag"]), ("g", ["flag"]), ("h", ["flag"]), ("n", ["number"]), ("q", ["map", "flag"])])]
  | 2 => [("top", [("m", ["message", "one"]), ("n", ["message", "one"]), ("s", ["text"])]), ("one", [("a", ["text"]), ("b", ["text"]), ("k", ["map", "number"])])]
  | _ => [("top", [("a", ["text"]), ("m", ["message", "one"]), ("q", ["map", "text"]), ("z", ["number"])]), ("one", [("a", ["text"]), ("c", ["flag"]), ("d", ["message", "two"])]), ("two", [("x", ["text"])])]
def fmC : Nat → Cho
  | 0 => [("top", [["a", "ab", "f"]])]
  | 1 => [("top", [["f", "n"], ["g", "q"]])]
  | 2 => [("top", [["m", "n", "s"]]), ("one", [["a", "b"]])]
  | _ => [("one", [["a", "d"]])]
/-- messages and choices in a tuple -/
def ForIs (H : Hp) (v : V) (ms : Msgs) (cs : Cho) : Prop := ∃ t mv cv, v = .ref t ∧ H t = some (.tup [mv, cv]) ∧ IsD2 IsF H mv ms ∧ IsD2 IsRs H cv cs
def spForms : Sp := fun vs H Q _ => ∃ (t : Addr), vs = [.ref t] ∧ TapeAt H t ∧ ∀ H2 v i, i < 4 → Kp (At t) H H2 → TapeAt H2 t → ForIs H2 v (fmM i) (fmC i) → Q v H2
/-! ### checked once -/
def shortB (x : Str) : Bool := decide (x.length < 1000)
def fldOkB (fs : Flds) : Bool := decide (fs.length < 64) && (decide (fs.map (·.1)).Nodup && fs.all fun f => shortB f.1 && f.2.all shortB)
def msgOkB (ms : Msgs) : Bool := decide (ms.length < 64) && (decide (ms.map (·.1)).Nodup && ms.all fun m => shortB m.1 && fldOkB m.2)
theorem short_of {x : Str} (h : shortB x = true) : x.length < sizeLine := Nat.lt_trans (of_decide_eq_true h) (by rw [sizeLine_eq]; decide)
theorem fldOk_of {fs : Flds} (h : fldOkB fs = true) : FldOk fs := by
  unfold fldOkB at h
  simp only [Bool.and_eq_true] at h
  refine ⟨of_decide_eq_true h.1, of_decide_eq_true h.2.1, fun f m => ?_⟩
  have z := List.all_eq_true.mp h.2.2 f m
  rw [Bool.and_eq_true] at z
  exact ⟨short_of z.1, fun x mx => short_of (List.all_eq_true.mp z.2 x mx)⟩
theorem msgOk_of {ms : Msgs} (h : msgOkB ms = true) : MsgOk ms := by
  unfold msgOkB at h
  simp only [Bool.and_eq_true] at h
  refine ⟨of_decide_eq_true h.1, of_decide_eq_true h.2.1, fun m mm => ?_⟩
  have z := List.all_eq_true.mp h.2.2 m mm
  rw [Bool.and_eq_true] at z
  exact ⟨short_of z.1, fldOk_of z.2⟩
def rowOkB (p : Pth) : Bool := decide (p.length < 64) && p.all shortB
def choOkB (cs : Cho) : Bool := decide (cs.length < 64) && (decide (cs.map (·.1)).Nodup && cs.all fun c => shortB c.1 && (decide (c.2.length < 64) && c.2.all rowOkB))
theorem choOk_of {cs : Cho} (h : choOkB cs = true) : ChoOk cs := by
  unfold choOkB at h
  simp only [Bool.and_eq_true] at h
  refine ⟨of_decide_eq_true h.1, of_decide_eq_true h.2.1, fun c mc => ?_⟩
  have z := List.all_eq_true.mp h.2.2 c mc
  simp only [Bool.and_eq_true] at z
  refine ⟨short_of z.1, of_decide_eq_true z.2.1, fun p mp => ?_⟩
  have z2 := List.all_eq_true.mp z.2.2 p mp
  unfold rowOkB at z2
  rw [Bool.and_eq_true] at z2
  exact ⟨of_decide_eq_true z2.1, fun x mx => short_of (List.all_eq_true.mp z2.2 x mx)⟩
theorem fm_sch : ∀ i < 4, Sch (fmM i) ∧ ChoOk (fmC i) ∧ chosP (fmM i) (fmC i) = true
  | 0, _ => ⟨⟨msgOk_of (by decide +kernel), by decide +kernel⟩, choOk_of (by decide +kernel), by decide +kernel⟩
  | 1, _ => ⟨⟨msgOk_of (by decide +kernel), by decide +kernel⟩, choOk_of (by decide +kernel), by decide +kernel⟩
  | 2, _ => ⟨⟨msgOk_of (by decide +kernel), by decide +kernel⟩, choOk_of (by decide +kernel), by decide +kernel⟩
  | 3, _ => ⟨⟨msgOk_of (by decide +kernel), by decide +kernel⟩, choOk_of (by decide +kernel), by decide +kernel⟩
/-! ### kept while the tape goes on -/
theorem tape_dk {H : Hp} {t a : Addr} {kvs : List (L2.Key × V)} (h : TapeAt H t) (e : H a = some (.dK kvs)) (n : ∀ kv ∈ kvs, ∀ i, kv.2 ≠ .int i) (nz : kvs ≠ []) : ¬ At t a := by
  intro z
  obtain ⟨d, m, ht, _⟩ := h
  rw [show a = t from z, ht] at e
  cases e
  exact n (kD, .int d) List.mem_cons_self d rfl
theorem tape_dk0 {H : Hp} {t a : Addr} (h : TapeAt H t) (e : H a = some (.dK [])) : ¬ At t a := by
  intro z
  obtain ⟨d, m, ht, _⟩ := h
  rw [show a = t from z, ht] at e
  cases e
theorem ent_mem {α : Type} {R : V → α → Prop} {kvs : List (L2.Key × V)} {fs : List (Str × α)} (p : Paired (Ent R) kvs fs) {kv : L2.Key × V} (m : kv ∈ kvs) : ∃ f, R kv.2 f := by
  obtain ⟨i, hi⟩ := List.mem_iff_getElem?.mp m
  obtain ⟨f, _, h⟩ := ent_at p hi
  exact ⟨f.2, h.2⟩
theorem tape_dict {α : Type} {R : V → α → Prop} {H : Hp} {t a : Addr} {kvs : List (L2.Key × V)} {fs : List (Str × α)} (h : TapeAt H t) (e : H a = some (.dK kvs)) (p : Paired (Ent R) kvs fs) (hR : ∀ v f, R v f → ∃ b, v = .ref b) : ¬ At t a := by
  cases kvs with
  | nil => exact tape_dk0 h e
  | cons kv kvs =>
    refine tape_dk h e (fun kv2 m i z => ?_) (by simp)
    obtain ⟨f, r⟩ := ent_mem p m
    obtain ⟨b, eb⟩ := hR _ _ r
    rw [eb] at z
    cases z
section
variable {H H2 : Hp} {t : Addr}
theorem IsP.tape {v : V} {p : Pth} (h : IsP H v p) (k : Kp (At t) H H2) (ta : TapeAt H t) : IsP H2 v p := h.keep k fun a o e q => (ta.loose a o e q).1
theorem IsF.tape {v : V} {fs : Flds} (h : IsF H v fs) (k : Kp (At t) H H2) (ta : TapeAt H t) : IsF H2 v fs := by
  obtain ⟨a, kvs, e, d, p⟩ := h
  exact ⟨a, kvs, e, k a _ (tape_dict ta d p fun v f z => z.elim fun b z => ⟨b, z.1⟩) d, ent_map p fun _ _ _ z => z.tape k ta⟩
theorem IsRs.tape {v : V} {rows : List Pth} (h : IsRs H v rows) (k : Kp (At t) H H2) (ta : TapeAt H t) : IsRs H2 v rows := by
  obtain ⟨a, xs, e, d, p⟩ := h
  exact ⟨a, xs, e, k a _ (tape_ne ta d) d, p.tape k ta⟩
theorem IsD2.tapeF {v : V} {ms : Msgs} (h : IsD2 IsF H v ms) (k : Kp (At t) H H2) (ta : TapeAt H t) : IsD2 IsF H2 v ms := by
  obtain ⟨a, kvs, e, d, p⟩ := h
  exact ⟨a, kvs, e, k a _ (tape_dict ta d p fun v f z => z.elim fun b z => ⟨b, z.elim fun _ z => z.1⟩) d, ent_map p fun _ _ _ z => z.tape k ta⟩
theorem IsD2.tapeR {v : V} {cs : Cho} (h : IsD2 IsRs H v cs) (k : Kp (At t) H H2) (ta : TapeAt H t) : IsD2 IsRs H2 v cs := by
  obtain ⟨a, kvs, e, d, p⟩ := h
  exact ⟨a, kvs, e, k a _ (tape_dict ta d p fun v f z => z.elim fun b z => ⟨b, z.elim fun _ z => z.1⟩) d, ent_map p fun _ _ _ z => z.tape k ta⟩
theorem ForIs.tape {v : V} {ms : Msgs} {cs : Cho} (h : ForIs H v ms cs) (k : Kp (At t) H H2) (ta : TapeAt H t) : ForIs H2 v ms cs := by
  obtain ⟨b, mv, cv, e, d, p, q⟩ := h
  exact ⟨b, mv, cv, e, k b _ (fun z => (ta.loose b _ z d).1 _ rfl) d, p.tapeF k ta, q.tapeR k ta⟩
theorem IsFm.tape {v : V} {ms : Msgs} {ks : Cho} (h : IsFm H v ms ks) (k : Kp (At t) H H2) (ta : TapeAt H t) : IsFm H2 v ms ks := by
  obtain ⟨fd, ma, ca, mk, ck, e, h1, h2, p2, h3, p3⟩ := h
  refine ⟨fd, ma, ca, mk, ck, e, k fd _ ?_ h1, k ma _ (tape_dict ta h2 p2 fun v f z => z.elim fun b z => ⟨b, z.elim fun _ z => z.1⟩) h2, ent_map p2 fun _ _ _ z => z.tape k ta, k ca _ (tape_dict ta h3 p3 fun v f z => z.elim fun b z => ⟨b, z.elim fun _ z => z.1⟩) h3, ent_map p3 fun _ _ _ z => z.tape k ta⟩
  refine tape_dk ta h1 (fun kv m i z => ?_) (by simp)
  rcases List.mem_cons.mp m with rfl | m
  · cases z
  · rcases List.mem_cons.mp m with rfl | m
    · cases z
    · cases m
theorem IsS.tape {C : Addr} {v : V} {ms : Msgs} {ks : Cho} (h : IsS C H v ms ks) (k : Kp (At t) H H2) (ta : TapeAt H t) : IsS C H2 v ms ks := by
  obtain ⟨x, dx, f, e, h1, h2⟩ := h
  exact ⟨x, dx, f, e, k x _ (fun z => (ta.loose x _ z h1).2 _ _ _ rfl) h1, h2.tape k ta⟩
end
theorem IsD2.keepF {H H2 : Hp} {v : V} {ms : Msgs} (h : IsD2 IsF H v ms) (k : Kp T0 H H2) : IsD2 IsF H2 v ms := by
  obtain ⟨a, kvs, e, d, p⟩ := h
  exact ⟨a, kvs, e, k.at0 d, ent_map p fun _ _ _ z => z.keep0 k⟩
theorem IsD2.keepR {H H2 : Hp} {v : V} {cs : Cho} (h : IsD2 IsRs H v cs) (k : Kp T0 H H2) : IsD2 IsRs H2 v cs := by
  obtain ⟨a, kvs, e, d, p⟩ := h
  exact ⟨a, kvs, e, k.at0 d, ent_map p fun _ _ _ z => z.keep0 k⟩
theorem ForIs.keep0 {H H2 : Hp} {v : V} {ms : Msgs} {cs : Cho} (h : ForIs H v ms cs) (k : Kp T0 H H2) : ForIs H2 v ms cs := by
  obtain ⟨b, mv, cv, e, d, p, q⟩ := h
  exact ⟨b, mv, cv, e, k.at0 d, p.keepF k, q.keepR k⟩
end Gk
/-! Gk53: sorted(d, reverse=True), d's keys texts; sorted texts are the same. -/
namespace Gk
open PySem PySem.Spec PyProof.Rows L2 SrtO SrtR
def sv : Value → List Nat
  | .str x _ => x.cps.toList
  | _ => []
def ltSv (x y : Value) : Bool := decide (sv x < sv y)
theorem swo_sv : Swo ltSv where
  asym := fun x y h => PyProof.Rows.KeyOrd.klt_asymm (O := PyProof.Rows.strKind.toKeyOrd) h
  tr := fun x y z h1 h2 => PyProof.Rows.KeyOrd.kle_trans (O := PyProof.Rows.strKind.toKeyOrd) h1 h2
theorem strs_mem : ∀ {vs : List Value} {ks : List Str}, StrsAre vs ks → ∀ v ∈ vs, ∃ x t, v = Value.str x t
  | _, _, .nil, v, h => absurd h (by simp)
  | _, _, .cons x t r, v, h => by
    rcases List.mem_cons.mp h with e | h
    · exact ⟨x, t, e⟩
    · exact strs_mem r v h
section
variable {prog : Program} {w : World} {A : Around} {s : Shared}
theorem strs_sortable {a : Addr} {vs : List Value} {ks : List Str} (hI : StrsAre vs ks) (h2 : 2 ≤ vs.length) : SortableO prog w A s a vs ltSv := by
  intro h2' _
  refine ⟨oneType', fun Q E hq => ?_, fun p q hm hm2 => ?_⟩
  · match vs, hI, h2 with
    | v1 :: v2 :: rest, hI, _ =>
      rw [keyKind_strs hI]
      exact wpAny_pure hq
    | [], _, h => exact absurd h (by decide)
    | [v], _, h => exact absurd h (by simp)
  · obtain ⟨x, t, e⟩ := strs_mem hI _ hm
    obtain ⟨y, u, e2⟩ := strs_mem hI _ hm2
    show wpAny (model prog w) A (keyLt' oneType' p.1 q.1) (fun r s2 => s2 = _ ∧ r = ltSv p.1 q.1) (fun _ _ => False) _
    rw [e, e2, keyLt'_oneType]
    exact oneLt_str ⟨rfl, rfl⟩
end
/-- texts falling -/
def Falls (ys : List Str) : Prop := ys.Pairwise fun a b => decide (a.cps.toList < b.cps.toList) = false
theorem strs_back : ∀ {vs : List Value}, (∀ v ∈ vs, ∃ x t, v = Value.str x t) → ∃ ks, StrsAre vs ks ∧ ks.map (fun x => x.cps.toList) = vs.map sv
  | [], _ => ⟨[], .nil, rfl⟩
  | v :: vs, h => by
    obtain ⟨x, t, rfl⟩ := h v List.mem_cons_self
    obtain ⟨ks, r, e⟩ := strs_back fun u m => h u (List.mem_cons_of_mem _ m)
    exact ⟨x :: ks, .cons x t r, by rw [List.map_cons, List.map_cons, e]; rfl⟩
theorem strs_perm : ∀ {vs us : List Value} {ks : List Str}, vs.Perm us → StrsAre us ks → ∃ js, StrsAre vs js ∧ js.Perm ks := by
  intro vs us ks p
  induction p generalizing ks with
  | nil => exact fun h => ⟨ks, h, .refl _⟩
  | cons v _ ih =>
    intro h
    cases h with
    | cons x t r =>
      obtain ⟨js, r2, p2⟩ := ih r
      exact ⟨x :: js, .cons x t r2, p2.cons x⟩
  | swap a b l =>
    intro h
    cases h with
    | cons x t r =>
      cases r with
      | cons y u r => exact ⟨y :: x :: _, .cons y u (.cons x t r), .swap x y _⟩
  | trans _ _ ih1 ih2 =>
    intro h
    obtain ⟨js, r, p⟩ := ih2 h
    obtain ⟨ls, r2, p2⟩ := ih1 r
    exact ⟨ls, r2, p2.trans p⟩
theorem strs_sv : ∀ {vs : List Value} {ks : List Str}, StrsAre vs ks → vs.map sv = ks.map fun x => x.cps.toList
  | _, _, .nil => rfl
  | _, _, .cons x t r => by rw [List.map_cons, List.map_cons, strs_sv r]; rfl
theorem strs_vals : ∀ {vs : List Value} {ks : List Str}, StrsAre vs ks → Vals (ks.map V.str) vs
  | _, _, .nil => .nil
  | _, _, .cons x t r => .cons ⟨t, rfl⟩ (strs_vals r)
section
variable {X : Cx}
def rSortDR : List V → List V → Hp → VK → Prop := fun vs zs H Q => ∃ (a : Addr) (kvs : List (L2.Key × V)) (ks : List Str), vs = [.ref a] ∧ zs = [.bl true] ∧ Rd H a (.dK kvs) ∧ kvs.map (·.1) = ks.map Sum.inr ∧ ks.length < 64 ∧
  ∀ ys p, ys.Perm ks → Falls ys → H p = none → Q (.ref p) (upd H p (.lst (ys.map V.str)))
theorem cr_sortedDR (calm : X.calm = true) : CallRK X (.builtin "sorted") [Str.ofString "reverse"] rSortDR := by
  intro pins s st H vs zs us ws Q I r rz h
  obtain ⟨a, kvs, ks, rfl, rfl, hd, hks, h64, q⟩ := h
  obtain rfl := Vals.ref1 r
  obtain ⟨w1, rfl, e1⟩ := vals1 rz
  obtain rfl : w1 = Value.bool true := e1
  obtain ⟨z, lo, vs, rel, dd⟩ := dk_rd I.hok hd
  obtain ⟨ep, hat⟩ := dd.dictAt
  have hkeys : vs.map (·.1) = ks.map Sum.inr := rel.keys.symm.trans hks
  have hl : vs.length = ks.length := by
    have e := congrArg List.length hkeys
    rw [List.length_map, List.length_map] at e
    exact e
  have h16 : vs.length ≤ sizeLine := by rw [hl, sizeLine_eq]; omega
  refine call_function_entry_kw kind_sorted plain_sorted entry_sorted (PyProof.Rows.args_sorted_rev _ _) ?_
  unfold Builtin.«sorted»
  refine wpAny_bind (m := checkCount "sorted" 1 1 _) (wpAny_pure ?_)
  refine wpAny_bind (PySem.W.kdu_collect (A := X.A.in1) (PySem.W.kdl_dict (knd := mixKind X.prog X.w) (kvs := vs) (ep := ep) lo) (I.ok.hd calm) hat h16 fun h2 tk acc hk hacc => ?_)
  have hal : acc.toList.length = ks.length := by rw [Array.length_toList, hacc.1, hl]
  have hS : StrsAre acc.toList ks := L2.strs_at hal fun j v e => by
    obtain ⟨k, x, e1, e2⟩ := hacc.2 j v (by rw [← Array.getElem?_toList]; exact e)
    have e3 : (vs.map (·.1))[j]? = some k := by rw [List.getElem?_map, e1]; all_goals rfl
    rw [hkeys, List.getElem?_map] at e3
    cases e4 : ks[j]? with
    | none => rw [e4] at e3; cases e3
    | some y =>
      rw [e4] at e3
      have e5 : Sum.inr y = k := Option.some.inj e3
      subst e5
      obtain ⟨t, ev⟩ := Value.isStrOf_shape (x := y) (v := v) e2
      exact ⟨y, t, rfl, ev⟩
  have I1 : Inv X pins st H { s with heap := h2, toks := tk } := I.kept hk
  have lz : acc.toList.length ≤ sizeLine := by rw [hal, sizeLine_eq]; omega
  refine wpAny_bind (wpAny_newList ?_ lz)
  have hoL : (h2.push (seqObj "list" acc.toList.toArray 0)).get? h2.objs.size = some (seqObj "list" acc.toList.toArray 0) := Heap.get?_push_size _ rfl
  show wpAny _ _ _ _ _ { s with heap := h2.push (seqObj "list" acc.toList.toArray 0), toks := tk }
  refine wpAny_bind (wpAny_holding (wpAny_call_entry_kw PyProof.Rows.slot_list_sort ⟨_, hoL, rfl⟩ PyProof.Rows.entry_list_sort ?_ (PyProof.Rows.args_list_sort_rev _ _)))
  refine list_sort_ordR (s := { s with heap := h2.push (seqObj "list" acc.toList.toArray 0), toks := tk }) (b := true) swo_sv hoL lz (fun two => strs_sortable hS two) fun out srt stb => ⟨_, rfl, ?_⟩
  have pm : out.Perm acc.toList := stb.perm.trans (by rw [if_pos rfl]; exact List.reverse_perm _)
  obtain ⟨js, hj, pj⟩ := strs_perm pm hS
  have hr : StrsAre out.reverse js.reverse := by
    obtain ⟨ls, h1, h2⟩ := strs_back (vs := out.reverse) fun v m => strs_mem hj v (List.mem_reverse.mp m)
    have e : ls = js.reverse := by
      have e1 := strs_sv hj
      rw [List.map_reverse, e1, ← List.map_reverse] at h2
      have inj : ∀ (l1 l2 : List Str), l1.map (fun x => x.cps.toList) = l2.map (fun x => x.cps.toList) → l1 = l2 := by
        intro l1
        induction l1 with
        | nil => intro l2 h; cases l2 with
          | nil => rfl
          | cons _ _ => cases h
        | cons x l1 ih => intro l2 h; cases l2 with
          | nil => cases h
          | cons y l2 =>
            rw [List.map_cons, List.map_cons] at h
            injection h with h1 h2
            have exy : x = y := by
              cases x; cases y
              simp only [Str.mk.injEq]
              exact Array.toList_inj.mp h1
            rw [exy, ih l2 h2]
      exact inj _ _ h2
    exact e ▸ h1
  have falls : Falls js.reverse := by
    unfold Falls
    have e := strs_sv hr
    have s2 : (out.reverse.map sv).Pairwise fun a b => decide (a < b) = false := by
      rw [List.map_reverse, List.pairwise_reverse]
      exact List.pairwise_map.mpr (srt.imp fun {x y} h => h)
    rw [e] at s2
    exact List.pairwise_map.mp s2
  obtain ⟨ep2, he2⟩ := PyProof.Rows.sortedHeap_at (vs := acc.toList) (out := out.toArray.reverse) hoL
  have eo : out.toArray.reverse.toList = out.reverse := by rw [Array.toList_reverse]
  have hlen : (js.reverse.map V.str).length ≤ sizeLine := by
    rw [List.length_map, List.length_reverse, pj.length_eq, ← hal]
    exact lz
  have eif : (if (true : Bool) = true then out.toArray.reverse else out.toArray) = out.toArray.reverse := if_pos rfl
  rw [eif]
  refine wpAny_pure ⟨_, rfl, .ref h2.objs.size, upd H h2.objs.size (.lst (js.reverse.map V.str)), I1.laid (t' := tk) (fun b u e => ?_) (Nat.le_refl _)
    (show ObjOk X.prog X.w _ _ _ (.lst (js.reverse.map V.str)) from ⟨hlen, out.toArray.reverse.toList, ep2, by rw [eo]; exact strs_vals hr, by rw [Array.toArray_toList]; exact he2⟩), rfl, q js.reverse _ ((List.reverse_perm js).trans pj) falls (I1.hok.fresh (Nat.le_refl _))⟩
  have hb : b < h2.objs.size := Heap.lt_size e
  rw [PyProof.Rows.sortedHeap_old (Nat.ne_of_lt hb) (by rw [size_push']; exact Nat.lt_succ_of_lt hb)]
  exact Heap.get?_push_of_some _ e
end
/-! ### one order alone -/
theorem perm_sorted {α : Type} {r : α → α → Prop} (anti : ∀ a b, r a b → r b a → a = b) : ∀ {l1 l2 : List α}, l1.Perm l2 → l1.Pairwise r → l2.Pairwise r → l1 = l2
  | [], l2, p, _, _ => (List.nil_perm.mp p).symm
  | x :: l1, [], p, _, _ => absurd (List.perm_nil.mp p) (by simp)
  | x :: l1, y :: l2, p, h1, h2 => by
    rw [List.pairwise_cons] at h1 h2
    have exy : x = y := by
      rcases List.mem_cons.mp (p.mem_iff.mp List.mem_cons_self) with e | m
      · exact e
      · rcases List.mem_cons.mp (p.mem_iff.mpr (List.mem_cons_self (a := y) (l := l2))) with e | m2
        · exact e.symm
        · exact anti x y (h1.1 y m2) (h2.1 x m)
    subst exy
    rw [perm_sorted anti (List.Perm.cons_inv p) h1.2 h2.2]
theorem str_inj {x y : Str} (h : x.cps.toList = y.cps.toList) : x = y := by
  cases x; cases y
  simp only [Str.mk.injEq]
  exact Array.toList_inj.mp h
theorem falls_one {l1 l2 : List Str} (p : l1.Perm l2) (h1 : Falls l1) (h2 : Falls l2) : l1 = l2 :=
  perm_sorted (fun a b h h2 => str_inj (PyProof.Rows.strKind.total _ _ h h2)) p h1 h2
theorem rising_all : ∀ (ys : List Str) (x : Str), risingS x ys = true → ∀ y ∈ ys, decide (y.cps.toList < x.cps.toList) = false
  | [], _, _, _, m => nomatch m
  | z :: ys, x, h, y, m => by
    have h : (!ltCps z.cps.toList x.cps.toList && risingS z ys) = true := h
    rw [Bool.and_eq_true, Bool.not_eq_true'] at h
    have hz : decide (z.cps.toList < x.cps.toList) = false := by rw [PyProof.Rows.lt_meets]; exact h.1
    rcases List.mem_cons.mp m with rfl | m
    · exact hz
    · exact PyProof.Rows.KeyOrd.kle_trans (O := PyProof.Rows.strKind.toKeyOrd) hz (rising_all ys z h.2 y m)
theorem sortedS_pw : ∀ (ys : List Str), sortedS ys = true → ys.Pairwise fun a b => decide (b.cps.toList < a.cps.toList) = false
  | [], _ => .nil
  | x :: ys, h => by
    have h : risingS x ys = true := h
    refine List.pairwise_cons.mpr ⟨rising_all ys x h, sortedS_pw ys ?_⟩
    cases ys with
    | nil => rfl
    | cons z ys =>
      have h : (!ltCps z.cps.toList x.cps.toList && risingS z ys) = true := h
      rw [Bool.and_eq_true] at h
      exact h.2
theorem sortedS_one {l1 l2 : List Str} (p : l1.Perm l2) (h1 : sortedS l1 = true) (h2 : sortedS l2 = true) : l1 = l2 :=
  perm_sorted (fun a b h h2 => str_inj (PyProof.Rows.strKind.total _ _ h2 h)) p (sortedS_pw _ h1) (sortedS_pw _ h2)
end Gk
/-! Gk54: what a law's own readers of schemas promise. -/
namespace Gk
open PySem PySem.Spec PyProof.Rows L2
theorem pi_weak {X : Cx} {tg it : Expr} {w1 w2 : TI} (h : PI X tg it w1) (i : ∀ st H R, w2 st H R → w1 st H R) : PI X tg it w2 := ⟨fun pins s st H R I q => h.run pins s st H R I (i st H R q)⟩
theorem pe_weak {X : Cx} {e : Expr} {t1 t2 : TE} (h : PE X e t1) (i : ∀ st H Q, t2 st H Q → t1 st H Q) : PE X e t2 := ⟨fun pins s st H Q I q => h.run pins s st H Q I (i st H Q q)⟩
/-- one path behind the other -/
theorem rd_cat2 {K : PySem.W.Frag} {H : Hp} {v u : V} {p q : Pth} {Q : VK} (hv : IsP H v p) (hu : IsP H u q) (l : p.length + q.length ≤ 1000) (k : ∀ w H2, Kp T0 H H2 → IsP H2 w (p ++ q) → Q w H2) : rCatA K v u H Q := by
  obtain ⟨a, rfl, ha⟩ := hv
  obtain ⟨b, rfl, hb⟩ := hu
  refine ⟨a, b, _, _, rfl, rfl, SqT.of ha, SqT.of hb, ?_, fun e => ?_, fun _ e => ?_, fun _ _ t ht => ?_⟩
  · rw [List.length_map, List.length_map, sizeLine_eq]
    omega
  · have e2 : p = [] := List.map_eq_nil_iff.mp e
    subst e2
    exact k _ H (Kp.refl H) ⟨b, rfl, hb⟩
  · have e2 : q = [] := List.map_eq_nil_iff.mp e
    subst e2
    exact k _ H (Kp.refl H) ⟨a, rfl, by rw [List.append_nil]; exact ha⟩
  · exact k _ _ ((Kp.refl H).new ht) ⟨t, rfl, by rw [upd_same, List.map_append]⟩
def spLKind : Sp := fun vs H Q _ => ∃ (f v : V) (ms : Msgs) (cs : Cho) (p : Pth), vs = [f, v] ∧ ForIs H f ms cs ∧ Sch ms ∧ IsP H v p ∧ p.length < 1000 ∧ (∀ x ∈ p, x.length < sizeLine) ∧ ∀ H2 r, Kp T0 H H2 → KVo H2 r (walkP ms topK p) → Q r H2
def spLMates : Sp := fun vs H Q _ => ∃ (f v : V) (ms : Msgs) (cs : Cho) (q : Pth) (l : Str) (k : Gk.Kind), vs = [f, v] ∧ ForIs H f ms cs ∧ Sch ms ∧ KsOk cs ∧ IsP H v (q ++ [l]) ∧ q.length < 900 ∧ (∀ x ∈ q, x.length < sizeLine) ∧ walkP ms topK q = some k ∧
  ∀ H2 r ys, Kp T0 H H2 → H r = none → H2 r = some (.lst ys) → Ps H2 ys (matesOf (mateRows cs (msgOf k)) q l) → Q (.ref r) H2
theorem forIs_at {H : Hp} {f : V} {ms : Msgs} {cs : Cho} (h : ForIs H f ms cs) : ∃ t ma ca, f = .ref t ∧ H t = some (.tup [.ref ma, .ref ca]) ∧ IsMs H (.ref ma) ms ∧ IsD2 IsF H (.ref ma) ms ∧ IsD2 IsRs H (.ref ca) cs := by
  obtain ⟨t, mv, cv, rfl, ht, ⟨ma, mk, rfl, hma, pm⟩, ⟨ca, ck, rfl, hca, pc⟩⟩ := h
  exact ⟨t, ma, ca, rfl, ht, ⟨ma, mk, rfl, .inl hma, pm⟩, ⟨ma, mk, rfl, hma, pm⟩, ⟨ca, ck, rfl, hca, pc⟩⟩
end Gk
/-! Gk32: a def of one parameter called by its name; the text of a list of fourteen equal things. -/
namespace Gk
open PySem PySem.Spec PyProof.Rows L2
structure D1 (P : Program) (w : World) (K : PySem.W.Frag) (mg : Str → Option Value) (base : Heap) (k : Nat) (f : Addr) (x prm : Str) (sp : Sp) : Prop where
  ex : ∃ fd, FnOk P w K mg base CX0 k f fd [prm] sp ∧ Binds K fd [prm] [] ∧ ∀ s u, BindsTo s fd ⟨[], [(prm, u)]⟩ [(prm, u)]
  mgx : mg x = some (.ref f)
  kp : PySem.W.keepIn K (.ref f) = true
theorem D1.df {P : Program} {w : World} {K : PySem.W.Frag} {mg : Str → Option Value} {base : Heap} {k : Nat} {f : Addr} {x prm : Str} {sp : Sp} (D : D1 P w K mg base k f x prm sp) : Df P w K mg base k f x [prm] sp := by
  obtain ⟨fd, F, b, _⟩ := D.ex
  exact ⟨⟨fd, F, b⟩, D.mgx, D.kp⟩
section
variable {X : Cx} {k : Nat} {f : Addr} {x prm : Str} {sp : Sp} {p pos kpos : Pos} {e : Expr} {te : TE}
theorem pe_d1K (D : D1 X.prog X.w X.K X.mg X.base k f x prm sp) (hr : Room k X.A) (hg : Gl X x) (he : PE X e te) (hdb : (x == ("__debug__" : Str)) = false := by decide)
    (hall : (backToKw pos (keywordEach [⟨some prm, e, kpos⟩] X.env)).all (·.1.isSome) = true := by rfl) (hks : (backToKw pos (keywordEach [⟨some prm, e, kpos⟩] X.env)).filterMap (·.1) = [prm] := by rfl)
    (hpl : ((backTo pos (starEach [] X.env)).any (·.1) || (backToKw pos (keywordEach [⟨some prm, e, kpos⟩] X.env)).any (·.1.isNone)) = false := by rfl) : PE X (.Call (.Name x p) [] [⟨some prm, e, kpos⟩] pos) (tCall sp [] E0 (tCons te tNil)) := by
  obtain ⟨fd, F, b, bk⟩ := D.ex
  refine ⟨fun pins s σ H Q I h => ?_⟩
  refine wpAny_Call_Name_kw (ld_glob I hg D.mgx ?_ hdb)
  refine PySem.W.callWith_KW0 (first := []) (h₀ := X.base) I.ok.mod.kin D.kp hall ?_ hpl
  refine thn ((pk_cons he pk_nil).run pos pins s σ H (fun vs H1 => sp (vs ++ []) H1 Q E0) I h) fun us s1 ⟨vs, H1, I1, r1, q1⟩ => ⟨I1.kIn, ?_⟩
  rw [hks]
  have kb : KBinds X.K fd [prm] [prm] (fun us ws => us ++ ws) (fun vs zs => vs ++ zs) := ⟨fun s us ws kin hl => by
    match us, ws, hl with
    | [u], [], _ => exact b s [u] kin rfl
    | [], [u], _ => exact bk s u
    | [], [], hl => cases hl
    | [], _ :: _ :: _, hl => simp at hl
    | [_], _ :: _, hl => simp at hl
    | _ :: _ :: _, _, hl => simp at hl, fun r z => r.append z⟩
  refine run_fnk (us := []) (vs := []) F hr kb pass0 I1 .nil r1 ?_
  have q2 : sp (vs ++ []) H1 Q E0 := q1
  rw [List.append_nil] at q2
  exact q2
end
theorem textFrom_le : ∀ (ts : List Str) (k : Nat) (acc : Str) (m : Nat), (∀ t ∈ ts, t.length ≤ m) → (textFrom k acc ts).length ≤ acc.length + ts.length * (m + 2)
  | [], k, acc, m, _ => by
    show acc.length ≤ _
    exact Nat.le_add_right _ _
  | t :: ts, k, acc, m, h => by
    have i := textFrom_le ts (k + 1) (acc ++ (if k > 0 then ", " else "" : String) ++ t) m fun x hx => h x (List.mem_cons_of_mem _ hx)
    have ht := h t List.mem_cons_self
    have hs : (PySem.Str.ofString (if k > 0 then ", " else "" : String)).length ≤ 2 := by
      by_cases c : k > 0
      · rw [if_pos c]; decide
      · rw [if_neg c]; decide
    show (textFrom (k + 1) (acc ++ (if k > 0 then ", " else "" : String) ++ t) ts).length ≤ _
    rw [strLen_append, strLen_append] at i
    rw [List.length_cons, Nat.succ_mul]
    omega
theorem listText_le {ts : List Str} {m : Nat} (h : ∀ t ∈ ts, t.length ≤ m) : (listText ts).length ≤ 2 + ts.length * (m + 2) := by
  have i := textFrom_le ts 0 "[" m h
  show (textFrom 0 "[" ts ++ "]").length ≤ _
  rw [strLen_append]
  have a : (PySem.Str.ofString "[").length = 1 := rfl
  have b : (PySem.Str.ofString "]").length = 1 := rfl
  omega
theorem rep_shown (d : PyData) : ∀ n, PyData.shownAll (List.replicate n d) = List.replicate n d.shown
  | 0 => by simp [PyData.shownAll]
  | n + 1 => by rw [List.replicate_succ, List.replicate_succ, PyData.shownAll, rep_shown d n]
theorem rep_sw {d : PyData} (h : d.showable = true) : ∀ n, PyData.showableAll (List.replicate n d) = true
  | 0 => by simp [PyData.showableAll]
  | n + 1 => by rw [List.replicate_succ, PyData.showableAll, rep_sw h n, h]; rfl
theorem rep_depth (d : PyData) : ∀ n, PyData.depthAll (List.replicate n d) ≤ d.depth
  | 0 => by simp [PyData.depthAll]
  | n + 1 => by
    rw [List.replicate_succ, PyData.depthAll]
    exact Nat.max_le.mpr ⟨Nat.le_refl _, rep_depth d n⟩
theorem rep_dds {T : Addr → Prop} {H : Hp} {v : V} {d : PyData} (h : Dd T H v d) : ∀ n, Dds T H (List.replicate n v) (List.replicate n d)
  | 0 => .nil
  | n + 1 => .cons h (rep_dds h n)
/-- the reading of repr of fourteen times the same -/
theorem rd_rep {T : Addr → Prop} {H : Hp} {a : Addr} {v : V} {d : PyData} {Q : VK} (e : H a = some (.lst (List.replicate 14 v))) (h : Dd T H v d) (sw : d.showable = true) (dd : d.depth ≤ 60) (sz : d.shown.length ≤ 1000) (k : Q (.str (PyData.list (List.replicate 14 d)).shown) H) : rReprL [.ref a] H Q := by
  refine ⟨a, _, List.replicate 14 d, T, rfl, e, rep_dds h 14, rep_sw sw 14, Nat.le_trans (rep_depth d 14) dd, ?_, k⟩
  simp only [PyData.shown]
  rw [rep_shown]
  have l := listText_le (ts := List.replicate 14 d.shown) (m := 1000) fun t m => by rw [List.eq_of_mem_replicate m]; exact sz
  rw [List.length_replicate] at l
  rw [sizeLine_eq]
  omega
end Gk
/-! Gk55: any value's data: as a path, in a repr. -/
namespace Gk
open PySem PySem.Spec PyProof.Rows L2
/-! ### texts that are shown short -/
def txtOk (x : Str) : Bool := decide (x.length ≤ 100) && x.cps.toList.all fun c => decide (c < 16 ^ 8)
theorem txt_shown {x : Str} (h : txtOk x = true) : (reprText x).length ≤ 1002 := by
  unfold txtOk at h
  rw [Bool.and_eq_true] at h
  have h1 := of_decide_eq_true h.1
  have h2 := PySem.StrLaws.reprText_len x fun c m => of_decide_eq_true (List.all_eq_true.mp h.2 c m)
  omega
theorem txt_nm {x : Str} (h : isNm x = true) : txtOk x = true := by
  unfold isNm isLet at h
  simp only [Bool.and_eq_true] at h
  obtain ⟨⟨h1, h2⟩, h3⟩ := h
  have h2 := of_decide_eq_true h2
  unfold txtOk
  rw [Bool.and_eq_true]
  refine ⟨decide_eq_true (by omega), List.all_eq_true.mpr fun c m => decide_eq_true ?_⟩
  have z := let_small c (of_decide_eq_true (List.all_eq_true.mp h3 c m))
  exact Nat.lt_trans z (by decide)
/-- an item of a path, good or not -/
def itemOk : PyData → Bool
  | .str x => txtOk x
  | .int i => decide (i.natAbs < 1000)
  | .none => true
  | _ => false
theorem int_shown (i : Int) (h : i.natAbs < 1000) : (PyData.int i).showable = true ∧ (PyData.int i).shown.length ≤ 1002 := by
  have all : ∀ n : Nat, n < 1000 → ((PyData.int (n : Int)).showable = true ∧ (PyData.int (n : Int)).shown.length ≤ 1002) ∧ ((PyData.int (-(n : Int))).showable = true ∧ (PyData.int (-(n : Int))).shown.length ≤ 1002) := by decide +kernel
  rcases Int.natAbs_eq i with e | e
  · rw [e]
    exact (all _ h).1
  · rw [e]
    exact (all _ h).2
theorem item_shown : ∀ {d : PyData}, itemOk d = true → d.showable = true ∧ d.depth = 0 ∧ d.shown.length ≤ 1002
  | .str x, h => ⟨rfl, rfl, txt_shown h⟩
  | .int i, h => ⟨(int_shown i (of_decide_eq_true h)).1, rfl, (int_shown i (of_decide_eq_true h)).2⟩
  | .none, _ => ⟨rfl, rfl, by decide⟩
theorem items_shown : ∀ {ds : List PyData}, (∀ d ∈ ds, itemOk d = true) → PyData.showableAll ds = true ∧ PyData.depthAll ds = 0 ∧ (∀ t ∈ PyData.shownAll ds, t.length ≤ 1002) ∧ (PyData.shownAll ds).length = ds.length
  | [], _ => ⟨rfl, rfl, (fun _ m => nomatch m), rfl⟩
  | d :: ds, h => by
    obtain ⟨a1, a2, a3⟩ := item_shown (h d List.mem_cons_self)
    obtain ⟨b1, b2, b3, b4⟩ := items_shown fun e m => h e (List.mem_cons_of_mem _ m)
    refine ⟨by rw [PyData.showableAll, a1, b1]; rfl, by rw [PyData.depthAll, a2, b2]; rfl, fun t m => ?_, by rw [PyData.shownAll, List.length_cons, List.length_cons, b4]⟩
    rw [PyData.shownAll] at m
    rcases List.mem_cons.mp m with rfl | m
    · exact a3
    · exact b3 t m
theorem join_le : ∀ {ts : List Str} {m : Nat}, (∀ t ∈ ts, t.length ≤ m) → (Str.join ", " ts).length ≤ ts.length * (m + 2) := by
  intro ts m h
  by_cases c : ts = []
  · subst c
    have e : (Str.join ", " []).length = 0 := by decide
    rw [e]
    exact Nat.zero_le _
  · have e := join_length_add ts c
    have p : ∀ ts : List Str, (∀ t ∈ ts, t.length ≤ m) → piled ts ≤ ts.length * (m + 2) := by
      intro ts
      induction ts with
      | nil => exact fun _ => Nat.zero_le _
      | cons t ts ih =>
        intro h
        have h1 := h t List.mem_cons_self
        have h2 := ih fun x mx => h x (List.mem_cons_of_mem _ mx)
        have e2 : piled (t :: ts) = t.length + 2 + piled ts := by simp [piled]
        rw [e2, List.length_cons, Nat.succ_mul]
        omega
    have := p ts h
    omega
theorem tupleText_le {ts : List Str} {m : Nat} (h : ∀ t ∈ ts, t.length ≤ m) : (tupleText ts).length ≤ 3 + ts.length * (m + 2) := by
  have j := join_le h
  unfold tupleText
  rw [strLen_append, strLen_append]
  have a : (PySem.Str.ofString "(").length = 1 := rfl
  have b : (PySem.Str.ofString (if ts.length == 1 then ",)" else ")" : String)).length ≤ 2 := by
    split
    · decide
    · decide
  omega
/-- what a value's data is asked to be -/
structure DOk (d : PyData) : Prop where
  sw : d.showable = true
  dd : d.depth ≤ 50
  sz : d.shown.length ≤ 8000000
theorem tup_ok {ds : List PyData} (h : ∀ d ∈ ds, itemOk d = true) (l : ds.length ≤ 30) : DOk (.tuple ds) := by
  obtain ⟨a, b, c, e⟩ := items_shown h
  refine ⟨a, by rw [PyData.depth, b]; decide, ?_⟩
  rw [PyData.shown]
  have z := tupleText_le c
  rw [e] at z
  have : ds.length * (1002 + 2) ≤ 30 * 1004 := Nat.mul_le_mul_right _ l
  omega
theorem lst_ok {ds : List PyData} (h : ∀ d ∈ ds, itemOk d = true) (l : ds.length ≤ 30) : DOk (.list ds) := by
  obtain ⟨a, b, c, e⟩ := items_shown h
  refine ⟨a, by rw [PyData.depth, b]; decide, ?_⟩
  rw [PyData.shown]
  have z := listText_le c
  rw [e] at z
  have : ds.length * (1002 + 2) ≤ 30 * 1004 := Nat.mul_le_mul_right _ l
  omega
/-! ### a value as a path -/
def namesOf : List PyData → Option Pth
  | [] => some []
  | .str x :: ds => if isNm x = true then (namesOf ds).map (x :: ·) else none
  | _ :: _ => none
def pthOf : PyData → Option Pth
  | .tuple ds => namesOf ds
  | _ => none
/-- texts that a name's test reads are not overlong -/
def shortD : PyData → Bool
  | .tuple ds => decide (ds.length ≤ 1000) && ds.all fun d => match d with
    | .str x => decide (x.length < 1000) && PyData.strOk x
    | _ => true
  | _ => true
theorem namesOf_some : ∀ {ds : List PyData} {p : Pth}, namesOf ds = some p → ds = p.map PyData.str ∧ OkN p
  | [], p, h => by
    cases Option.some.inj h
    exact ⟨rfl, fun _ m => nomatch m⟩
  | .str x :: ds, p, h => by
    unfold namesOf at h
    by_cases c : isNm x = true
    · rw [if_pos c] at h
      cases e : namesOf ds with
      | none =>
        rw [e] at h
        cases h
      | some q =>
        rw [e] at h
        cases Option.some.inj h
        obtain ⟨e1, o⟩ := namesOf_some e
        refine ⟨by rw [e1]; rfl, fun y m => ?_⟩
        rcases List.mem_cons.mp m with rfl | m
        · exact c
        · exact o y m
    · rw [if_neg c] at h
      cases h
  | .none :: _, _, h => nomatch h
  | .bool _ :: _, _, h => nomatch h
  | .int _ :: _, _, h => nomatch h
  | .list _ :: _, _, h => nomatch h
  | .tuple _ :: _, _, h => nomatch h
  | .dict _ :: _, _, h => nomatch h
theorem dd_noStr {K : PySem.W.Frag} {T : Addr → Prop} {H : Hp} {v : V} {d : PyData} (h : Dd T H v d) (n : ∀ x, d ≠ .str x) : NoStr K H v := by
  cases h with
  | sc s =>
    cases s with
    | non => exact ⟨_, .base .non, kit_ty (by decide +kernel)⟩
    | bl b => exact ⟨_, .base (.bl b), kit_ty (by decide +kernel)⟩
    | int i => exact ⟨_, .base (.int i), kit_ty (by decide +kernel)⟩
    | str x => exact absurd rfl (n x)
  | lst _ e _ => exact ⟨_, .base (.lst e), kit_ty (by decide +kernel)⟩
  | tup _ e _ => exact ⟨_, .base (.tup e), kit_ty (by decide +kernel)⟩
  | dict _ e _ => exact ⟨_, .base (.dK e), kit_ty (by decide +kernel)⟩
theorem dd_str {T : Addr → Prop} {H : Hp} {v : V} {x : Str} (h : Dd T H v (.str x)) : v = .str x := by
  cases h with
  | sc s => cases s; rfl
/-- the names' tests of a tuple's items -/
def nmB : PyData → Bool
  | .str x => isNm x
  | _ => false
theorem dds_items {K : PySem.W.Frag} {T : Addr → Prop} {H : Hp} : ∀ {xs : List V} {ds : List PyData}, Dds T H xs ds → (∀ x, PyData.str x ∈ ds → x.length < 1000) → Paired (ItN K H) xs (ds.map nmB)
  | _, _, .nil, _ => .nil
  | v :: vs, d :: ds, .cons h r, s => by
    refine .cons ?_ (dds_items r fun x m => s x (List.mem_cons_of_mem _ m))
    cases d with
    | str x =>
      rw [dd_str h]
      exact .inl ⟨x, rfl, Nat.lt_trans (s x List.mem_cons_self) (by rw [sizeLine_eq]; decide), rfl⟩
    | none => exact .inr ⟨dd_noStr h (fun x e => nomatch e), rfl⟩
    | bool b => exact .inr ⟨dd_noStr h (fun x e => nomatch e), rfl⟩
    | int i => exact .inr ⟨dd_noStr h (fun x e => nomatch e), rfl⟩
    | list l => exact .inr ⟨dd_noStr h (fun x e => nomatch e), rfl⟩
    | tuple l => exact .inr ⟨dd_noStr h (fun x e => nomatch e), rfl⟩
    | dict l => exact .inr ⟨dd_noStr h (fun x e => nomatch e), rfl⟩
theorem names_all : ∀ {ds : List PyData}, namesOf ds = none → (ds.map nmB).all id = false
  | [], h => nomatch h
  | .str x :: ds, h => by
    unfold namesOf at h
    by_cases c : isNm x = true
    · rw [if_pos c] at h
      cases e : namesOf ds with
      | none =>
        have i := names_all e
        rw [List.map_cons, List.all_cons, i, Bool.and_false]
      | some q =>
        rw [e] at h
        cases h
    · rw [List.map_cons, List.all_cons]
      have e : id (nmB (.str x)) = false := by
        show isNm x = false
        simpa using c
      rw [e, Bool.false_and]
  | .none :: _, _ => rfl
  | .bool _ :: _, _ => rfl
  | .int _ :: _, _ => rfl
  | .list _ :: _, _ => rfl
  | .tuple _ :: _, _ => rfl
  | .dict _ :: _, _ => rfl
theorem dds_strs {T : Addr → Prop} {H : Hp} : ∀ {xs : List V} {p : Pth}, Dds T H xs (p.map PyData.str) → xs = p.map V.str
  | _, [], .nil => rfl
  | _, x :: p, .cons h r => by
    rw [dd_str h, dds_strs r]
    rfl
theorem dds_len {T : Addr → Prop} {H : Hp} : ∀ {xs : List V} {ds : List PyData}, Dds T H xs ds → xs.length = ds.length
  | _, _, .nil => rfl
  | _, _, .cons _ r => by rw [List.length_cons, List.length_cons, dds_len r]
theorem dd_pv {K : PySem.W.Frag} {T : Addr → Prop} {H : Hp} {v : V} {d : PyData} (h : Dd T H v d) (s : shortD d = true) : PV K H v (pthOf d) := by
  cases h with
  | sc c =>
    cases c with
    | non => exact .inr ⟨rfl, .inr .non⟩
    | bl b => exact .inr ⟨rfl, .inr (.bl b)⟩
    | int i => exact .inr ⟨rfl, .inr (.int i)⟩
    | str x => exact .inr ⟨rfl, .inr (.str x)⟩
  | lst _ e _ => exact .inr ⟨rfl, .inr (.lst e)⟩
  | dict _ e _ => exact .inr ⟨rfl, .inr (.dct e)⟩
  | @tup a vs ds n e r =>
    have s : (decide (ds.length ≤ 1000) && ds.all fun d => match d with
      | .str x => decide (x.length < 1000) && PyData.strOk x
      | _ => true) = true := s
    rw [Bool.and_eq_true] at s
    have sl := of_decide_eq_true s.1
    have lv := dds_len r
    cases c : namesOf ds with
    | some p =>
      obtain ⟨e1, o⟩ := namesOf_some c
      subst e1
      have ev := dds_strs r
      subst ev
      refine .inl ⟨p, c, ⟨a, rfl, e⟩, o, ?_⟩
      rw [List.length_map] at sl
      rw [sizeLine_eq]
      omega
    | none =>
      refine .inr ⟨c, .inl ⟨a, vs, ds.map nmB, rfl, e, dds_items r fun x m => ?_, by rw [sizeLine_eq]; omega, names_all c⟩⟩
      have z := List.all_eq_true.mp s.2 _ m
      rw [Bool.and_eq_true] at z
      exact of_decide_eq_true z.1
/-- any value: its data, apart from T -/
structure Val (T : Addr → Prop) (H : Hp) (v : V) (d : PyData) : Prop where
  dd : Dd T H v d
  ok : DOk d
  sh : shortD d = true
theorem Val.keep {T : Addr → Prop} {H H2 : Hp} {v : V} {d : PyData} (h : Val T H v d) (k : Kp T H H2) : Val T H2 v d := ⟨h.dd.keep k, h.ok, h.sh⟩
theorem Val.pv {K : PySem.W.Frag} {T : Addr → Prop} {H : Hp} {v : V} {d : PyData} (h : Val T H v d) : PV K H v (pthOf d) := dd_pv h.dd h.sh
theorem Val.free {T : Addr → Prop} {H : Hp} {v : V} {d : PyData} (h : Val T H v d) : Val T0 H v d := ⟨h.dd.out fun _ z => z.elim, h.ok, h.sh⟩
theorem pth_len {d : PyData} (s : shortD d = true) {p : Pth} (h : pthOf d = some p) : p.length ≤ 1000 := by
  cases d with
  | tuple ds =>
    obtain ⟨e, _⟩ := namesOf_some (show namesOf ds = some p from h)
    subst e
    have s : (decide ((p.map PyData.str).length ≤ 1000) && _) = true := s
    rw [Bool.and_eq_true, List.length_map] at s
    exact of_decide_eq_true s.1
  | _ => cases h
/-- repr of a list of a text and a value -/
def twoD (s : Str) (d : PyData) : PyData := .list [.str s, d]
theorem rd_two {T : Addr → Prop} {H : Hp} {a : Addr} {s : Str} {v : V} {d : PyData} {Q : VK} (e : H a = some (.lst [.str s, v])) (h : Dd T H v d) (ok : DOk d) (ts : txtOk s = true) (k : Q (.str (twoD s d).shown) H) : rReprL [.ref a] H Q := by
  refine ⟨a, _, [.str s, d], T, rfl, e, .cons (.sc (.str s)) (.cons h .nil), ?_, ?_, ?_, k⟩
  · rw [PyData.showableAll, PyData.showableAll, ok.sw]
    rfl
  · have := ok.dd
    rw [PyData.depthAll, PyData.depthAll, PyData.depthAll]
    show max 0 (max d.depth 0) ≤ 60
    omega
  · have h1 := txt_shown ts
    have h2 := ok.sz
    have z := listText_le (ts := PyData.shownAll [.str s, d]) (m := 8000000) fun t m => by
      rw [PyData.shownAll, PyData.shownAll, PyData.shownAll] at m
      rcases List.mem_cons.mp m with rfl | m
      · exact Nat.le_trans h1 (by decide)
      · rcases List.mem_cons.mp m with rfl | m
        · exact h2
        · cases m
    rw [PyData.shown]
    have l : (PyData.shownAll [.str s, d]).length = 2 := rfl
    rw [l] at z
    rw [sizeLine_eq]
    omega
end Gk
/-! Gk56: displays of any data. -/
namespace Gk
open PySem PySem.Spec PyProof.Rows L2
/-- the addresses of T are taken -/
def Occ (T : Addr → Prop) (H : Hp) : Prop := ∀ b, T b → H b ≠ none
theorem Occ.keep {T : Addr → Prop} {H H2 : Hp} (h : Occ T H) (k : Kp T0 H H2) : Occ T H2 := fun b t => by
  have := h b t
  cases e : H b with
  | none => exact absurd e this
  | some o =>
    rw [k.at0 e]
    exact fun z => nomatch z
theorem Occ.new {T : Addr → Prop} {H : Hp} (h : Occ T H) {p : Addr} (n : H p = none) : ¬ T p := fun t => h p t n
/-- the expression gives a value of these data, apart from whatever is taken -/
def GD (st : L2.St) (te : TE) (d : PyData) : Prop := ∀ (T : Addr → Prop) (H : Hp) (Q : VK), Occ T H → (∀ v H2, Kp T0 H H2 → Dd T H2 v d → Q v H2) → te st H Q
theorem gd_of {st : L2.St} {te : TE} {v : V} {d : PyData} (s : Sc v d) (h : ∀ H Q, Q v H → te st H Q) : GD st te d := fun T H Q _ q => h H Q (q v H (Kp.refl H) (.sc s))
theorem gd_c {st : L2.St} {v : V} {d : PyData} (s : Sc v d) : GD st (tC v) d := gd_of s fun _ _ q => q
theorem gd_all {st : L2.St} : ∀ (ts : List (TE × PyData)), (∀ t ∈ ts, GD st t.1 t.2) → ∀ (T : Addr → Prop) (H : Hp) (R : List V → Hp → Prop), Occ T H → (∀ vs H2, Kp T0 H H2 → Dds T H2 vs (ts.map (·.2)) → R vs H2) → ((ts.map (·.1)).foldr tCons tNil) st H R
  | [], _, T, H, R, _, h => h [] H (Kp.refl H) .nil
  | t :: ts, g, T, H, R, oc, h => by
    refine g t List.mem_cons_self T H _ oc fun v H2 k2 r => ?_
    exact gd_all ts (fun t m => g t (List.mem_cons_of_mem _ m)) T H2 _ (oc.keep k2) fun vs H3 k3 p => h (v :: vs) H3 (k2.trans k3) (.cons (r.keep k3.wide) p)
theorem gd_tup {st : L2.St} (ts : List (TE × PyData)) (g : ∀ t ∈ ts, GD st t.1 t.2) (few : ts.length ≤ 100) : GD st (tTup ((ts.map (·.1)).foldr tCons tNil)) (.tuple (ts.map (·.2))) := by
  intro T H Q oc q
  refine gd_all ts g T H _ oc fun vs H2 k2 p => ⟨?_, fun t ht => ?_⟩
  · rw [dds_len p, List.length_map, sizeLine_eq]
    omega
  · have k3 : Kp T0 H2 (upd H2 t (.tup vs)) := (Kp.refl H2).new ht
    exact q _ _ (k2.trans k3) (.tup ((oc.keep k2).new ht) upd_same (p.keep k3.wide))
theorem gd_list {st : L2.St} (ts : List (TE × PyData)) (g : ∀ t ∈ ts, GD st t.1 t.2) (few : ts.length ≤ 100) {T : Addr → Prop} {H : Hp} {Q : VK} (oc : Occ T H) (q : ∀ l vs H2, Kp T0 H H2 → H2 l = some (.lst vs) → H l = none → Dds T H2 vs (ts.map (·.2)) → Q (.ref l) H2) : tLst ((ts.map (·.1)).foldr tCons tNil) st H Q := by
  refine gd_all ts g T H _ oc fun vs H2 k2 p => ⟨?_, fun t ht => ?_⟩
  · rw [dds_len p, List.length_map, sizeLine_eq]
    omega
  · have k3 : Kp T0 H2 (upd H2 t (.lst vs)) := (Kp.refl H2).new ht
    exact q _ _ _ (k2.trans k3) upd_same (k2.free ht) (p.keep k3.wide)
theorem gd_lst {st : L2.St} (ts : List (TE × PyData)) (g : ∀ t ∈ ts, GD st t.1 t.2) (few : ts.length ≤ 100) : GD st (tLst ((ts.map (·.1)).foldr tCons tNil)) (.list (ts.map (·.2))) := by
  intro T H Q oc q
  refine gd_all ts g T H _ oc fun vs H2 k2 p => ⟨?_, fun t ht => ?_⟩
  · rw [dds_len p, List.length_map, sizeLine_eq]
    omega
  · have k3 : Kp T0 H2 (upd H2 t (.lst vs)) := (Kp.refl H2).new ht
    exact q _ _ (k2.trans k3) (.lst ((oc.keep k2).new ht) upd_same (p.keep k3.wide))
theorem gd_d0 {st : L2.St} : GD st tDNewK (.dict []) := fun T H Q oc q p hp => q _ _ ((Kp.refl H).new hp) (.dict (oc.new hp) upd_same .nil)
/-- {x: e} -/
theorem gd_d1 {st : L2.St} {x : Str} {te : TE} {d : PyData} (g : GD st te d) : GD st (tDisp [(tC (.str x), te)]) (.dict [(.str x, d)]) := by
  intro T H Q oc q p hp
  have k1 : Kp T0 H (upd H p (.dK [])) := (Kp.refl H).new hp
  have oc1 : Occ (fun b => T b ∨ b = p) (upd H p (.dK [])) := fun b t => by
    rcases t with t | rfl
    · exact oc.keep k1 b t
    · rw [upd_same]
      exact fun z => nomatch z
  refine g (fun b => T b ∨ b = p) _ _ oc1 fun v H2 k2 r => ?_
  refine ⟨k2.at0 upd_same, [(.inr x, v)], rfl, by show 1 ≤ 15; decide, ?_⟩
  have em : mergeK [] [((.inr x : L2.Key), v)] = [(.inr x, v)] := rfl
  rw [em]
  refine q _ _ ((k1.trans k2).over hp) (.dict (oc.new hp) upd_same (.cons (k := .inr x) ?_ .nil))
  have k3 : Kp (fun b => T b ∨ b = p) H2 (upd H2 p (.dK [(.inr x, v)])) := (Kp.refl H2).put (.inr rfl)
  exact (r.keep k3).out fun a t => .inl (.inl t)
theorem dds_mem {T : Addr → Prop} {H : Hp} : ∀ {vs : List V} {ds : List PyData}, Dds T H vs ds → ∀ v ∈ vs, ∃ d ∈ ds, Dd T H v d
  | _, _, .nil, _, m => nomatch m
  | _, _, .cons (d := d) h r, v, m => by
    rcases List.mem_cons.mp m with rfl | m
    · exact ⟨d, List.mem_cons_self, h⟩
    · obtain ⟨e, me, he⟩ := dds_mem r v m
      exact ⟨e, List.mem_cons_of_mem _ me, he⟩
theorem dds_app {T : Addr → Prop} {H : Hp} : ∀ {vs us : List V} {ds es : List PyData}, Dds T H vs ds → Dds T H us es → Dds T H (vs ++ us) (ds ++ es)
  | _, _, _, _, .nil, h => h
  | _, _, _, _, .cons a r, h => .cons a (dds_app r h)
/-- checked by computing -/
def okB (d : PyData) : Bool := d.showable && (decide (d.depth ≤ 50) && (decide (d.shown.length ≤ 100000) && shortD d))
theorem val_of {T : Addr → Prop} {H : Hp} {v : V} {d : PyData} (h : Dd T H v d) (o : okB d = true) : Val T H v d := by
  unfold okB at o
  simp only [Bool.and_eq_true] at o
  exact ⟨h, ⟨o.1, of_decide_eq_true o.2.1, Nat.le_trans (of_decide_eq_true o.2.2.1) (by decide)⟩, o.2.2.2⟩
theorem occ_tape {H : Hp} {t : Addr} (h : TapeAt H t) : Occ (At t) H := fun b e => by
  obtain ⟨d, m, z, _⟩ := h
  rw [show b = t from e, z]
  exact fun z => nomatch z
def few20 (d : PyData) : Bool := match pthOf d with
  | some p => decide (p.length ≤ 20)
  | none => true
theorem few20_le {d : PyData} (h : few20 d = true) : ∀ p, pthOf d = some p → p.length ≤ 20 := fun p e => by
  unfold few20 at h
  rw [e] at h
  exact of_decide_eq_true h
def spAny5 : Sp := fun vs H Q _ => ∃ (t : Addr) (T : Addr → Prop), vs = [.ref t] ∧ TapeAt H t ∧ T t ∧ Occ T H ∧ ∀ H2 v d, Kp (At t) H H2 → TapeAt H2 t → Val T H2 v d → (∀ p, pthOf d = some p → p.length ≤ 20) → Q v H2
end Gk
/-! Gk57: what a schema tells of a value, as data; that two schemas of the same messages tell the same. -/
namespace Gk
open PySem PySem.Spec PyProof.Rows L2
/-! ### one row alone holds a field -/
theorem one_row {l : Str} : ∀ {rows : List Pth}, rows.flatten.Nodup → (rows.filter fun c => decide (l ∈ c)).length ≤ 1
  | [], _ => Nat.zero_le _
  | c :: rows, nd => by
    rw [List.flatten_cons, List.nodup_append] at nd
    rw [List.filter_cons]
    by_cases m : l ∈ c
    · have e : rows.filter (fun c => decide (l ∈ c)) = [] := by
        rw [List.filter_eq_nil_iff]
        intro d md hd
        have hd := of_decide_eq_true hd
        exact nd.2.2 l m l (List.mem_flatten.mpr ⟨d, md, hd⟩) rfl
      rw [decide_eq_true m, if_pos rfl, e]
      exact Nat.le_refl 1
    · rw [decide_eq_false m, if_neg Bool.false_ne_true]
      exact one_row nd.2.1
theorem perm_short {α : Type} {xs ys : List α} (p : xs.Perm ys) (h : xs.length ≤ 1) : xs = ys := by
  match xs, h with
  | [], _ => exact (List.nil_perm.mp p).symm
  | [x], _ => exact (List.singleton_perm.mp p).symm ▸ rfl
  | _ :: _ :: _, h => exact absurd h (by simp)
theorem mates_perm {rows rows2 : List Pth} (p : rows2.Perm rows) (nd : rows.flatten.Nodup) (q : Pth) (l : Str) : matesOf rows2 q l = matesOf rows q l := by
  unfold matesOf
  have pf := p.filter fun c => decide (l ∈ c)
  rw [(perm_short pf.symm (one_row nd)).symm]
theorem mates_few {rows : List Pth} (nd : rows.flatten.Nodup) (h : ∀ c ∈ rows, c.length < 64) (q : Pth) (l : Str) : (matesOf rows q l).length ≤ 64 := by
  unfold matesOf
  have one := one_row (l := l) nd
  have sub : ∀ c ∈ rows.filter (fun c => decide (l ∈ c)), c.length < 64 := fun c m => h c (List.mem_filter.mp m).1
  match e : rows.filter (fun c => decide (l ∈ c)), one, sub with
  | [], _, _ => exact Nat.zero_le _
  | [c], _, sub =>
    rw [List.flatMap_cons, List.flatMap_nil, List.append_nil, List.length_map]
    exact Nat.le_of_lt (Nat.lt_of_le_of_lt (List.length_filter_le _ _) (sub c List.mem_cons_self))
  | _ :: _ :: _, one, _ => exact absurd one (by simp)
/-! ### what is told -/
def BadC (ms : Msgs) (o : Option Pth) : Nat → Prop
  | 1 => msgAt ms o = none
  | _ => o.bind (kindAt ms) = none
def TD (ms : Msgs) (ks : Cho) (o : Option Pth) : Nat → PyData → Prop
  | 0, D => ∃ k, o.bind (kindAt ms) = some k ∧ D = .tuple (k.map PyData.str)
  | 1, D => ∃ x ys, msgAt ms o = some x ∧ ys.Perm ((fldsOf ms x).map (·.1)) ∧ sortedS ys = true ∧ D = .list (ys.map PyData.str)
  | _, D => ∃ q l, o = some (q ++ [l]) ∧ (kindAt ms (q ++ [l])).isSome = true ∧ D = .list ((matesOf (mateRows ks (msgAt ms (some q))) q l).map dP)
structure SameS (ms tw : Msgs) (cs ks : Cho) : Prop where
  kind : ∀ p, kindAt tw p = kindAt ms p
  msg : ∀ o, msgAt tw o = msgAt ms o
  names : ∀ x, ((fldsOf tw x).map (·.1)).Perm ((fldsOf ms x).map (·.1))
  mates : ∀ nm q l, matesOf (mateRows ks nm) q l = matesOf (mateRows cs nm) q l
theorem bind_same {ms tw : Msgs} {cs ks : Cho} (S : SameS ms tw cs ks) (o : Option Pth) : o.bind (kindAt tw) = o.bind (kindAt ms) := by
  cases o with
  | none => rfl
  | some p => exact S.kind p
theorem td_one {ms tw : Msgs} {cs ks : Cho} (S : SameS ms tw cs ks) {o : Option Pth} {way : Nat} {D E : PyData} (h : TD tw ks o way D) (g : TD ms cs o way E) : D = E := by
  match way, h, g with
  | 0, ⟨k, e, d⟩, ⟨k2, e2, d2⟩ =>
    rw [bind_same S, e2] at e
    cases Option.some.inj e
    rw [d, d2]
  | 1, ⟨x, ys, e, p, s, d⟩, ⟨x2, ys2, e2, p2, s2, d2⟩ =>
    rw [S.msg, e2] at e
    have ex : x2 = x := Option.some.inj e
    subst ex
    rw [d, d2, sortedS_one (p.trans ((S.names _).trans p2.symm)) s s2]
  | n + 2, ⟨q, l, e, _, d⟩, ⟨q2, l2, e2, _, d2⟩ =>
    rw [e2] at e
    have e := Option.some.inj e
    have h1 : q2 = q := List.append_inj_left' e rfl
    subst h1
    have h2 : l2 = l := by
      have z := List.append_cancel_left e
      injection z
    subst h2
    rw [d, d2, S.msg, S.mates]
theorem td_bad {ms tw : Msgs} {cs ks : Cho} (S : SameS ms tw cs ks) {o : Option Pth} {way : Nat} {D : PyData} (h : TD tw ks o way D) (g : BadC ms o way) : False := by
  match way, h, g with
  | 0, ⟨k, e, d⟩, g =>
    rw [bind_same S, show o.bind (kindAt ms) = none from g] at e
    cases e
  | 1, ⟨x, ys, e, _⟩, g =>
    rw [S.msg, show msgAt ms o = none from g] at e
    cases e
  | n + 2, ⟨q, l, e, hs, d⟩, g =>
    subst e
    have g : kindAt ms (q ++ [l]) = none := g
    rw [S.kind, g] at hs
    cases hs
theorem td_bad2 {ms tw : Msgs} {cs ks : Cho} (S : SameS ms tw cs ks) {o : Option Pth} {way : Nat} {D : PyData} (h : TD ms cs o way D) (g : BadC tw o way) : False := by
  match way, h, g with
  | 0, ⟨k, e, d⟩, g =>
    have g : o.bind (kindAt tw) = none := g
    rw [bind_same S, e] at g
    cases g
  | 1, ⟨x, ys, e, _⟩, g =>
    have g : msgAt tw o = none := g
    rw [S.msg, e] at g
    cases g
  | n + 2, ⟨q, l, e, hs, d⟩, g =>
    subst e
    have g : kindAt tw (q ++ [l]) = none := g
    rw [S.kind] at g
    rw [g] at hs
    cases hs
/-! ### promises -/
/-- a list that tells, or that says that a value is bad -/
def Says (ms : Msgs) (ks : Cho) (way : Nat) (v : V) (o : Option Pth) (H : Hp) (Q : VK) : Prop :=
  (∀ H2 l u D, Kp T0 H H2 → H l = none → H2 l = some (.lst [.str "told", u]) → Dd T0 H2 u D → TD ms ks o way D → (way ≠ 0 → ∃ y ys, u = .ref y ∧ H y = none ∧ H2 y = some (.lst ys)) → Q (.ref l) H2) ∧
  (∀ H2 l, Kp T0 H H2 → H l = none → H2 l = some (.lst [.str "bad", v]) → BadC ms o way → Q (.ref l) H2)
def spCaught5 (K : PySem.W.Frag) (C : Addr) : Sp := fun vs H Q _ => ∃ (s v : V) (way : Nat) (ms : Msgs) (ks : Cho) (o : Option Pth), vs = [s, .int (way : Nat), v] ∧ way < 3 ∧ IsS C H s ms ks ∧ Sch ms ∧ KsOk ks ∧ PV K H v o ∧ (∀ p, o = some p → p.length < 900) ∧ Says ms ks way v o H Q
def spDue5 : Sp := fun vs H Q _ => ∃ (f v : V) (way : Nat) (ms : Msgs) (cs : Cho) (d : PyData) (T : Addr → Prop), vs = [f, .int (way : Nat), v] ∧ way < 3 ∧ ForIs H f ms cs ∧ Sch ms ∧ KsOk cs ∧ Val T H v d ∧ (∀ p, pthOf d = some p → p.length < 900) ∧ Says ms cs way v (pthOf d) H Q
def spAsk5 (C : Addr) : Sp := fun vs H Q _ => ∃ (s f v : V) (way : Nat) (ms tw : Msgs) (cs ks : Cho) (d : PyData) (T : Addr → Prop), vs = [s, f, .int (way : Nat), v] ∧ way < 3 ∧ IsS C H s tw ks ∧ Sch tw ∧ KsOk ks ∧ ForIs H f ms cs ∧ Sch ms ∧ KsOk cs ∧ SameS ms tw cs ks ∧ (∀ D, TD ms cs (pthOf d) way D → DOk D) ∧ Val T H v d ∧ (∀ p, pthOf d = some p → p.length < 900) ∧ ∀ H2, Kp T0 H H2 → Q (.bl true) H2
/-- a list of texts, of paths, a kind, as data -/
theorem dd_strs {T : Addr → Prop} {H : Hp} : ∀ ys : List Str, Dds T H (ys.map V.str) (ys.map PyData.str)
  | [] => .nil
  | x :: ys => .cons (.sc (.str x)) (dd_strs ys)
theorem dd_p {H : Hp} {v : V} {p : Pth} (h : IsP H v p) : Dd T0 H v (dP p) := by
  obtain ⟨a, rfl, ha⟩ := h
  exact .tup id ha (dd_strs p)
theorem dds_ps {H : Hp} : ∀ {ys : List V} {ps : List Pth}, Ps H ys ps → Dds T0 H ys (ps.map dP)
  | _, _, .nil => .nil
  | _, _, .cons r t => .cons (dd_p r) (dds_ps t)
end Gk
/-! Gk58: schemas of the same messages, rows put in order, tell the same. -/
namespace Gk
open PySem PySem.Spec PyProof.Rows L2
theorem perm_lookup {α : Type} {fs gs : List (Str × α)} (p : fs.Perm gs) (nd : (gs.map (·.1)).Nodup) (n : Str) : fs.lookup n = gs.lookup n := by
  have nf : (fs.map (·.1)).Nodup := (p.map (·.1)).nodup_iff.mpr nd
  cases e : gs.lookup n with
  | some f =>
    have m := lookup_mem e
    exact lookup_of nf (p.mem_iff.mpr m)
  | none =>
    cases e2 : fs.lookup n with
    | none => rfl
    | some f =>
      have m := p.mem_iff.mp (lookup_mem e2)
      rw [lookup_of nd m] at e
      cases e
/-- the same messages, in another order -/
def permB (ms tw : Msgs) : Bool := (tw.all fun m => m.2.isPerm (fldsOf ms m.1)) && (ms.all fun m => (tw.lookup m.1).isSome)
theorem flds_perm {ms tw : Msgs} (h : permB ms tw = true) (x : Str) : (fldsOf tw x).Perm (fldsOf ms x) := by
  unfold permB at h
  rw [Bool.and_eq_true] at h
  cases e : tw.lookup x with
  | some f =>
    have ef : fldsOf tw x = f := by
      unfold fldsOf
      rw [e]
      rfl
    rw [ef]
    exact List.isPerm_iff.mp (List.all_eq_true.mp h.1 _ (lookup_mem e))
  | none =>
    have e1 : fldsOf tw x = [] := by
      unfold fldsOf
      rw [e]
      rfl
    have e2 : fldsOf ms x = [] := by
      unfold fldsOf
      cases e3 : ms.lookup x with
      | none => rfl
      | some f =>
        have z := List.all_eq_true.mp h.2 _ (lookup_mem e3)
        rw [e] at z
        cases z
    rw [e1, e2]
theorem flds_nodup {ms : Msgs} (S : Sch ms) (x : Str) : ((fldsOf ms x).map (·.1)).Nodup := by
  unfold fldsOf
  cases e : ms.lookup x with
  | none => exact .nil
  | some f => exact (S.mok.2.2 _ (lookup_mem e)).2.2.1
theorem step_same {ms tw : Msgs} (S : Sch ms) (h : permB ms tw = true) (k : Gk.Kind) (n : Str) : stepP tw k n = stepP ms k n := by
  match k with
  | [] => rfl
  | [x] => rfl
  | m :: x :: r =>
    simp only [stepP, perm_lookup (flds_perm h x) (flds_nodup S x) n]
theorem walk_same {ms tw : Msgs} (S : Sch ms) (h : permB ms tw = true) : ∀ (p : Pth) (k : Gk.Kind), walkP tw k p = walkP ms k p
  | [], _ => rfl
  | n :: p, k => by
    show (match stepP tw k n with
      | some k2 => walkP tw k2 p
      | none => none) = (match stepP ms k n with
      | some k2 => walkP ms k2 p
      | none => none)
    rw [step_same S h]
    cases stepP ms k n with
    | none => rfl
    | some k2 => exact walk_same S h p k2
theorem kind_same {ms tw : Msgs} (S : Sch ms) (h : permB ms tw = true) (p : Pth) : kindAt tw p = kindAt ms p := by
  unfold kindAt
  rw [walk_same S h]
theorem msg_same {ms tw : Msgs} (S : Sch ms) (h : permB ms tw = true) : ∀ o, msgAt tw o = msgAt ms o
  | none => rfl
  | some [] => rfl
  | some (x :: p) => by
    show (kindAt tw (x :: p)).bind msgOf = (kindAt ms (x :: p)).bind msgOf
    rw [kind_same S h]
/-! ### rows that are kept -/
theorem rows_paired {R : Str × List Pth → Str × List Pth → Prop} (hn : ∀ c k, R c k → k.1 = c.1) (hp : ∀ c k, R c k → k.2.Perm c.2) : ∀ {cs ks : Cho}, Paired R cs ks → ∀ n, (rowsOf ks n).Perm (rowsOf cs n)
  | _, _, .nil, _ => .refl _
  | c :: cs, k :: ks, .cons a r, n => by
    have e := hn _ _ a
    unfold rowsOf
    obtain ⟨cn, cr⟩ := c
    obtain ⟨kn, kr⟩ := k
    have e : kn = cn := e
    subst e
    rw [List.lookup_cons, List.lookup_cons]
    by_cases c2 : n = kn
    · subst c2
      simp only [beq_self_eq_true]
      exact hp _ _ a
    · have b : (n == kn) = false := by simp [c2]
      simp only [b]
      exact rows_paired hn hp r n
theorem rows_filter : ∀ {cs : Cho}, (cs.map (·.1)).Nodup → ∀ n, rowsOf (cs.filter fun c => decide (0 < c.2.length)) n = rowsOf cs n
  | [], _, _ => rfl
  | (x, rows) :: cs, nd, n => by
    rw [List.map_cons, List.nodup_cons] at nd
    have ih := rows_filter nd.2 n
    unfold rowsOf at ih ⊢
    rw [List.filter_cons]
    by_cases c : 0 < rows.length
    · rw [decide_eq_true c, if_pos rfl, List.lookup_cons, List.lookup_cons]
      cases n == x with
      | true => rfl
      | false => exact ih
    · rw [decide_eq_false c, if_neg Bool.false_ne_true, List.lookup_cons]
      by_cases c2 : n = x
      · subst c2
        rw [ih, lookup_none nd.1, beq_self_eq_true]
        have e : rows = [] := List.length_eq_zero_iff.mp (by omega)
        rw [e]
        rfl
      · have b : (n == x) = false := by simp [c2]
        rw [b]
        exact ih
theorem kept_rows {cs ks : Cho} (h : KeptOf cs ks) (nd : (cs.map (·.1)).Nodup) (n : Str) : (rowsOf ks n).Perm (rowsOf cs n) := by
  rw [← rows_filter nd n]
  exact rows_paired (fun _ _ a => a.1) (fun _ _ a => a.2.1) h n
theorem chos_nodup {ms : Msgs} {cs : Cho} (h : chosP ms cs = true) (n : Str) : (rowsOf cs n).flatten.Nodup := by
  unfold rowsOf
  cases e : cs.lookup n with
  | none => exact .nil
  | some rows =>
    unfold chosP at h
    rw [Bool.and_eq_true] at h
    have z := List.all_eq_true.mp h.2 _ (lookup_mem e)
    unfold rowsP at z
    rw [Bool.and_eq_true] at z
    exact of_decide_eq_true z.2
theorem ks_mem {cs ks : Cho} (h : KeptOf cs ks) : ∀ k ∈ ks, ∃ c ∈ cs, k.2.Perm c.2 := by
  have go : ∀ {fl ks : Cho}, Paired (fun (c k : Str × List Pth) => k.1 = c.1 ∧ k.2.Perm c.2 ∧ k.2.Pairwise (fun a b => ltP b a = false)) fl ks → ∀ k ∈ ks, ∃ c ∈ fl, k.2.Perm c.2 := by
    intro fl ks p
    induction p with
    | nil => exact fun k m => nomatch m
    | cons a _ ih =>
      intro k m
      rcases List.mem_cons.mp m with rfl | m
      · exact ⟨_, List.mem_cons_self, a.2.1⟩
      · obtain ⟨c, mc, p⟩ := ih k m
        exact ⟨c, List.mem_cons_of_mem _ mc, p⟩
  intro k m
  obtain ⟨c, mc, p⟩ := go h k m
  exact ⟨c, (List.mem_filter.mp mc).1, p⟩
theorem cho_ks {cs : Cho} (h : ChoOk cs) : KsOk cs := fun c m => ⟨(h.2.2 c m).2.1, (h.2.2 c m).2.2⟩
theorem kept_ks {cs ks : Cho} (h : ChoOk cs) (k : KeptOf cs ks) : KsOk ks := fun c m => by
  obtain ⟨c2, m2, p⟩ := ks_mem k c m
  obtain ⟨_, l, r⟩ := h.2.2 c2 m2
  exact ⟨by rw [p.length_eq]; exact l, fun q mq => r q (p.mem_iff.mp mq)⟩
theorem same_of {ms tw : Msgs} {cs ks : Cho} (S : Sch ms) (h : permB ms tw = true) (co : ChoOk cs) (ch : chosP ms cs = true) (k : KeptOf cs ks) : SameS ms tw cs ks where
  kind := kind_same S h
  msg := msg_same S h
  names := fun x => (flds_perm h x).map _
  mates := fun nm q l => by
    cases nm with
    | none => rfl
    | some n => exact mates_perm (kept_rows k co.2.1 n) (chos_nodup ch n) q l
/-! ### what is told is short -/
theorem kind_txt {k : Gk.Kind} (h : kindP k = true) : k.length ≤ 2 ∧ ∀ x ∈ k, txtOk x = true := by
  have sc : ∀ x, scalarS x = true → txtOk x = true := fun x h => by
    unfold scalarS at h
    simp only [Bool.or_eq_true] at h
    rcases h with h | h | h
    · rw [of_decide_eq_true h]
      decide
    · rw [of_decide_eq_true h]
      decide
    · rw [of_decide_eq_true h]
      decide
  match k, h with
  | [x], h =>
    refine ⟨by show 1 ≤ 2; decide, fun y m => ?_⟩
    rw [List.mem_singleton.mp m]
    exact sc x h
  | [m, x], h =>
    refine ⟨Nat.le_refl 2, fun y my => ?_⟩
    have h : ((decide (m = "map") && scalarS x) || (decide (m = "message") && isNm x)) = true := h
    simp only [Bool.or_eq_true, Bool.and_eq_true] at h
    rcases h with ⟨h1, h2⟩ | ⟨h1, h2⟩
    · rcases List.mem_cons.mp my with e | my
      · rw [e, of_decide_eq_true h1]
        decide
      · rw [List.mem_singleton.mp my]
        exact sc x h2
    · rcases List.mem_cons.mp my with e | my
      · rw [e, of_decide_eq_true h1]
        decide
      · rw [List.mem_singleton.mp my]
        exact txt_nm h2
theorem strs_ok {ys : List Str} (h : ∀ x ∈ ys, txtOk x = true) : ∀ d ∈ ys.map PyData.str, itemOk d = true := fun d m => by
  obtain ⟨x, mx, rfl⟩ := List.mem_map.mp m
  exact h x mx
theorem paths_ok {ps : List Pth} (few : ps.length ≤ 64) (h : ∀ p ∈ ps, p.length ≤ 30 ∧ ∀ x ∈ p, txtOk x = true) : DOk (.list (ps.map dP)) := by
  have each : ∀ p ∈ ps, DOk (dP p) ∧ (dP p).shown.length ≤ 30123 := fun p m => by
    obtain ⟨l, t⟩ := h p m
    have o := tup_ok (strs_ok t) (by rw [List.length_map]; exact l)
    refine ⟨o, ?_⟩
    obtain ⟨_, _, c, e⟩ := items_shown (strs_ok t)
    have z := tupleText_le c
    rw [e, List.length_map] at z
    show (PyData.tuple (p.map PyData.str)).shown.length ≤ _
    rw [PyData.shown]
    have : p.length * (1002 + 2) ≤ 30 * 1004 := Nat.mul_le_mul_right _ l
    omega
  have sw : ∀ ps : List Pth, (∀ p ∈ ps, DOk (dP p) ∧ (dP p).shown.length ≤ 30123) → PyData.showableAll (ps.map dP) = true ∧ PyData.depthAll (ps.map dP) ≤ 49 ∧ ∀ t ∈ PyData.shownAll (ps.map dP), t.length ≤ 30123 := by
    intro ps
    induction ps with
    | nil => exact fun _ => ⟨rfl, by decide, fun _ m => nomatch m⟩
    | cons p ps ih =>
      intro h
      obtain ⟨a, b⟩ := h p List.mem_cons_self
      obtain ⟨c, d, e⟩ := ih fun q m => h q (List.mem_cons_of_mem _ m)
      refine ⟨by rw [List.map_cons, PyData.showableAll, a.sw, c]; rfl, ?_, fun t m => ?_⟩
      · rw [List.map_cons, PyData.depthAll]
        have d1 := depth_dP p
        omega
      · rw [List.map_cons, PyData.shownAll] at m
        rcases List.mem_cons.mp m with rfl | m
        · exact b
        · exact e t m
  obtain ⟨a, b, c⟩ := sw ps each
  refine ⟨a, by rw [PyData.depth]; omega, ?_⟩
  rw [PyData.shown]
  have z := listText_le c
  have l : (PyData.shownAll (ps.map dP)).length = ps.length := by
    have go : ∀ ds : List PyData, (PyData.shownAll ds).length = ds.length := by
      intro ds
      induction ds with
      | nil => rfl
      | cons d ds ih => rw [PyData.shownAll, List.length_cons, List.length_cons, ih]
    rw [go, List.length_map]
  rw [l] at z
  have : ps.length * (30123 + 2) ≤ 64 * 30125 := Nat.mul_le_mul_right _ few
  omega
theorem mates_txt {ms : Msgs} {cs : Cho} (ch : chosP ms cs = true) {nm : Option Str} {q : Pth} {l : Str} : ∀ p ∈ matesOf (mateRows cs nm) q l, ∃ f, p = q ++ [f] ∧ isNm f = true := by
  intro p m
  unfold matesOf at m
  obtain ⟨c, mc, mp⟩ := List.mem_flatMap.mp m
  obtain ⟨f, mf, rfl⟩ := List.mem_map.mp mp
  refine ⟨f, rfl, ?_⟩
  have mf := (List.mem_filter.mp mf).1
  have mc := (List.mem_filter.mp mc).1
  cases nm with
  | none => cases mc
  | some n =>
    have mc : c ∈ (cs.lookup n).getD [] := mc
    cases e : cs.lookup n with
    | none =>
      rw [e] at mc
      cases mc
    | some rows =>
      rw [e] at mc
      unfold chosP at ch
      rw [Bool.and_eq_true] at ch
      have z := List.all_eq_true.mp ch.2 _ (lookup_mem e)
      unfold rowsP at z
      rw [Bool.and_eq_true] at z
      have z2 := List.all_eq_true.mp z.1 c mc
      unfold choiceP at z2
      simp only [Bool.and_eq_true] at z2
      have z3 := List.all_eq_true.mp z2.2.1 f mf
      rw [Bool.and_eq_true] at z3
      exact z3.1
end Gk
/-! Gk59: lists that hold the very same; values of a law, in a list. -/
namespace Gk
open PySem PySem.Spec PyProof.Rows L2 PySem.SeqAt
/-- [x, v] != [x, v], v the very same -/
def rNeId : R2 := fun x y H Q => ∃ (a b : Addr) (s : Str) (r : Addr), x = .ref a ∧ y = .ref b ∧ H a = some (.lst [.str s, .ref r]) ∧ H b = some (.lst [.str s, .ref r]) ∧ Q (.bl false) H
theorem op_neId {X : Cx} (hu : X.A.units < cLine) : OpR X (compareOp .NotEq) rNeId := by
  intro pins s st H x y v u Q I rx ry h
  obtain ⟨a, b, sx, r, rfl, rfl, ha, hb, q⟩ := h
  cases rx
  cases ry
  obtain ⟨its, rv, hl, _⟩ := I.list (SqL.of (K := X.K) ha)
  obtain ⟨its2, rv2, hl2, _⟩ := I.list (SqL.of (K := X.K) hb)
  obtain ⟨u1, u2, rfl, r1, r2⟩ := vals2 rv
  obtain ⟨w1, w2, rfl, e1, e2⟩ := vals2 rv2
  obtain ⟨t1, rfl⟩ := r1
  obtain ⟨t2, rfl⟩ := e1
  cases r2
  cases e2
  refine RcNeAt.lists (e := fun _ => true) hl.isList hl2.isList rfl hu (fun j j1 j2 => ?_) _ _ _ _ ⟨.bl false, H, I, rfl, q⟩
  match j, j1 with
  | 0, _ =>
    have e : EqAt X.A.in1 s (Value.str sx t1) (Value.str sx t2) (sx == sx) := EqAt.str_str sx t1 sx t2
    rw [beq_self_eq_true] at e
    exact e
  | 1, _ => exact EqAt.same _
  | n + 2, j1 => exact absurd j1 (by simp)
/-! ### values -/
def nameOk (x : Str) : Bool := txtOk x && (decide (x.length < 1000) && PyData.strOk x)
theorem nameOk_nm {x : Str} (h : isNm x = true) : nameOk x = true := by
  have t := txt_nm h
  have o := (isNm_ok h).1
  unfold txtOk at t
  unfold nameOk
  rw [txt_nm h, o]
  rw [Bool.and_eq_true] at t
  have := of_decide_eq_true t.1
  rw [decide_eq_true (by omega : x.length < 1000)]
  rfl
def itemOk2 : PyData → Bool
  | .str x => nameOk x
  | .int i => decide (i.natAbs < 1000)
  | .none => true
  | _ => false
theorem item2 : ∀ {d : PyData}, itemOk2 d = true → itemOk d = true ∧ (match d with
    | .str x => decide (x.length < 1000) && PyData.strOk x
    | _ => true) = true
  | .str x, h => by
    have h : (txtOk x && (decide (x.length < 1000) && PyData.strOk x)) = true := h
    rw [Bool.and_eq_true] at h
    exact h
  | .int i, h => ⟨h, rfl⟩
  | .none, _ => ⟨rfl, rfl⟩
/-- a value of the law -/
def VS (t : Addr) (H : Hp) (v : V) : Prop := ∃ d, Val (At t) H v d ∧ ∀ p, pthOf d = some p → p.length ≤ 20
theorem VS.keep {t : Addr} {H H2 : Hp} {v : V} (h : VS t H v) (k : Kp (At t) H H2) : VS t H2 v := by
  obtain ⟨d, a, b⟩ := h
  exact ⟨d, a.keep k, b⟩
theorem tape_tup {H : Hp} {t a : Addr} {xs : List V} (h : TapeAt H t) (e : H a = some (.tup xs)) : ¬ At t a := fun z => (h.loose a _ z e).1 _ rfl
theorem vs_tup {t : Addr} {H : Hp} {a : Addr} {vs : List V} {ds : List PyData} (ta : TapeAt H t) (e : H a = some (.tup vs)) (r : Dds (At t) H vs ds) (ok : ∀ d ∈ ds, itemOk2 d = true) (l : ds.length ≤ 20) : VS t H (.ref a) := by
  refine ⟨.tuple ds, ⟨.tup (tape_tup ta e) e r, tup_ok (fun d m => (item2 (ok d m)).1) (by omega), ?_⟩, fun p h => ?_⟩
  · show (decide (ds.length ≤ 1000) && ds.all fun d => match d with
      | .str x => decide (x.length < 1000) && PyData.strOk x
      | _ => true) = true
    rw [decide_eq_true (by omega : ds.length ≤ 1000), Bool.true_and]
    exact List.all_eq_true.mpr fun d m => (item2 (ok d m)).2
  · obtain ⟨e1, _⟩ := namesOf_some (show namesOf ds = some p from h)
    rw [e1, List.length_map] at l
    exact l
theorem vs_lst {t : Addr} {H : Hp} {a : Addr} {vs : List V} {ds : List PyData} (ta : TapeAt H t) (e : H a = some (.lst vs)) (r : Dds (At t) H vs ds) (ok : ∀ d ∈ ds, itemOk2 d = true) (l : ds.length ≤ 20) : VS t H (.ref a) :=
  ⟨.list ds, ⟨.lst (tape_ne ta e) e r, lst_ok (fun d m => (item2 (ok d m)).1) (by omega), rfl⟩, fun p h => nomatch h⟩
theorem strs_ok2 {ys : List Str} (h : ∀ x ∈ ys, nameOk x = true) : ∀ d ∈ ys.map PyData.str, itemOk2 d = true := fun d m => by
  obtain ⟨x, mx, rfl⟩ := List.mem_map.mp m
  exact h x mx
theorem vs_path {t : Addr} {H : Hp} {v : V} {p : Pth} (ta : TapeAt H t) (i : IsP H v p) (ok : ∀ x ∈ p, nameOk x = true) (l : p.length ≤ 20) : VS t H v := by
  obtain ⟨a, rfl, e⟩ := i
  exact vs_tup ta e (dd_strs p) (strs_ok2 ok) (by rw [List.length_map]; exact l)
theorem vs_sc {t : Addr} {H : Hp} {v : V} {d : PyData} (s : Sc v d) (o : okB d = true) (n : pthOf d = none) : VS t H v := ⟨d, val_of (.sc s) o, fun p h => by rw [n] at h; cases h⟩
end Gk
/-! Gk62: values as a law draws them; a key put into data. -/
namespace Gk
open PySem PySem.Spec PyProof.Rows L2
theorem ddk_put {T : Addr → Prop} {H : Hp} {k : L2.Key} {u : V} {d : PyData} (hu : Dd T H u d) : ∀ {kvs : List (L2.Key × V)} {ds : List (PyData × PyData)}, DdK T H kvs ds → ∃ ds2, DdK T H (putK kvs k u) ds2 ∧ (∀ e ∈ ds2, e ∈ ds ∨ e = (dKey k, d)) ∧ ds2.length ≤ ds.length + 1 := by
  have mapped : ∀ {kvs : List (L2.Key × V)} {ds : List (PyData × PyData)}, DdK T H kvs ds → ∃ ds2, DdK T H (kvs.map fun kv => if kv.1 = k then (kv.1, u) else kv) ds2 ∧ (∀ e ∈ ds2, e ∈ ds ∨ e = (dKey k, d)) ∧ ds2.length = ds.length := by
    intro kvs ds h
    induction kvs generalizing ds with
    | nil =>
      cases h
      exact ⟨[], .nil, (fun _ m => nomatch m), rfl⟩
    | cons kv kvs ih =>
      match kv, h with
      | (k0, v0), .cons (d := d0) (ds := ds0) h0 r =>
        obtain ⟨ds2, a, b, c⟩ := ih r
        by_cases e : k0 = k
        · refine ⟨(dKey k0, d) :: ds2, ?_, fun x m => ?_, by rw [List.length_cons, List.length_cons, c]⟩
          · rw [List.map_cons, if_pos e]
            exact .cons hu a
          · rcases List.mem_cons.mp m with m | m
            · exact .inr (by rw [m, e])
            · exact (b x m).imp (List.mem_cons_of_mem _) id
        · refine ⟨(dKey k0, d0) :: ds2, ?_, fun x m => ?_, by rw [List.length_cons, List.length_cons, c]⟩
          · rw [List.map_cons, if_neg e]
            exact .cons h0 a
          · rcases List.mem_cons.mp m with m | m
            · exact .inl (by rw [m]; exact List.mem_cons_self)
            · exact (b x m).imp (List.mem_cons_of_mem _) id
  have snoc : ∀ {kvs : List (L2.Key × V)} {ds : List (PyData × PyData)}, DdK T H kvs ds → DdK T H (kvs ++ [(k, u)]) (ds ++ [(dKey k, d)]) := by
    intro kvs ds h
    induction kvs generalizing ds with
    | nil =>
      cases h
      exact .cons hu .nil
    | cons kv kvs ih =>
      match kv, h with
      | (k0, v0), .cons h0 r => exact .cons h0 (ih r)
  intro kvs ds h
  unfold putK
  by_cases e : (kvs.any fun kv => decide (kv.1 = k)) = true
  · rw [if_pos e]
    obtain ⟨ds2, a, b, c⟩ := mapped h
    exact ⟨ds2, a, b, by omega⟩
  · rw [if_neg e]
    refine ⟨_, snoc h, fun x m => ?_, by rw [List.length_append]; exact Nat.le_refl _⟩
    rcases List.mem_append.mp m with m | m
    · exact .inl m
    · exact .inr (List.mem_singleton.mp m)
/-! ### drawn values -/
def leaves : List PyData := [.str "", .str "a", .str "b", .int 0, .int 1, .int 7, .bool true, .bool false]
def DrawnD : Nat → PyData → Prop
  | 0, _ => False
  | m + 1, d => d ∈ leaves ∨ ∃ ds, d = .dict ds ∧ ds.length ≤ 6 ∧ ∀ e ∈ ds, (∃ n, e.1 = .str n ∧ isNm n = true) ∧ DrawnD m e.2
def SZ : Nat → Nat
  | 0 => 0
  | m + 1 => 6 * (SZ m + 86) + 20
def leafOk (d : PyData) : Bool := wfD d && (decide (d.depth = 0) && (d.showable && decide (d.shown.length ≤ 20)))
theorem leaves_ok : leaves.all leafOk = true := by decide +kernel
theorem nm_shown {x : Str} (h : isNm x = true) : (reprText x).length ≤ 82 := by
  have t := txt_nm h
  unfold txtOk at t
  rw [Bool.and_eq_true] at t
  have h2 := PySem.StrLaws.reprText_len x fun c m => of_decide_eq_true (List.all_eq_true.mp t.2 c m)
  unfold isNm isLet at h
  simp only [Bool.and_eq_true] at h
  have := of_decide_eq_true h.1.2
  omega
theorem dictText_le {ts : List Str} {m : Nat} (h : ∀ t ∈ ts, t.length ≤ m) : (dictText ts).length ≤ 2 + ts.length * (m + 2) := by
  have j := join_le h
  unfold dictText
  rw [strLen_append, strLen_append]
  have a : (PySem.Str.ofString "{").length = 1 := rfl
  have b : (PySem.Str.ofString "}").length = 1 := rfl
  omega
/-- a key that is shown short -/
structure KeyG (k : PyData) : Prop where
  ln : ∀ x : Str, k = .str x → x.length < 1000
  dp : k.depth = 0
  sh : k.showable = true
  sz : k.shown.length ≤ 82
theorem key_nm {n : Str} (l : n.length < 1000) (z : (reprText n).length ≤ 82) : KeyG (.str n) := ⟨fun x e => by cases e; exact l, rfl, rfl, z⟩
/-- entries that are all fine -/
theorem ents_ok {m s : Nat} : ∀ {ds : List (PyData × PyData)}, (∀ e ∈ ds, KeyG e.1 ∧ (wfD e.2 = true ∧ e.2.depth ≤ m ∧ e.2.showable = true ∧ e.2.shown.length ≤ s)) →
    wfE ds = true ∧ PyData.depthKv ds ≤ m ∧ PyData.showableKv ds = true ∧ (∀ t ∈ PyData.shownKv ds, t.length ≤ s + 84) ∧ (PyData.shownKv ds).length = ds.length
  | [], _ => ⟨rfl, Nat.zero_le _, rfl, (fun _ m => nomatch m), rfl⟩
  | (k, d) :: r, h => by
    obtain ⟨kg, w, p, sh, sz⟩ := h (k, d) List.mem_cons_self
    obtain ⟨a, b, c, t, len⟩ := ents_ok fun e m => h e (List.mem_cons_of_mem _ m)
    refine ⟨?_, ?_, ?_, fun x mx => ?_, ?_⟩
    · unfold wfE
      rw [a, w, Bool.and_true, Bool.and_true]
      cases k with
      | str n => exact decide_eq_true (kg.ln n rfl)
      | _ => rfl
    · rw [PyData.depthKv]
      have := kg.dp
      have p : d.depth ≤ m := p
      have kd : k.depth = 0 := kg.dp
      omega
    · rw [PyData.showableKv]
      have ks : k.showable = true := kg.sh
      rw [ks, sh, c]
      rfl
    · rw [PyData.shownKv] at mx
      rcases List.mem_cons.mp mx with rfl | mx
      · rw [strLen_append, strLen_append]
        have e1 : k.shown.length ≤ 82 := kg.sz
        have e2 : (PySem.Str.ofString ": ").length = 2 := rfl
        have sz : d.shown.length ≤ s := sz
        omega
      · exact t x mx
    · rw [PyData.shownKv, List.length_cons, List.length_cons, len]
theorem dict_ok {m s c : Nat} {ds : List (PyData × PyData)} (few : ds.length ≤ c) (hc : c < 1000) (h : ∀ e ∈ ds, KeyG e.1 ∧ (wfD e.2 = true ∧ e.2.depth ≤ m ∧ e.2.showable = true ∧ e.2.shown.length ≤ s)) :
    wfD (.dict ds) = true ∧ (PyData.dict ds).depth ≤ m + 1 ∧ (PyData.dict ds).showable = true ∧ (PyData.dict ds).shown.length ≤ 2 + c * (s + 86) := by
  obtain ⟨a, b, sh, t, len⟩ := ents_ok h
  refine ⟨?_, ?_, ?_, ?_⟩
  · unfold wfD
    rw [decide_eq_true (by omega : ds.length < 1000), a]
    rfl
  · rw [PyData.depth]
    omega
  · rw [PyData.showable]
    exact sh
  · rw [PyData.shown]
    have z := dictText_le t
    rw [len] at z
    have : ds.length * (s + 84 + 2) ≤ c * (s + 86) := Nat.mul_le_mul_right _ few
    omega
theorem drawnD_ok : ∀ (m : Nat) {d : PyData}, DrawnD m d → wfD d = true ∧ d.depth ≤ m ∧ d.showable = true ∧ d.shown.length ≤ SZ m
  | 0, _, h => h.elim
  | m + 1, d, h => by
    rcases h with h | ⟨ds, rfl, few, each⟩
    · have z := List.all_eq_true.mp leaves_ok d h
      unfold leafOk at z
      simp only [Bool.and_eq_true, decide_eq_true_eq] at z
      refine ⟨z.1, by omega, z.2.2.1, Nat.le_trans z.2.2.2 ?_⟩
      show 20 ≤ 6 * (SZ m + 86) + 20
      omega
    · obtain ⟨a, b, c, s⟩ := dict_ok (m := m) (s := SZ m) few (by decide) fun e me => by
        obtain ⟨⟨n, e1, nm⟩, dr⟩ := each e me
        have l8 : n.length < 1000 := by
          unfold isNm isLet at nm
          simp only [Bool.and_eq_true] at nm
          have := of_decide_eq_true nm.1.2
          omega
        exact ⟨by rw [e1]; exact key_nm l8 (nm_shown nm), drawnD_ok m dr⟩
      refine ⟨a, b, c, Nat.le_trans s ?_⟩
      show 2 + 6 * (SZ m + 86) ≤ 6 * (SZ m + 86) + 20
      omega
end Gk
/-! Gk63: lists and []. -/
namespace Gk
open PySem PySem.Spec PyProof.Rows L2 PySem.SeqAt
def rEqL0 : R2 := fun x y H Q => ∃ a b xs, x = .ref a ∧ y = .ref b ∧ H a = some (.lst xs) ∧ H b = some (.lst []) ∧ Q (.bl xs.isEmpty) H
def rNeL0 : R2 := fun x y H Q => ∃ a b xs, x = .ref a ∧ y = .ref b ∧ H a = some (.lst xs) ∧ H b = some (.lst []) ∧ Q (.bl (!xs.isEmpty)) H
section
variable {X : Cx}
theorem op_eqL0 (hu : X.A.units < cLine) : OpR X (compareOp .Eq) rEqL0 := by
  intro pins s st H x y v u Q I rx ry h
  obtain ⟨a, b, xs, rfl, rfl, ha, hb, q⟩ := h
  cases rx
  cases ry
  obtain ⟨its, rv, hl, _⟩ := I.list (SqL.of (K := X.K) ha)
  obtain ⟨its2, rv2, hl2, _⟩ := I.list (SqL.of (K := X.K) hb)
  cases rv2
  cases xs with
  | nil =>
    cases rv
    exact RcAt.lists (e := fun _ => true) hl.isList hl2.isList rfl hu (fun j j1 j2 => absurd j2 (Nat.not_lt_zero j)) _ _ _ _ ⟨.bl true, H, I, rfl, q⟩
  | cons x xs =>
    cases rv
    exact RcAt.lists_lengths hl.isList hl2.isList (by simp) hu _ _ _ _ ⟨.bl false, H, I, rfl, q⟩
theorem op_neL0 (hu : X.A.units < cLine) : OpR X (compareOp .NotEq) rNeL0 := by
  intro pins s st H x y v u Q I rx ry h
  obtain ⟨a, b, xs, rfl, rfl, ha, hb, q⟩ := h
  cases rx
  cases ry
  obtain ⟨its, rv, hl, _⟩ := I.list (SqL.of (K := X.K) ha)
  obtain ⟨its2, rv2, hl2, _⟩ := I.list (SqL.of (K := X.K) hb)
  cases rv2
  cases xs with
  | nil =>
    cases rv
    exact RcNeAt.lists (e := fun _ => true) hl.isList hl2.isList rfl hu (fun j j1 j2 => absurd j2 (Nat.not_lt_zero j)) _ _ _ _ ⟨.bl false, H, I, rfl, q⟩
  | cons x xs =>
    cases rv
    exact RcNeAt.lists_lengths hl.isList hl2.isList (by simp) hu _ _ _ _ ⟨.bl true, H, I, rfl, q⟩
end
end Gk
namespace Lw
open PySem L2 Gk
abbrev sTape : Stmt := topS 36
abbrev sPick : Stmt := topS 37
abbrev sOneOf : Stmt := topS 38
structure TxtT (mg : Str → Option Value) : Prop where
  z_int : mg "int" = none
  z_len : mg "len" = none
  z_range : mg "range" = none
  z_tuple : mg "tuple" = none
theorem boot_int : bootBuiltins "int" = some (.type "int") := by decide +kernel
theorem boot_tuple6 : bootBuiltins "tuple" = some (.type "tuple") := by decide +kernel
section
variable {P : Program} {w : World} {K : PySem.W.Frag} {mg : Str → Option Value} {base : Heap}
theorem scTape : FnScope ["script", "start", "mixed", "cell", "digits"] ["script", "start"] (defScope sTape) := ⟨rfl, rfl, rfl, by decide +kernel, rfl, by decide +kernel, by decide +kernel⟩
theorem ok_tape {f : Addr} {fd : FuncData} (F : Fun K "_law_tape" "_law_tape" sTape f fd) (T : TxtT mg) : FnOk P w K mg base CX0 1 f fd ["script", "start"] (spTape K) := by
  refine F.ok scTape (fun vs H Q E h => ?_) (fun cdv A outer s H vs Q E hr h => ?_)
  · obtain ⟨a, ns, st, rfl, _⟩ := h
    rfl
  · obtain ⟨a, ns, st, rfl, hs, ln, hb, s0, s1, k⟩ := h
    refine ⟨_, pss_cons (ps_set (i := 2) scTape.nd rfl (Or.inl rfl) (pe_op op_add pe_int (pe_op op_mul (pv 1) pe_int)))
      (pss_cons (ps_for PassesOwn.never rfl (pi_list (pv 0)) (pg_name (i := 3) scTape.nd rfl (Or.inl rfl))
        (pss_one (ps_set (i := 2) scTape.nd rfl (Or.inl rfl) (pe_op op_add (pe_op op_mod (pe_callTy call_int1 (by rfl) T.z_int boot_int (pa_cons
          (pe_op op_powB (pe_op op_add (pe_op op_add (pe_op op_mul (pv 2) pe_int) (pe_op op_mulB (pv 3) (pv 3))) pe_int) pe_int) pa_nil)) pe_int) pe_int))))
      (pss_cons (ps_set (i := 4) scTape.nd rfl (Or.inl rfl) (pe_ifExp (PW.pt (pw_and (pt_cmpR op_lt (pv 1) (pe_callB call_len (by rfl) T.z_len PySem.boot_len (pa_cons (pv 0) pa_nil)) (nomark _))
          (pw_and1 (pt_cmpR op_ge (pe_ix ix_list (pv 0) (pv 1) (fun _ _ => rfl)) (pe_op op_pow pe_int pe_int) (nomark _)))))
          (pe_op op_sub (pe_ix ix_list (pv 0) (pv 1) (fun _ _ => rfl)) (pe_op op_pow pe_int pe_int)) pe_int))
      (pss_one (ps_ret (pe_disp (pps_cons pe_str (pv 4) (pps_cons pe_str (pv 2) pps_nil)) (by rfl) (by rfl) (fun z => by cases z) (by decide)))))), ?_⟩
    have small : ∀ x : Int, 0 ≤ x → x < 4294967296 → CMul x 30011 := fun x h0 h1 => .inl ⟨by omega, by omega⟩
    refine ⟨_, rfl, _, _, rfl, rfl, .inl ⟨by omega, by omega⟩, _, _, rfl, rfl, ?_⟩
    refine ⟨_, rfl, a, rfl, ⟨_, hs⟩, for_list (K := K) (a := a) (xs := ns.map V.int) (fun _ σ H2 => H2 = H ∧ ∃ (m : Int) (c : Option V), σ = [some (.ref a), some (.int st), some (.int m), c, none] ∧ 0 ≤ m ∧ m < 4294967296)
      ⟨rfl, _, none, rfl, by omega, by omega⟩ (fun i σ H2 _ p => by rw [p.1]; exact hs) (fun i y σ H2 hi p => ?_) (fun σ H2 p => ?_)⟩
    · obtain ⟨rfl, m, c, rfl, m0, m1⟩ := p
      obtain ⟨z, hz, rfl⟩ : ∃ z, z ∈ ns ∧ y = V.int z := by
        rw [List.getElem?_map] at hi
        cases e : ns[i]? with
        | none => rw [e] at hi; cases hi
        | some z =>
          rw [e] at hi
          exact ⟨z, List.mem_of_getElem? e, (Option.some.inj hi).symm⟩
      have bz := hb z hz
      have bs := tape_step m0 m1 bz
      have cz : CMulB z z := by unfold CMulB; omega
      have cp : CPowB (m * 30011 + z * z + 7) 2 := ⟨by decide, by omega⟩
      refine ⟨_, rfl, _, _, rfl, rfl, small m m0 m1, _, rfl, _, rfl, _, _, rfl, rfl, cz, _, _, rfl, rfl, _, _, rfl, rfl, _, _, rfl, rfl, cp, .inl ⟨_, rfl, _, _, rfl, rfl, (by show (0 : Int) < 2147483563; decide), _, _, rfl, rfl, ?_⟩⟩
      refine ⟨rfl, _, _, rfl, ?_, ?_⟩
      · have := Int.emod_nonneg ((m * 30011 + z * z + 7) ^ (2 : Int).toNat) (show (2147483563 : Int) ≠ 0 by decide)
        omega
      · have := Int.emod_lt_of_pos ((m * 30011 + z * z + 7) ^ (2 : Int).toNat) (show (0 : Int) < 2147483563 by decide)
        omega
    · obtain ⟨rfl, m, c, rfl, m0, m1⟩ := p
      have fin : ∀ d : Int, TapeOk d m → ∀ p, H2 p = none → Q (.ref p) (upd (upd H2 p (.dK [])) p (.dK (mergeK [] [(kD, .int d), (kX, .int m)]))) := by
        intro d ok p hp
        rw [upd_upd, merge_tape]
        exact k p d m hp ok
      have zero : TapeOk 0 m := ⟨Int.le_refl _, by decide, m0, m1⟩
      have pow : CPow 10 18 := ⟨by decide, by decide, by decide⟩
      refine ⟨_, rfl, _, rfl, _, ns.length, rfl, .inl ⟨_, hs, by rw [List.length_map]⟩, _, _, rfl, rfl, _, rfl, ?_⟩
      by_cases c1 : st < (ns.length : Int)
      · rw [decide_eq_true c1]
        refine iteT ?_
        obtain ⟨z, hz⟩ : ∃ z, ns[st.toNat]? = some z := ⟨_, List.getElem?_eq_getElem (by omega)⟩
        have ha : atI (ns.map V.int) st = some (.int z) := by
          have e : st = (st.toNat : Int) := by omega
          rw [e]
          exact atI_nat (by rw [List.getElem?_map, hz]; rfl)
        have bz := hb z (List.mem_of_getElem? hz)
        refine ⟨_, rfl, _, rfl, a, _, _, _, rfl, rfl, hs, ha, _, _, rfl, rfl, pow, _, _, rfl, rfl, _, rfl, ?_⟩
        by_cases c2 : (10 : Int) ^ (18 : Int).toNat ≤ z
        · rw [decide_eq_true c2]
          refine iteT ?_
          refine ⟨_, rfl, _, rfl, a, _, _, _, rfl, rfl, hs, ha, _, _, rfl, rfl, pow, _, _, rfl, rfl, ?_⟩
          refine fun p hp => ⟨_, rfl, _, rfl, upd_same, [(kD, .int (z - 10 ^ (18 : Int).toNat)), (kX, .int m)], rfl, (by show 2 ≤ 15; decide), fin _ ⟨by omega, ?_, m0, m1⟩ p hp⟩
          refine Nat.le_trans (intBits_le_of_natAbs (y := z) ?_ bz) (by decide)
          have e : (10 : Int) ^ (18 : Int).toNat = 1000000000000000000 := by decide
          rw [e] at c2 ⊢
          omega
        · rw [decide_eq_false c2]
          refine iteF ?_
          exact fun p hp => ⟨_, rfl, _, rfl, upd_same, [(kD, .int 0), (kX, .int m)], rfl, (by show 2 ≤ 15; decide), fin _ zero p hp⟩
      · rw [decide_eq_false c1]
        refine iteF ?_
        refine iteF ?_
        exact fun p hp => ⟨_, rfl, _, rfl, upd_same, [(kD, .int 0), (kX, .int m)], rfl, (by show 2 ≤ 15; decide), fin _ zero p hp⟩
theorem scPick : FnScope ["tape", "many", "found", "once"] ["tape", "many"] (defScope sPick) := ⟨rfl, rfl, rfl, by decide +kernel, rfl, by decide +kernel, by decide +kernel⟩
theorem ok_pick {f : Addr} {fd : FuncData} (F : Fun K "_law_pick" "_law_pick" sPick f fd) (T : TxtT mg) : FnOk P w K mg base CX0 1 f fd ["tape", "many"] spPick := by
  refine F.ok scPick (fun vs H Q E h => ?_) (fun cdv A outer s H vs Q E hr h => ?_)
  · obtain ⟨t, n, rfl, _⟩ := h
    rfl
  · obtain ⟨t, n, rfl, ⟨d, m, ht, ok⟩, n1, n2, k⟩ := h
    have hu := hu_of hr
    refine ⟨_, pss_cons (ps_if (pt_cmpR op_ge (pe_dget hu (pv 0) pe_str (fun _ _ => rfl)) (pv 1) (nomark _))
        (pss_cons (ps_set (i := 2) scPick.nd rfl (Or.inl rfl) (pe_op op_mod (pe_callTy call_int1 (by rfl) T.z_int boot_int (pa_cons (pe_dget hu (pv 0) pe_str (fun _ _ => rfl)) pa_nil)) (pv 1)))
          (pss_cons (ps_dput hu (pv 0) pe_str (pe_op op_fdivW (pe_dget hu (pv 0) pe_str (fun _ _ => rfl)) (pv 1)) rfl) (pss_one (ps_ret (pv 2))))) pss_nil)
      (pss_cons (ps_dput hu (pv 0) pe_str (pe_op op_mod (pe_callTy call_int1 (by rfl) T.z_int boot_int (pa_cons (pe_op op_add (pe_op op_mul (pe_dget hu (pv 0) pe_str (fun _ _ => rfl)) pe_int) pe_int) pa_nil)) pe_int) rfl)
      (pss_cons (ps_set (i := 3) scPick.nd rfl (Or.inl rfl) (pe_op op_mod (pe_callTy call_int1 (by rfl) T.z_int boot_int (pa_cons (pe_op op_pow (pe_dget hu (pv 0) pe_str (fun _ _ => rfl)) pe_int) pa_nil)) pe_int))
      (pss_one (ps_ret (pe_op op_mod (pe_callTy call_int1 (by rfl) T.z_int boot_int (pa_cons (pe_op op_fdiv (pe_op op_mod (pe_callTy call_int1 (by rfl) T.z_int boot_int (pa_cons (pe_op op_pow (pv 3) pe_int) pa_nil)) pe_int) pe_int) pa_nil)) (pv 1)))))), ?_⟩
    have np : (0 : Int) < n := by omega
    refine ⟨_, rfl, t, _, rfl, dget_d ht, _, rfl, _, _, rfl, rfl, _, rfl, ?_⟩
    by_cases c : n ≤ d
    · rw [decide_eq_true c]
      refine iteT ?_
      have cd : CDivW d n := wide_div np (b := 32) (by omega) (by decide) (by decide)
      refine ⟨_, rfl, t, _, rfl, dget_d ht, .inl ⟨_, rfl, _, rfl, _, _, rfl, rfl, np, ?_⟩⟩
      refine ⟨_, rfl, t, _, rfl, dget_d ht, _, rfl, _, _, rfl, rfl, cd, _, rfl, t, _, rfl, dput_d ht _, _, rfl, ?_⟩
      have o2 : TapeOk (d / n) m := ⟨Int.ediv_nonneg ok.d0 (by omega), Nat.le_trans (intBits_le_of_natAbs (y := d) (by have := Int.ediv_le_self n ok.d0; have := Int.ediv_nonneg ok.d0 (show 0 ≤ n by omega); omega) ok.db) (Nat.le_refl _), ok.m0, ok.m1⟩
      exact k _ _ ((Kp.refl H).put rfl) (TapeAt.put o2) (Int.emod_nonneg _ (by omega)) (Int.emod_lt_of_pos _ np)
    · rw [decide_eq_false c]
      refine iteF ?_
      have m0 := ok.m0
      have m1 := ok.m1
      refine ⟨_, rfl, t, _, rfl, dget_x ht, _, _, rfl, rfl, .inl ⟨by omega, by omega⟩, _, _, rfl, rfl, .inl ⟨_, rfl, _, _, rfl, rfl, (by show (0 : Int) < 2147483563; decide), _, rfl, t, _, rfl, dput_x ht _, ?_⟩⟩
      generalize ex : (m * 40014 + 1013) % 2147483563 = x
      have x0 : 0 ≤ x := by
        rw [← ex]
        exact Int.emod_nonneg _ (by decide)
      have x1 : x < 2147483563 := by
        rw [← ex]
        exact Int.emod_lt_of_pos _ (by decide)
      have o2 : TapeOk d x := ⟨ok.d0, ok.db, x0, by omega⟩
      refine ⟨_, rfl, t, _, rfl, dget_x upd_same, _, _, rfl, rfl, ⟨by decide, by decide, by omega⟩, .inl ⟨_, rfl, _, _, rfl, rfl, (by show (0 : Int) < 2147483399; decide), ?_⟩⟩
      generalize ey : x ^ (2 : Int).toNat % 2147483399 = y
      have y0 : 0 ≤ y := by
        rw [← ey]
        exact Int.emod_nonneg _ (by decide)
      have y1 : y < 2147483399 := by
        rw [← ey]
        exact Int.emod_lt_of_pos _ (by decide)
      refine ⟨_, rfl, _, _, rfl, rfl, ⟨by decide, by decide, by omega⟩, .inl ⟨_, rfl, _, _, rfl, rfl, (by show (0 : Int) < 998244353; decide), _, _, rfl, rfl, ⟨by decide, by decide⟩, .inl ⟨_, rfl, _, rfl, _, _, rfl, rfl, np, ?_⟩⟩⟩
      exact k _ _ ((Kp.refl H).put rfl) (TapeAt.put o2) (Int.emod_nonneg _ (by omega)) (Int.emod_lt_of_pos _ np)
theorem scOneOf : FnScope ["tape", "items"] ["tape", "items"] (defScope sOneOf) := ⟨rfl, rfl, rfl, by decide +kernel, rfl, by decide +kernel, by decide +kernel⟩
theorem ok_one_of {f fP : Addr} {fd : FuncData} (F : Fun K "_law_one_of" "_law_one_of" sOneOf f fd) (T : TxtT mg) (DP : Df P w K mg base 1 fP "_law_pick" ["tape", "many"] spPick) : FnOk P w K mg base CX0 2 f fd ["tape", "items"] (spOneOf K) := by
  refine F.ok scOneOf (fun vs H Q E h => ?_) (fun cdv A outer s H vs Q E hr h => ?_)
  · obtain ⟨t, l, xs, rfl, _⟩ := h
    rfl
  · obtain ⟨t, l, xs, rfl, ta, hl, l1, l2, k⟩ := h
    refine ⟨_, pss_one (ps_ret (pe_ix ix_list (pv 1) (pe_df DP hr (by rfl) (pa_cons (pv 0) (pa_cons (pe_callB call_len (by rfl) T.z_len PySem.boot_len (pa_cons (pv 1) pa_nil)) pa_nil))) (fun _ _ => rfl))), ?_⟩
    refine ⟨_, rfl, _, rfl, _, rfl, _, xs.length, rfl, .inl ⟨xs, hl, rfl⟩, t, _, rfl, ta, by omega, by omega, fun H2 r k2 ta2 r0 r1 => ?_⟩
    have hx : xs[r.toNat]? = some (xs[r.toNat]'(by omega)) := List.getElem?_eq_getElem _
    have er : r = (r.toNat : Int) := by omega
    refine ⟨l, xs, r, _, rfl, rfl, sqL_tape ta hl k2, (by rw [er]; exact atI_nat hx), k H2 _ k2 ta2 (List.getElem_mem _)⟩
end
end Lw
namespace Lw
open PySem L2 Gk
abbrev sLKind : Stmt := topS 40
section
variable {P : Program} {w : World} {K : PySem.W.Frag} {mg : Str → Option Value} {base : Heap}
theorem scLKind : FnScope ["forms", "path", "kind", "name"] ["forms", "path"] (defScope sLKind) := ⟨rfl, rfl, rfl, by decide +kernel, rfl, by decide +kernel, by decide +kernel⟩
theorem ok_lkind {f : Addr} {fd : FuncData} (F : Fun K "_law_kind" "_law_kind" sLKind f fd) : FnOk P w K mg base CX0 1 f fd ["forms", "path"] spLKind := by
  refine F.ok scLKind (fun vs H Q E h => ?_) (fun cdv A outer s H vs Q E hr h => ?_)
  · obtain ⟨_, _, _, _, _, rfl, _⟩ := h
    rfl
  · obtain ⟨fv, _, ms, cs, p, rfl, fm, S, ⟨a, rfl, ha⟩, lp, lens, q⟩ := h
    have hu := hu_of hr
    refine ⟨_, pss_cons (ps_set (i := 2) scLKind.nd rfl (Or.inl rfl) (pe_tup (pa_cons pe_str (pa_cons pe_str pa_nil))))
      (pss_cons (ps_for PassesOwn.never rfl (pi_tup (pv 1)) (pg_name (i := 3) scLKind.nd rfl (Or.inl rfl))
        (pss_cons (ps_if (pt_cmpR op_eq (pe_ix (r := rIx K) ix_seq (pv 2) pe_int (fun _ _ => rfl)) pe_str (nomark _))
            (pss_one (ps_set (i := 2) scLKind.nd rfl (Or.inl rfl) (pe_dget1 hu (pe_dget hu (pe_ix (r := rIx K) ix_seq (pv 0) pe_int (fun _ _ => rfl)) (pe_ix (r := rIx K) ix_seq (pv 2) pe_int (fun _ _ => rfl)) (fun _ _ => rfl)) (pv 3) ⟨by rfl, by rfl, by rfl, by rfl⟩)))
            (pss_one (ps_set (i := 2) scLKind.nd rfl (Or.inl rfl) (pe_ifExp (pt_cmpR op_eq (pe_ix (r := rIx K) ix_seq (pv 2) pe_int (fun _ _ => rfl)) pe_str (nomark _)) (pe_tup (pa_cons (pe_ix (r := rIx K) ix_seq (pv 2) pe_int (fun _ _ => rfl)) pa_nil)) pe_non))))
        (pss_one (ps_if (pt_cmpR op_isN (pv 2) pe_non (nomark _)) (pss_one (ps_ret pe_non)) pss_nil))))
      (pss_one (ps_ret (pv 2)))), ?_⟩
    refine ⟨(by show 2 ≤ sizeLine; decide), fun t ht => ?_⟩
    have k2 : Kp T0 H (upd H t (.tup [.str "message", .str "top"])) := (Kp.refl H).new ht
    have ht2 : (upd H t (.tup [.str "message", .str "top"])) t = some (.tup ((topK).map V.str)) := upd_same
    generalize upd H t (.tup [.str "message", .str "top"]) = H2 at k2 ht2 ⊢
    refine ⟨_, rfl, a, rfl, ⟨_, SqT.of (k2.at0 ha)⟩, ?_⟩
    refine for_it (walk_tup (a := a) (xs := p.map V.str)) (fun i st H3 => Kp T0 H H3 ∧ ∃ (r : V) (k : Gk.Kind) (o3 : Option V), st = [some fv, some (.ref a), some r, o3] ∧ IsP H3 r k ∧ KindOk ms k ∧ walkP ms topK p = walkP ms k (p.drop i))
      ⟨k2, .ref t, topK, none, rfl, ⟨t, rfl, ht2⟩, top_ok S, by rw [List.drop_zero]⟩ (fun i st H3 _ p3 => SqT.of (p3.1.at0 ha)) (fun i x st H3 H4 hi p3 y => ?_) (fun st H3 p3 => ?_)
    rotate_left
    · obtain ⟨k3, r, k, o3, rfl, ip, kok, wk⟩ := p3
      rw [List.length_map] at wk
      rw [List.drop_length] at wk
      refine ⟨_, rfl, q H3 r k3 ?_⟩
      rw [wk]
      exact ip
    · obtain ⟨k3, r, k, o3, rfl, ⟨rt, rfl, hrt⟩, kok, wk⟩ := p3
      obtain ⟨rfl, sx⟩ := y
      rw [List.length_map] at hi
      rw [List.getElem?_map, List.getElem?_eq_getElem hi] at sx
      cases Option.some.inj sx
      have dr : p.drop i = p[i] :: p.drop (i + 1) := (List.getElem_cons_drop hi).symm
      rw [dr] at wk
      generalize p[i] = n at wk ⊢
      have wk2 : walkP ms topK p = match stepP ms k n with
        | some k2 => walkP ms k2 (p.drop (i + 1))
        | none => none := wk
      obtain ⟨m, rest0, ek, sh⟩ := kind_shape kok.1
      refine ⟨_, rfl, .inr (.inl ⟨rt, _, 0, .str m, rfl, rfl, SqT.of hrt, ?_, rfl, ?_⟩)⟩
      · rw [ek]
        exact at_0 _ _
      refine ⟨_, rfl, if_join (fun st H5 => ∃ r2, Kp T0 H H5 ∧ KVo H5 r2 (stepP ms k n) ∧ st = [some fv, some (.ref a), some r2, some (.str n)]) (fun rest => ?_) (fun st H5 q5 => ?_)⟩
      · rcases sh with ⟨em, x, er, mo⟩ | ⟨nm, mo⟩
        · rw [decide_eq_true (by rw [em] : V.str m = V.str "message")]
          refine iteT ?_
          obtain ⟨ft, ma, ca, rfl, hft, im, _, _⟩ := forIs_at (fm.keep0 k3)
          obtain ⟨vF, dg2, isF⟩ := msgs_at2 im (kok.2 x mo)
          obtain ⟨fa, o5, rfl, isd2, dg3, kv⟩ := flds_get isF n
          refine ⟨_, rfl, .inr (.inl ⟨ft, _, 0, .ref ma, rfl, rfl, SqT.of hft, at_0 _ _, _, rfl, .inr (.inl ⟨rt, _, 1, .str x, rfl, rfl, SqT.of hrt, ?_, ma, _, rfl, dg2, fa, rfl, isd2, _, rfl, o5, dg3, ?_⟩)⟩)⟩
          · rw [ek, er]
            exact at_1 _ _ _
          · refine rest _ _ ⟨_, k3, ?_, rfl⟩
            rw [ek, er, em, step_msg]
            exact kv
        · rw [decide_eq_false (fun z => nm (by injection z) : ¬ V.str m = V.str "message")]
          refine iteF ?_
          refine ⟨_, rfl, .inr (.inl ⟨rt, _, 0, .str m, rfl, rfl, SqT.of hrt, ?_, rfl, _, rfl, ?_⟩)⟩
          · rw [ek]
            exact at_0 _ _
          by_cases c : m = "map"
          · rw [decide_eq_true (by rw [c] : V.str m = V.str "map")]
            refine iteT ?_
            obtain ⟨x, er⟩ : ∃ x, rest0 = [x] := map_shape (by rw [← c, ← ek]; exact kok.1)
            refine ⟨_, rfl, .inr (.inl ⟨rt, _, 1, .str x, rfl, rfl, SqT.of hrt, ?_, (by show 1 ≤ sizeLine; decide), fun t9 ht9 => ?_⟩)⟩
            · rw [ek, er]
              exact at_1 _ _ _
            · refine rest _ _ ⟨_, k3.new ht9, ?_, rfl⟩
              rw [ek, er, c, step_map]
              exact ⟨t9, rfl, upd_same⟩
          · rw [decide_eq_false (fun z => c (by injection z) : ¬ V.str m = V.str "map")]
            refine iteF ?_
            refine rest _ _ ⟨_, k3, ?_, rfl⟩
            have e : stepP ms k n = none := by
              rw [ek]
              exact step_no nm c
            rw [e]
            rfl
      · obtain ⟨r2, k5, kv, rfl⟩ := q5
        refine ⟨_, rfl, rfl, _, rfl, ?_⟩
        cases e : stepP ms k n with
        | none =>
          rw [e] at kv wk2
          have er : r2 = .non := kv
          subst er
          rw [decide_eq_true rfl]
          refine iteT (q _ .non k5 ?_)
          rw [wk2]
          rfl
        | some k2 =>
          rw [e] at kv wk2
          obtain ⟨ra, rfl, hra⟩ := kv
          rw [decide_eq_false (fun z => nomatch z)]
          exact iteF ⟨k5, .ref ra, k2, _, rfl, ⟨ra, rfl, hra⟩, step_ok S kok e, wk2⟩
end
end Lw
namespace Lw
open PySem L2 Gk
abbrev sLMates : Stmt := topS 41
/-- the rows of a kind's message -/
def iRowsK (K : PySem.W.Frag) : TI := fun st H R => ∃ (f v : V) (ms : Msgs) (cs : Cho) (k : Gk.Kind), st[0]? = some (some f) ∧ st[2]? = some (some v) ∧ ForIs H f ms cs ∧ IsP H v k ∧ kindP k = true ∧ ∀ ra xs H3, Kp T0 H H3 → H3 ra = some (.lst xs) → Ps H3 xs (mateRows cs (msgOf k)) → R (Itl K ra) H3
section
variable {P : Program} {w : World} {K : PySem.W.Frag} {mg : Str → Option Value} {base : Heap}
abbrev NLM : List Str := ["forms", "path", "kind", "found", "choice", "others", "name"]
theorem scLMates : FnScope NLM ["forms", "path"] (defScope sLMates) := ⟨rfl, rfl, rfl, by decide +kernel, rfl, by decide +kernel, by decide +kernel⟩
theorem rd_rowsK {st : L2.St} {H : Hp} {R : It → Hp → Prop} (h : iRowsK K st H R) : iList K (tIf (tTest (tOp rEq (tOp (rIx K) (tVar 2) (tC (.int 0))) (tC (.str "message")))) (tDGet2 (tOp (rIx K) (tVar 0) (tC (.int 1))) (tOp (rIx K) (tVar 2) (tC (.int 1))) (tLst tNil)) (tLst tNil)) st H R := by
  obtain ⟨f, v, ms, cs, k, h0, h2, fm, ⟨rt, rfl, hrt⟩, kp, go⟩ := h
  obtain ⟨ft, ma, ca, rfl, hft, _, _, ⟨ca2, ck, e2, hca, pc⟩⟩ := forIs_at fm
  cases e2
  obtain ⟨m, rest0, ek, sh⟩ := kind_shape kp
  refine ⟨_, h2, .inr (.inl ⟨rt, _, 0, .str m, rfl, rfl, SqT.of hrt, by rw [ek]; exact at_0 _ _, rfl, _, rfl, ?_⟩)⟩
  rcases sh with ⟨em, x, er, mo⟩ | ⟨nm, mo⟩
  · rw [decide_eq_true (by rw [em] : V.str m = V.str "message")]
    refine iteT ?_
    refine ⟨_, h0, .inr (.inl ⟨ft, _, 1, .ref ca, rfl, rfl, SqT.of hft, at_1 _ _ _, ca, rfl, .inl ⟨ck, .inl hca⟩, _, h2, .inr (.inl ⟨rt, _, 1, .str x, rfl, rfl, SqT.of hrt, by rw [ek, er]; exact at_1 _ _ _, Nat.zero_le _, fun l0 hl0 => ?_⟩)⟩)⟩
    have k1 : Kp T0 H (upd H l0 (.lst [])) := (Kp.refl H).new hl0
    have d1 : (upd H l0 (.lst [])) l0 = some (.lst []) := upd_same
    have pc1 : Paired (Ent (IsRs (upd H l0 (.lst [])))) ck cs := ent_map pc fun _ _ _ z => z.keep0 k1
    rw [mo] at go
    rcases ent_find x pc1 with ⟨e1, e2⟩ | ⟨rows, v, e1, e2, ra, xs, rfl, hr, hp⟩
    · refine ⟨none, .inl ⟨ck, .inr x, .inl (k1.at0 hca), rfl, e2.symm⟩, l0, rfl, ⟨[], SqL.of d1⟩, go l0 [] _ k1 d1 ?_⟩
      show Ps _ [] ((cs.lookup x).getD [])
      rw [e1]
      exact .nil
    · refine ⟨some (.ref ra), .inl ⟨ck, .inr x, .inl (k1.at0 hca), rfl, e2.symm⟩, ra, rfl, ⟨xs, SqL.of hr⟩, go ra xs _ k1 hr ?_⟩
      show Ps _ xs ((cs.lookup x).getD [])
      rw [e1]
      exact hp
  · rw [decide_eq_false (fun z => nm (by injection z) : ¬ V.str m = V.str "message")]
    refine iteF ⟨Nat.zero_le _, fun l0 hl0 => ⟨l0, rfl, ⟨[], SqL.of upd_same⟩, go l0 [] _ ((Kp.refl H).new hl0) upd_same ?_⟩⟩
    rw [mo]
    exact .nil
theorem mates_take {rows : List Pth} {q : Pth} {l : Str} {i : Nat} {c : Pth} (h : rows[i]? = some c) : matesOf (rows.take (i + 1)) q l = matesOf (rows.take i) q l ++ (if l ∈ c then (c.filter fun f => decide (f ≠ l)).map fun f => q ++ [f] else []) := by
  unfold matesOf
  rw [List.take_add_one, h, List.filter_append, List.flatMap_append]
  congr 1
  by_cases m : l ∈ c
  · simp [m]
  · simp [m]
theorem mates_len {rows : List Pth} (h : ∀ c ∈ rows, c.length < 64) (q : Pth) (l : Str) : (matesOf rows q l).length ≤ rows.length * 64 := by
  unfold matesOf
  induction rows with
  | nil => exact Nat.le_refl 0
  | cons c rows ih =>
    have h1 := h c List.mem_cons_self
    have h2 := ih fun d m => h d (List.mem_cons_of_mem _ m)
    have h3 : ((c.filter fun f => decide (f ≠ l)).map fun f => q ++ [f]).length ≤ 64 := by
      rw [List.length_map]
      exact Nat.le_of_lt (Nat.lt_of_le_of_lt (List.length_filter_le _ _) h1)
    rw [List.filter_cons]
    split
    · rw [List.flatMap_cons, List.length_append, List.length_cons]
      omega
    · rw [List.length_cons]
      omega
theorem ok_lmates {f fK : Addr} {fd : FuncData} (F : Fun K "_law_mates" "_law_mates" sLMates f fd) (DK : Df P w K mg base 1 fK "_law_kind" ["forms", "path"] spLKind) : FnOk P w K mg base CX0 2 f fd ["forms", "path"] spLMates := by
  refine F.ok scLMates (fun vs H Q E h => ?_) (fun cdv A outer s H vs Q E hr h => ?_)
  · obtain ⟨_, _, _, _, _, _, _, rfl, _⟩ := h
    rfl
  · obtain ⟨fv, _, ms, cs, p, l, k, rfl, fm, S, kok, ⟨a, rfl, ha⟩, lp, lens, wk, q⟩ := h
    have hz : (16777216 : Nat) = PySem.sizeLine := PySem.sizeLine_eq.symm
    have hu := hu_of hr
    refine ⟨_, pss_cons (ps_set (i := 2) scLMates.nd rfl (Or.inl rfl) (pe_df DK hr (by rfl) (pa_cons (pv 0) (pa_cons (pe_slice sl_tupA (pv 1) po_none (po_some (pe_un un_neg pe_int))) pa_nil))))
      (pss_cons (ps_set (i := 3) scLMates.nd rfl (Or.inl rfl) (pe_lst pa_nil))
      (pss_cons (ps_for PassesOwn.never rfl (pi_weak (w2 := iRowsK K) (pi_list (pe_ifExp (pt_cmpR op_eq (pe_ix (r := rIx K) ix_seq (pv 2) pe_int (fun _ _ => rfl)) pe_str (nomark _)) (pe_dget2 hu (pe_ix (r := rIx K) ix_seq (pv 0) pe_int (fun _ _ => rfl)) (pe_ix (r := rIx K) ix_seq (pv 2) pe_int (fun _ _ => rfl)) (pe_lst pa_nil) ⟨by rfl, by rfl, by rfl, by rfl⟩) (pe_lst pa_nil))) (fun _ _ _ h => rd_rowsK h)) (pg_name (i := 4) scLMates.nd rfl (Or.inl rfl))
        (pss_one (ps_if (pt_cmpR (r := rIn K false) op_in_seq (pe_ix (r := rIx K) ix_seq (pv 1) (pe_un un_neg pe_int) (fun _ _ => rfl)) (pv 4) (by with_unfolding_all rfl))
          (pss_cons (ps_setLc (i := 5) (own := [("name", 6)]) (g := gName 6) (tt := tTest (tOp rNe (tVar 6) (tOp (rIx K) (tVar 1) (tUn (rU fun i => .int (-i)) (tC (.int 1)))))) rfl scLMates.nd rfl rfl (sw_true rfl rfl rfl (by decide +kernel)) (pi_tup (pv 4))
              (blkOk_by (N := NLM) (sc := defScope sLMates) (by decide +kernel)) (fun _ _ _ _ _ => pg_name (i := 6) scLMates.nd rfl (Or.inl rfl))
              (fun _ _ _ _ _ => pts_one (pt_cmpR (r := rNe) op_ne (pv 6) (pe_ix (r := rIx K) ix_seq (pv 1) (pe_un un_neg pe_int) (fun _ _ => rfl)) (nomark _))) (fun _ _ _ _ _ => pv 6))
          (pss_one (ps_set (i := 3) scLMates.nd rfl (Or.inl rfl) (pe_op op_cat (pv 3) (pe_lc (te := tOp (rCatA K) (tSl (rSlA K) (tVar 1) tNoPart (tPart (tUn (rU fun i => .int (-i)) (tC (.int 1))))) (tTup (tCons (tVar 6) tNil))) (own := [("name", 6)]) (g := gName 6) (tt := tYes) rfl scLMates.nd (pi_list (pv 5))
              (blkOk_by (N := NLM) (sc := defScope sLMates) (by decide +kernel)) (fun _ _ _ _ _ => pg_name (i := 6) scLMates.nd rfl (Or.inl rfl)) (fun _ _ _ _ _ => pts_nil)
              (fun _ _ _ _ _ => pe_op op_catA (pe_slice sl_tupA (pv 1) po_none (po_some (pe_un un_neg pe_int))) (pe_tup (pa_cons (pv 6) pa_nil))))))))
          pss_nil)))
      (pss_one (ps_ret (pv 3))))), ?_⟩
    rw [List.map_append] at ha
    have ha : H a = some (.tup (p.map V.str ++ [V.str l])) := ha
    have isl : L2.atI (p.map V.str ++ [V.str l]) (-1) = some (.str l) := at_last _ _
    have ec : cutV (p.map V.str ++ [V.str l]) none (some (-1)) = p.map V.str := cut_ini2 _ _
    refine ⟨_, rfl, _, rfl, _, rfl, _, rfl, a, _, rfl, SqT.of ha, fun z => absurd z (cut_init_part _ _), fun _ t ht => ?_⟩
    rw [ec]
    have k1 : Kp T0 H (upd H t (.tup (p.map V.str))) := (Kp.refl H).new ht
    refine ⟨fv, .ref t, ms, cs, p, rfl, fm.keep0 k1, S, ⟨t, rfl, upd_same⟩, by omega, lens, fun H2 r k2 kv => ?_⟩
    rw [wk] at kv
    have k02 := k1.trans k2
    have kp : kindP k = true := (walk_ok S (top_ok S) wk).1
    have kv : IsP H2 r k := kv
    refine ⟨Nat.zero_le _, fun l0 hl0 => ?_⟩
    have g3 : Kp T0 H2 (upd H2 l0 (.lst [])) := (Kp.refl H2).new hl0
    have d3 : (upd H2 l0 (.lst [])) l0 = some (.lst []) := upd_same
    have n0 : H l0 = none := k02.free hl0
    have kv3 := kv.keep0 g3
    have k03 := k02.trans g3
    generalize upd H2 l0 (.lst []) = H3 at g3 d3 kv3 k03 ⊢
    refine ⟨fv, r, ms, cs, k, rfl, rfl, fm.keep0 k03, kv3, kp, fun ra xs H4 k4 hr4 hps => ?_⟩
    have k04 := k03.trans k4
    obtain ⟨rl, rok⟩ := rows_small kok (msgOf k)
    generalize mateRows cs (msgOf k) = rows at rl rok hps q
    have lx : xs.length = rows.length := Paired.length hps
    refine for_it (walk_list (a := ra) (xs := xs)) (fun i st H5 => Kp T0 H4 H5 ∧ ∃ (lf : Addr) (ys : List V) (o4 o5 o6 : Option V), st = [some fv, some (.ref a), some r, some (.ref lf), o4, o5, o6] ∧ H5 lf = some (.lst ys) ∧ H lf = none ∧ Ps H5 ys (matesOf (rows.take i) p l))
      ⟨Kp.refl H4, l0, [], none, none, none, rfl, k4.at0 d3, n0, .nil⟩ (fun i st H5 _ pp => SqL.of (pp.1.at0 hr4)) (fun i x st H5 H6 hi pp y => ?_) (fun st H5 pp => ?_)
    rotate_left
    · obtain ⟨k5, lf, ys, o4, o5, o6, rfl, d5, n5, p5⟩ := pp
      rw [lx, List.take_length] at p5
      exact ⟨_, rfl, q H5 lf ys (k04.trans k5) n5 d5 p5⟩
    obtain ⟨k5, lf, ys, o4, o5, o6, rfl, d5, n5, p5⟩ := pp
    obtain ⟨rfl, sx⟩ := y
    obtain ⟨c, hc, ic⟩ := Ps.get hps sx
    have cok := rok c (List.mem_of_getElem? hc)
    obtain ⟨cb, rfl, hcb⟩ := (ic.keep0 k5)
    have k05 := k04.trans k5
    have ha5 := k05.at0 ha
    have lys : ys.length ≤ 64 * 64 := by
      rw [Paired.length p5]
      refine Nat.le_trans (mates_len (fun d m => (rok d (List.mem_of_mem_take m)).1) p l) ?_
      rw [List.length_take]
      exact Nat.mul_le_mul_right 64 (by omega)
    refine ⟨_, rfl, _, rfl, .inr (.inl ⟨a, _, -1, .str l, rfl, rfl, SqT.of ha5, isl, _, rfl, cb, c.map V.str, rfl, .inr (SqT.of hcb), rfl, flat_strs2 c, _, rfl, ?_⟩)⟩
    show if L2.inV (.str l) (c.map V.str) = true then _ else _
    rw [inV_strs]
    by_cases m : l ∈ c
    rotate_left
    · rw [decide_eq_false m]
      refine iteF ⟨k5, lf, ys, _, _, _, rfl, d5, n5, ?_⟩
      rw [mates_take hc, if_neg m, List.append_nil]
      exact p5
    rw [decide_eq_true m]
    refine iteT ?_
    refine ⟨_, rfl, cb, rfl, ⟨_, SqT.of hcb⟩, fun D hD => ?_⟩
    have c64 : c.length < 64 := cok.1
    refine lc_kp (T := T0) (walk_tup (a := cb) (xs := c.map V.str)) (i0 := 6) (fun i v => (c.map V.str)[i]? = some v) (fun i zs _ => zs = ((c.take i).filter fun f => decide (f ≠ l)).map V.str) (fun _ _ _ _ _ y => y) hD id (by rw [List.length_map]; omega) (wipe1 _ 6) (fun H7 k7 => SqT.of (k7.at0 hcb)) rfl
      (fun n v zs H7 Ky Kn hn sy k7 d7 ez ky kn => ?_) (fun zs H7 k7 d7 lz ez => ?_)
    · rw [List.getElem?_map] at sy
      cases ey : c[n]? with
      | none =>
        rw [ey] at sy
        cases sy
      | some y =>
        rw [ey] at sy
        cases Option.some.inj sy
        have tk : (c.take (n + 1)).filter (fun f => decide (f ≠ l)) = (c.take n).filter (fun f => decide (f ≠ l)) ++ [y].filter (fun f => decide (f ≠ l)) := by
          rw [List.take_add_one, ey, List.filter_append]
          rfl
        refine ⟨_, rfl, _, rfl, _, rfl, .inr (.inl ⟨a, _, -1, .str l, rfl, rfl, SqT.of (k7.at0 ha5), isl, rfl, _, rfl, ?_⟩)⟩
        by_cases m2 : y = l
        · rw [decide_eq_true (by rw [m2] : V.str y = V.str l)]
          refine iteF (kn _ (Kp.refl _) ?_)
          rw [tk, ez, m2]
          simp
        · rw [decide_eq_false (fun z => m2 (by injection z) : ¬ V.str y = V.str l)]
          refine iteT ⟨_, rfl, ky _ _ (Kp.refl _) ?_⟩
          rw [tk, ez, List.map_append]
          have e : [y].filter (fun f => decide (f ≠ l)) = [y] := by simp [List.filter, m2]
          rw [e]
          rfl
    rw [List.length_map, List.take_length] at ez
    subst ez
    have k07 := k05.trans k7
    have ha7 := k07.at0 ha
    have d5b := k7.at0 d5
    have ib : (matesOf (rows.take (i + 1)) p l) = matesOf (rows.take i) p l ++ (c.filter fun f => decide (f ≠ l)).map fun f => p ++ [f] := by rw [mates_take hc, if_pos m]
    have fl64 : (c.filter fun f => decide (f ≠ l)).length < 64 := Nat.lt_of_le_of_lt (List.length_filter_le _ _) c64
    generalize c.filter (fun f => decide (f ≠ l)) = oth at d7 lz ib fl64
    refine ⟨_, rfl, _, rfl, D, rfl, ⟨_, SqL.of d7⟩, fun D2 hD2 => ?_⟩
    refine lc_kp (T := T0) (walk_list (a := D) (xs := oth.map V.str)) (i0 := 6) (fun i v => (oth.map V.str)[i]? = some v) (fun i zs Ha => Ps Ha zs ((oth.take i).map fun f => p ++ [f])) (fun _ _ _ _ _ y => y) hD2 id (by rw [List.length_map]; omega) (wipe1 _ 6) (fun H8 k8 => SqL.of (k8.at0 d7)) .nil
      (fun n v zs H8 Ky Kn hn sy k8 d8 pz ky kn => ?_) (fun zs H8 k8 d8 lz2 pz => ?_)
    · rw [List.getElem?_map] at sy
      cases ey : oth[n]? with
      | none =>
        rw [ey] at sy
        cases sy
      | some y =>
        rw [ey] at sy
        cases Option.some.inj sy
        refine yes_ ?_
        refine ⟨_, rfl, _, rfl, _, rfl, a, _, rfl, SqT.of (k8.at0 ha7), fun z => absurd z (cut_init_part _ _), fun _ t2 ht2 => ?_⟩
        rw [ec]
        have g9 : Kp T0 H8 (upd H8 t2 (.tup (p.map V.str))) := (Kp.refl H8).new ht2
        refine ⟨_, rfl, (by show 1 ≤ sizeLine; decide), fun t3 ht3 => ?_⟩
        have g10 : Kp T0 (upd H8 t2 (.tup (p.map V.str))) (upd (upd H8 t2 (.tup (p.map V.str))) t3 (.tup [.str y])) := (Kp.refl _).new ht3
        refine rd_cat2 (p := p) (q := [y]) ⟨t2, rfl, g10.at0 upd_same⟩ ⟨t3, rfl, upd_same⟩ (by show p.length + 1 ≤ 1000; omega) fun w2 H9 k9 iw => ?_
        have kk := (g9.trans g10).trans k9
        refine ky _ _ kk ?_
        rw [List.take_add_one, ey, List.map_append]
        exact Ps.snoc ((pz.keep0 kk).un (kk.at0 d8) fun _ z => nomatch z) (iw.un (kk.at0 d8) fun _ z => nomatch z)
    rw [List.length_map, List.take_length] at pz
    have d58 := k8.at0 d5b
    have l8 : zs.length < 64 := by rw [Paired.length pz, List.length_map]; exact fl64
    refine ⟨lf, D2, ys, zs, rfl, rfl, d58, d8, by omega, fun l9 hl9 => ?_⟩
    have g9 : Kp T0 H8 (upd H8 l9 (.lst (ys ++ zs))) := (Kp.refl H8).new hl9
    have K9 := (k5.trans k7).trans (k8.trans g9)
    refine ⟨K9, l9, ys ++ zs, _, _, _, rfl, upd_same, (k07.trans k8).free hl9, ?_⟩
    rw [ib]
    exact ((p5.keep0 k7).keep0 (k8.trans g9)).app (pz.keep0 g9)
end
end Lw
namespace Lw
open PySem L2 Gk
abbrev sLPaths : Stmt := topS 42
theorem valV_mem {kvs : List (L2.Key × V)} {k : L2.Key} {v : V} (h : valV kvs k = some v) : ∃ kv ∈ kvs, kv.2 = v := by
  unfold valV at h
  cases e : kvs.find? (fun kv => decide (kv.1 = k)) with
  | none =>
    rw [e] at h
    cases h
  | some kv =>
    rw [e] at h
    exact ⟨kv, List.mem_of_find?_eq_some e, Option.some.inj h⟩
theorem walk_snoc (ms : Msgs) : ∀ (p : Pth) (k : Gk.Kind) (n : Str), walkP ms k (p ++ [n]) = (walkP ms k p).bind fun k2 => stepP ms k2 n
  | [], k, n => by
    show (match stepP ms k n with
      | some k2 => some k2
      | none => none) = stepP ms k n
    cases stepP ms k n <;> rfl
  | x :: p, k, n => by
    show (match stepP ms k x with
      | some k2 => walkP ms k2 (p ++ [n])
      | none => none) = (match stepP ms k x with
      | some k2 => walkP ms k2 p
      | none => none).bind _
    cases stepP ms k x with
    | none => rfl
    | some k2 => exact walk_snoc ms p k2 n
/-- so many turns are enough below a kind -/
def Need (ms : Msgs) (n : Nat) (k : Gk.Kind) : Prop := match msgOf k with
  | some x => 3 ≤ n ∧ fitsP ms (n - 2) x = true
  | none => 2 ≤ n ∨ (1 ≤ n ∧ k.length = 1)
def bndL : Nat → Nat
  | 0 => 0
  | n + 1 => 6 * (1 + bndL n)
/-- a path that a law's own reader tells -/
def Told (ms : Msgs) (m : Nat) (p : Pth) : Prop := OkN p ∧ p ≠ [] ∧ p.length ≤ m ∧ (walkP ms topK p).isSome = true
def spLPaths (n : Nat) : Sp := fun vs H Q _ => ∃ (f v : V) (nl : Addr) (nms : List Str) (ms : Msgs) (cs : Cho) (p : Pth) (k : Gk.Kind), vs = [f, v, .ref nl] ∧ ForIs H f ms cs ∧ Sch ms ∧ IsP H v p ∧ OkN p ∧ p.length + n ≤ 100 ∧ n ≤ 6 ∧ H nl = some (.lst (nms.map V.str)) ∧ nms.length ≤ 6 ∧ (∀ x ∈ nms, isNm x = true) ∧ walkP ms topK p = some k ∧ Need ms n k ∧
  ∀ H2 r ys ps, Kp T0 H H2 → H r = none → H2 r = some (.lst ys) → Ps H2 ys ps → (∀ q ∈ ps, Told ms (p.length + n) q) → ys.length ≤ bndL n → Q (.ref r) H2
theorem bndL_small : ∀ n ≤ 6, bndL n ≤ 60000
  | 0, _ => by decide
  | 1, _ => by decide
  | 2, _ => by decide
  | 3, _ => by decide
  | 4, _ => by decide
  | 5, _ => by decide
  | 6, _ => by decide
/-- what stands below a message's field, a map's name -/
theorem need_field {ms : Msgs} (S : Sch ms) {n : Nat} {k : Gk.Kind} {x : Str} (hk : k = [("message" : Str), x]) (h : Need ms (n + 1) k) {f : Str × Gk.Kind} (mf : f ∈ fldsOf ms x) : Need ms n f.2 := by
  subst hk
  have h : 3 ≤ n + 1 ∧ fitsP ms (n + 1 - 2) x = true := h
  obtain ⟨h3, hf⟩ := h
  obtain ⟨j, ej⟩ : ∃ j, n + 1 - 2 = j + 1 := by
    cases e : n + 1 - 2 with
    | zero =>
      rw [e] at hf
      cases hf
    | succ j => exact ⟨j, rfl⟩
  rw [ej] at hf
  unfold fitsP at hf
  rw [Bool.and_eq_true] at hf
  unfold Need
  cases e : msgOf f.2 with
  | none => exact .inl (by omega)
  | some y =>
    have z := List.all_eq_true.mp hf.2 y (List.mem_filterMap.mpr ⟨f, mf, e⟩)
    have hj : 1 ≤ j := by
      cases j with
      | zero => cases z
      | succ j => omega
    refine ⟨by omega, ?_⟩
    have e2 : n - 2 = j := by omega
    rw [e2]
    exact z
section
variable {P : Program} {w : World} {K : PySem.W.Frag} {mg : Str → Option Value} {base : Heap}
abbrev NLP : List Str := ["forms", "path", "names", "kind", "inner", "found", "one", "name"]
theorem scLPaths : FnScope NLP ["forms", "path", "names"] (defScope sLPaths) := ⟨rfl, rfl, rfl, by decide +kernel, rfl, by decide +kernel, by decide +kernel⟩
theorem ok_lpaths {f fK : Addr} {fd : FuncData} (F : Fun K "_law_paths" "_law_paths" sLPaths f fd) (zs : mg "sorted" = none) (b : Binds K fd ["forms", "path", "names"] []) (mgf : mg "_law_paths" = some (.ref f)) (kf : PySem.W.keepIn K (.ref f) = true) (DK : Df P w K mg base 1 fK "_law_kind" ["forms", "path"] spLKind) :
    ∀ n, FnOk P w K mg base CX0 (2 + n) f fd ["forms", "path", "names"] (spLPaths n)
  | 0 => fn_none fun vs H Q E h => by
    obtain ⟨_, _, _, _, ms, _, _, k, _, _, _, _, _, _, _, _, _, _, _, nd, _⟩ := h
    unfold Need at nd
    split at nd
    · exact absurd nd.1 (by decide)
    · rcases nd with z | z
      · exact absurd z (by decide)
      · exact absurd z.1 (by decide)
  | n + 1 => by
    have D : Df P w K mg base (2 + n) f "_law_paths" ["forms", "path", "names"] (spLPaths n) := ⟨⟨fd, ok_lpaths F zs b mgf kf DK n, b⟩, mgf, kf⟩
    refine F.ok scLPaths (fun vs H Q E h => ?_) (fun cdv A outer s H vs Q E hr h => ?_)
    · obtain ⟨_, _, _, _, _, _, _, _, rfl, _⟩ := h
      rfl
    · obtain ⟨fv, _, nl, nms, ms, cs, p, k, rfl, fm, S, ⟨a, rfl, ha⟩, okn, lp, n6, hnl, lnm, oknm, wk, need, q⟩ := h
      have hz : (16777216 : Nat) = PySem.sizeLine := PySem.sizeLine_eq.symm
      have hu := hu_of hr
      have r1 : Room 1 _ := hr.mono (Nat.le_trans (by decide : 1 ≤ 2) (Nat.le_add_right 2 n))
      refine ⟨_, pss_cons (ps_set (i := 3) scLPaths.nd rfl (Or.inl rfl) (pe_df DK r1 (by rfl) (pa_cons (pv 0) (pa_cons (pv 1) pa_nil))))
        (pss_cons (ps_if (pt_cmpR op_eq (pe_ix (r := rIx K) ix_seq (pv 3) pe_int (fun _ _ => rfl)) pe_str (nomark _))
          (pss_one (ps_lock (ps_setLc (i := 4) (te := tOp (rCatA K) (tVar 1) (tTup (tCons (tVar 7) tNil))) (own := [("name", 7)]) (g := gName 7) (tt := tYes) rfl scLPaths.nd rfl rfl (sw_true rfl rfl rfl (by decide +kernel)) (pi_keys (pe_dget hu (pe_ix (r := rIx K) ix_seq (pv 0) pe_int (fun _ _ => rfl)) (pe_ix (r := rIx K) ix_seq (pv 3) pe_int (fun _ _ => rfl)) (fun _ _ => rfl)))
              (blkOk_by (N := NLP) (sc := defScope sLPaths) (by decide +kernel)) (fun _ _ _ _ _ => pg_name (i := 7) scLPaths.nd rfl (Or.inl rfl)) (fun _ _ _ _ _ => pts_nil)
              (fun _ _ _ _ _ => pe_op op_catA (pv 1) (pe_tup (pa_cons (pv 7) pa_nil))))))
          (pss_one (ps_set (i := 4) scLPaths.nd rfl (Or.inl rfl) (pe_ifExp (pt_cmpR op_eq (pe_ix (r := rIx K) ix_seq (pv 3) pe_int (fun _ _ => rfl)) pe_str (nomark _))
              (pe_lc (te := tOp (rCatA K) (tVar 1) (tTup (tCons (tVar 7) tNil))) (own := [("name", 7)]) (g := gName 7) (tt := tYes) rfl scLPaths.nd (pi_list (pv 2))
                (blkOk_by (N := NLP) (sc := defScope sLPaths) (by decide +kernel)) (fun _ _ _ _ _ => pg_name (i := 7) scLPaths.nd rfl (Or.inl rfl)) (fun _ _ _ _ _ => pts_nil)
                (fun _ _ _ _ _ => pe_op op_catA (pv 1) (pe_tup (pa_cons (pv 7) pa_nil)))) (pe_lst pa_nil)))))
        (pss_cons (ps_set (i := 5) scLPaths.nd rfl (Or.inl rfl) (pe_lst pa_nil))
        (pss_cons (ps_for PassesOwn.never rfl (pi_list (pv 4)) (pg_name (i := 6) scLPaths.nd rfl (Or.inl rfl))
          (pss_one (ps_set (i := 5) scLPaths.nd rfl (Or.inl rfl) (pe_op op_cat (pe_op op_cat (pv 5) (pe_lst (pa_cons (pv 6) pa_nil))) (pe_df D hr (by rfl) (pa_cons (pv 0) (pa_cons (pv 6) (pa_cons (pv 2) pa_nil))))))))
        (pss_one (ps_ret (pe_callB (r := rSortLT K) cr_sortedLT (by rfl) zs (by decide +kernel) (pa_cons (pv 5) pa_nil))))))), ?_⟩
      refine ⟨_, rfl, _, rfl, fv, .ref a, ms, cs, p, rfl, fm, S, ⟨a, rfl, ha⟩, by omega, fun x m => (isNm_ok (okn x m)).2, fun H1 r k1 kv => ?_⟩
      rw [wk] at kv
      obtain ⟨rt, rfl, hrt⟩ := kv
      have kok : KindOk ms k := walk_ok S (top_ok S) wk
      obtain ⟨m, rest0, ek, sh⟩ := kind_shape kok.1
      refine ⟨_, rfl, .inr (.inl ⟨rt, _, 0, .str m, rfl, rfl, SqT.of hrt, by rw [ek]; exact at_0 _ _, rfl, ?_⟩)⟩
      have one_ok : ∀ (x : Str) (k2 : Gk.Kind), isNm x = true → stepP ms k x = some k2 → OkN (p ++ [x]) ∧ walkP ms topK (p ++ [x]) = some k2 := fun x k2 nx e => by
        refine ⟨fun y my => ?_, ?_⟩
        · rcases List.mem_append.mp my with h | h
          · exact okn y h
          · rw [List.mem_singleton.mp h]
            exact nx
        · rw [walk_snoc, wk]
          exact e
      refine ⟨_, rfl, if_join (fun st H5 => Kp T0 H H5 ∧ ∃ (li : Addr) (xs : List V) (ones : List Str), st = [some fv, some (.ref a), some (.ref nl), some (.ref rt), some (.ref li), none, none, none] ∧ H5 li = some (.lst xs) ∧ Ps H5 xs (ones.map fun x => p ++ [x]) ∧ ones.length ≤ 6 ∧ ∀ x ∈ ones, isNm x = true ∧ ∃ k2, stepP ms k x = some k2 ∧ Need ms n k2) (fun rest => ?_) (fun st H5 q5 => ?_)⟩
      · rcases sh with ⟨em, x, er, mo⟩ | ⟨nm, mo⟩
        · rw [decide_eq_true (by rw [em] : V.str m = V.str "message")]
          refine iteT ?_
          have ek2 : k = [("message" : Str), x] := by rw [ek, er, em]
          have hx := kok.2 x mo
          obtain ⟨ft, ma, ca, rfl, hft, _, ⟨ma2, mk, ema, hma, pm⟩, _⟩ := forIs_at (fm.keep0 k1)
          cases ema
          rcases ent_find x pm with ⟨e1, _⟩ | ⟨fs1, vF, e1, e2, isF⟩
          · rw [e1] at hx
            cases hx
          have ef1 : fldsOf ms x = fs1 := by
            unfold fldsOf
            rw [e1]
            rfl
          rw [← ef1] at isF
          obtain ⟨kv0, mkv0, ekv0⟩ := valV_mem e2
          have nema := isMs_ne hma pm kv0 mkv0
          rw [ekv0] at nema
          obtain ⟨fa, fk, rfl, hfa, pf⟩ := isF
          have nma : ma ≠ fa := fun z => nema (by rw [z])
          obtain ⟨fs0, hf0⟩ := Option.isSome_iff_exists.mp hx
          have ef0 : fldsOf ms x = fs0 := by
            unfold fldsOf
            rw [hf0]
            rfl
          have fform : formP (fldsOf ms x) = true := by
            rw [ef0]
            exact S.forms _ (lookup_mem hf0)
          have f6 : (fldsOf ms x).length ≤ 6 := by
            unfold formP at fform
            rw [Bool.and_eq_true] at fform
            exact of_decide_eq_true fform.1
          have fnd : ((fldsOf ms x).map (·.1)).Nodup := by
            rw [ef0]
            exact (S.mok.2.2 _ (lookup_mem hf0)).2.2.1
          have lk : fk.length = (fldsOf ms x).length := Paired.length pf
          refine ⟨fa, .dK fk, hfa, trivial, fun od => ?_⟩
          have na : (upd H1 fa (.frz od (.dK fk))) fa = some (.frz od (.dK fk)) := upd_same
          have other : ∀ {c : Addr} {o : HO}, H1 c = some o → (∀ kk, o ≠ .dK kk) → (upd H1 fa (.frz od (.dK fk))) c = some o := fun hc ne => by
            rw [upd_ne (fun z => by rw [z, hfa] at hc; exact ne _ (Option.some.inj hc).symm)]
            exact hc
          have hma2 : (upd H1 fa (.frz od (.dK fk))) ma = some (.dK mk) := by rw [upd_ne nma]; exact hma
          refine ⟨_, rfl, .inr (.inl ⟨ft, _, 0, .ref ma, rfl, rfl, SqT.of (other hft (fun _ z => nomatch z)), at_0 _ _, _, rfl, .inr (.inl ⟨rt, _, 1, .str x, rfl, rfl, SqT.of (other hrt (fun _ z => nomatch z)), by rw [ek, er]; exact at_1 _ _ _, ma, _, rfl, .inl ⟨mk, .inr x, .inl hma2, rfl, e2.symm⟩, fa, od, rfl, .inl ⟨fk, na, fun D hD => ?_⟩⟩)⟩)⟩
          have ha1 := other (k1.at0 ha) (fun _ z => nomatch z)
          have nD : D ≠ fa := fun z => by
            rw [z, upd_same] at hD
            cases hD
          have back : ∀ H5, Kp T0 (upd H1 fa (.frz od (.dK fk))) H5 → Kp T0 H (upd H5 fa (.dK fk)) := fun H5 k => k1.trans (kp_unlock hfa k)
          generalize upd H1 fa (.frz od (.dK fk)) = G1 at na hD ha1 back ⊢
          refine lc_kp (T := T0) (walk_keys (d := fa) (o := od) (kvs := fk)) (i0 := 7) (fun i v => ∃ key u, fk[i]? = some (key, u) ∧ v = kV key) (fun i zs Ha => Ps Ha zs (((fldsOf ms x).take i).map fun f => p ++ [f.1])) (fun _ _ _ _ _ y => y) hD id (by omega) (wipe1 _ 7) (fun H5 k5 => k5.at0 na) .nil
            (fun i v zs H5 Ky Kn hi sx k5 d5 pz ky kn => ?_) (fun zs H5 k5 d5 lz pz => ?_)
          · obtain ⟨key, u, hk, rfl⟩ := sx
            obtain ⟨f, hf, e3, _⟩ := ent_at pf hk
            have e3 : key = .inr f.1 := e3
            subst e3
            refine yes_ ?_
            refine ⟨_, rfl, _, rfl, (by show 1 ≤ sizeLine; decide), fun t2 ht2 => ?_⟩
            have g6 : Kp T0 H5 (upd H5 t2 (.tup [.str f.1])) := (Kp.refl H5).new ht2
            refine rd_cat2 (p := p) (q := [f.1]) ⟨a, rfl, g6.at0 (k5.at0 ha1)⟩ ⟨t2, rfl, upd_same⟩ (by show p.length + 1 ≤ 1000; omega) fun w2 H6 k6 iw => ?_
            have kk := g6.trans k6
            refine ky _ _ kk ?_
            rw [List.take_add_one, hf, List.map_append]
            exact Ps.snoc ((pz.keep0 kk).un (kk.at0 d5) fun _ z => nomatch z) (iw.un (kk.at0 d5) fun _ z => nomatch z)
          rw [lk, List.take_length] at pz
          refine ⟨k5.at0 na, ?_⟩
          refine rest _ _ ⟨back _ k5, D, zs, (fldsOf ms x).map (·.1), rfl, by rw [upd_ne nD]; exact d5, ?_, by rw [List.length_map]; exact f6, fun y my => ?_⟩
          · rw [List.map_map]
            exact pz.un (k5.at0 na) fun _ z => nomatch z
          · obtain ⟨f, mf, rfl⟩ := List.mem_map.mp my
            refine ⟨(form_kinds fform f mf).1, f.2, ?_, need_field S ek2 need mf⟩
            rw [ek2, step_msg]
            exact lookup_of fnd mf
        · rw [decide_eq_false (fun z => nm (by injection z) : ¬ V.str m = V.str "message")]
          refine iteF ?_
          refine ⟨_, rfl, .inr (.inl ⟨rt, _, 0, .str m, rfl, rfl, SqT.of hrt, by rw [ek]; exact at_0 _ _, rfl, _, rfl, ?_⟩)⟩
          by_cases c : m = "map"
          rotate_left
          · rw [decide_eq_false (fun z => c (by injection z) : ¬ V.str m = V.str "map")]
            refine iteF ⟨Nat.zero_le _, fun l0 hl0 => ?_⟩
            exact rest _ _ ⟨k1.new hl0, l0, [], [], rfl, upd_same, .nil, Nat.zero_le _, fun x mx => nomatch mx⟩
          rw [decide_eq_true (by rw [c] : V.str m = V.str "map")]
          refine iteT ?_
          obtain ⟨x, er⟩ : ∃ x, rest0 = [x] := map_shape (by rw [← c, ← ek]; exact kok.1)
          have ek2 : k = [("map" : Str), x] := by rw [ek, er, c]
          have need1 : Need ms n [x] := by
            have h : Need ms (n + 1) k := need
            rw [ek2] at h
            have h : 2 ≤ n + 1 ∨ (1 ≤ n + 1 ∧ [("map" : Str), x].length = 1) := h
            show 2 ≤ n ∨ (1 ≤ n ∧ [x].length = 1)
            rcases h with h | h
            · exact .inr ⟨by omega, rfl⟩
            · exact absurd h.2 (by simp)
          refine ⟨_, rfl, nl, rfl, ⟨_, SqL.of (k1.at0 hnl)⟩, fun D hD => ?_⟩
          refine lc_kp (T := T0) (walk_list (a := nl) (xs := nms.map V.str)) (i0 := 7) (fun i v => (nms.map V.str)[i]? = some v) (fun i zs Ha => Ps Ha zs ((nms.take i).map fun f => p ++ [f])) (fun _ _ _ _ _ y => y) hD id (by rw [List.length_map]; omega) (wipe1 _ 7) (fun H5 k5 => SqL.of (k5.at0 (k1.at0 hnl))) .nil
            (fun i v zs H5 Ky Kn hi sx k5 d5 pz ky kn => ?_) (fun zs H5 k5 d5 lz pz => ?_)
          · rw [List.getElem?_map] at sx
            cases ey : nms[i]? with
            | none =>
              rw [ey] at sx
              cases sx
            | some y =>
              rw [ey] at sx
              cases Option.some.inj sx
              refine yes_ ?_
              refine ⟨_, rfl, _, rfl, (by show 1 ≤ sizeLine; decide), fun t2 ht2 => ?_⟩
              have g6 : Kp T0 H5 (upd H5 t2 (.tup [.str y])) := (Kp.refl H5).new ht2
              refine rd_cat2 (p := p) (q := [y]) ⟨a, rfl, g6.at0 (k5.at0 (k1.at0 ha))⟩ ⟨t2, rfl, upd_same⟩ (by show p.length + 1 ≤ 1000; omega) fun w2 H6 k6 iw => ?_
              have kk := g6.trans k6
              refine ky _ _ kk ?_
              rw [List.take_add_one, ey, List.map_append]
              exact Ps.snoc ((pz.keep0 kk).un (kk.at0 d5) fun _ z => nomatch z) (iw.un (kk.at0 d5) fun _ z => nomatch z)
          rw [List.length_map, List.take_length] at pz
          exact rest _ _ ⟨k1.trans k5, D, zs, nms, rfl, d5, pz, lnm, fun y my => ⟨oknm y my, [x], by rw [ek2]; exact step_map ms x y, need1⟩⟩
      · obtain ⟨k5, li, xs, ones, rfl, hli, hxs, l6, each⟩ := q5
        refine ⟨Nat.zero_le _, fun lF hlF => ?_⟩
        have g6 : Kp T0 H5 (upd H5 lF (.lst [])) := (Kp.refl H5).new hlF
        have d6 : (upd H5 lF (.lst [])) lF = some (.lst []) := upd_same
        have n6b := k5.free hlF
        have hli6 := g6.at0 hli
        have hxs6 := hxs.keep0 g6
        have k6 := k5.trans g6
        generalize upd H5 lF (.lst []) = H6 at g6 d6 hli6 hxs6 k6 ⊢
        have lxs : xs.length = ones.length := by rw [Paired.length hxs, List.length_map]
        have bn : bndL n ≤ 60000 := bndL_small n (by omega)
        refine ⟨_, rfl, li, rfl, ⟨_, SqL.of hli6⟩, ?_⟩
        refine for_it (walk_list (a := li) (xs := xs)) (fun i st H7 => Kp T0 H6 H7 ∧ ∃ (lf : Addr) (ys : List V) (ps : List Pth) (o6 : Option V), st = [some fv, some (.ref a), some (.ref nl), some (.ref rt), some (.ref li), some (.ref lf), o6, none] ∧ H7 lf = some (.lst ys) ∧ H lf = none ∧ Ps H7 ys ps ∧ ys.length ≤ i * (1 + bndL n) ∧ ∀ q ∈ ps, Told ms (p.length + (n + 1)) q)
          ⟨Kp.refl H6, lF, [], [], none, rfl, d6, n6b, .nil, Nat.zero_le _, fun q mq => nomatch mq⟩ (fun i st H7 _ pp => SqL.of (pp.1.at0 hli6)) (fun i x st H7 H8 hi pp y => ?_) (fun st H7 pp => ?_)
        · obtain ⟨k7, lf, ys, ps, o6, rfl, d7, n7, p7, l7, told⟩ := pp
          obtain ⟨rfl, sx⟩ := y
          obtain ⟨one, hone, io⟩ := Ps.get hxs6 sx
          rw [List.getElem?_map] at hone
          cases ey : ones[i]? with
          | none =>
            rw [ey] at hone
            cases hone
          | some y =>
          rw [ey] at hone
          cases Option.some.inj hone
          obtain ⟨ny, k2, ek2, need2⟩ := each y (List.mem_of_getElem? ey)
          obtain ⟨ok1, wk1⟩ := one_ok y k2 ny ek2
          have k07 := k6.trans k7
          have io7 := io.keep0 k7
          have i6 : i < 6 := by omega
          have l7b : ys.length ≤ 6 * (1 + bndL n) := Nat.le_trans l7 (Nat.mul_le_mul_right _ (by omega))
          have ll : (p ++ [y]).length = p.length + 1 := by rw [List.length_append]; rfl
          refine ⟨_, rfl, _, rfl, (by show 1 ≤ sizeLine; decide), fun l8 hl8 => ?_⟩
          have g8 : Kp T0 H8 (upd H8 l8 (.lst [x])) := (Kp.refl H8).new hl8
          have d8 : (upd H8 l8 (.lst [x])) l8 = some (.lst [x]) := upd_same
          have d78 := g8.at0 d7
          have p78 := p7.keep0 g8
          have io8 := io7.keep0 g8
          generalize upd H8 l8 (.lst [x]) = H9 at g8 d8 d78 p78 io8 ⊢
          refine ⟨lf, l8, ys, [x], rfl, rfl, d78, d8, by show ys.length + 1 ≤ _; omega, fun l9 hl9 => ?_⟩
          have g9 : Kp T0 H9 (upd H9 l9 (.lst (ys ++ [x]))) := (Kp.refl H9).new hl9
          have d9 : (upd H9 l9 (.lst (ys ++ [x]))) l9 = some (.lst (ys ++ [x])) := upd_same
          have p9 := (p78.snoc io8).keep0 g9
          have io9 := io8.keep0 g9
          have k79 := g8.trans g9
          generalize upd H9 l9 (.lst (ys ++ [x])) = H10 at g9 d9 p9 io9 k79 ⊢
          refine ⟨_, rfl, _, rfl, _, rfl, fv, x, nl, nms, ms, cs, p ++ [y], k2, rfl, fm.keep0 (k07.trans k79), S, io9, ok1, by omega, by omega, (k07.trans k79).at0 hnl, lnm, oknm, wk1, need2, fun H11 r ys2 ps2 k11 nr hr2 hp2 told2 l2 => ?_⟩
          have d11 := k11.at0 d9
          refine ⟨l9, r, ys ++ [x], ys2, rfl, rfl, d11, hr2, by rw [List.length_append, List.length_singleton]; omega, fun l12 hl12 => ?_⟩
          have g12 : Kp T0 H11 (upd H11 l12 (.lst ((ys ++ [x]) ++ ys2))) := (Kp.refl H11).new hl12
          have K12 := k79.trans (k11.trans g12)
          refine ⟨k7.trans K12, l12, (ys ++ [x]) ++ ys2, (ps ++ [p ++ [y]]) ++ ps2, _, rfl, upd_same, ((k07.trans k79).trans k11).free hl12, (p9.keep0 (k11.trans g12)).app (hp2.keep0 g12), ?_, fun q mq => ?_⟩
          · rw [List.length_append, List.length_append, List.length_singleton, Nat.add_mul]
            omega
          · rcases List.mem_append.mp mq with h | h
            · rcases List.mem_append.mp h with h | h
              · exact told q h
              · rw [List.mem_singleton.mp h]
                exact ⟨ok1, by simp, by omega, by rw [wk1]; rfl⟩
            · obtain ⟨t1, t2, t3, t4⟩ := told2 q h
              exact ⟨t1, t2, by omega, t4⟩
        · obtain ⟨k7, lf, ys, ps, o6, rfl, d7, n7, p7, l7, told⟩ := pp
          refine ⟨_, rfl, lf, ys, ps, rfl, SqL.of d7, p7, fun q mq => (told q mq).2.1, fun bs l perm srt hbs hl => ?_⟩
          have g8 : Kp T0 H7 (upd H7 l (.lst (bs.map fun b => V.ref b.1))) := (Kp.refl H7).new hl
          have k07 := k6.trans k7
          refine q _ l _ (bs.map (·.2)) (k07.trans g8) (k07.free hl) upd_same ((ps_of_bs hbs).keep0 g8) (fun q mq => told q (perm.mem_iff.mp mq)) ?_
          have e1 : bs.length = ps.length := by
            have e := perm.length_eq
            rw [List.length_map] at e
            exact e
          rw [List.length_map, e1, ← Paired.length p7]
          refine Nat.le_trans l7 ?_
          show xs.length * (1 + bndL n) ≤ 6 * (1 + bndL n)
          exact Nat.mul_le_mul_right _ (by omega)
end
end Lw
namespace Lw
open PySem L2 Gk
abbrev sLVal : Stmt := topS 43
abbrev sLCont : Stmt := topS 44
/-- a content whose names are the message's fields -/
def FldK (ms : Msgs) (x : Str) (d : PyData) : Prop := ∃ ds, d = .dict ds ∧ ∀ e ∈ ds, ∃ f ∈ fldsOf ms x, e.1 = .str f.1
def spLVal (n : Nat) : Sp := fun vs H Q _ => ∃ (t : Addr) (f v : V) (ms : Msgs) (cs : Cho) (p : Pth) (k : Gk.Kind) (m : Nat), vs = [.ref t, f, v] ∧ TapeAt H t ∧ ForIs H f ms cs ∧ Sch ms ∧ KsOk cs ∧ IsP H v p ∧ OkN p ∧ p.length + m ≤ 100 ∧ walkP ms topK p = some k ∧ m ≤ n ∧ Need ms m k ∧
  ∀ H2 u d, Kp (At t) H H2 → TapeAt H2 t → Dd (Oc H) H2 u d → DrawnD m d → (∀ x, k = [("message" : Str), x] → FldK ms x d) → Q u H2
def spLCont (n : Nat) : Sp := fun vs H Q _ => ∃ (t : Addr) (f v : V) (ms : Msgs) (cs : Cho) (p : Pth) (x : Str) (m : Nat), vs = [.ref t, f, v] ∧ TapeAt H t ∧ ForIs H f ms cs ∧ Sch ms ∧ KsOk cs ∧ IsP H v p ∧ OkN p ∧ p.length + m ≤ 100 ∧ walkP ms topK p = some [("message" : Str), x] ∧ m ≤ n + 1 ∧ Need ms m [("message" : Str), x] ∧
  ∀ H2 u d, Kp (At t) H H2 → TapeAt H2 t → Dd (Oc H) H2 u d → DrawnD m d → FldK ms x d → Q u H2
theorem occ_later {H H2 : Hp} {t : Addr} (k : Kp (At t) H H2) (ta : TapeAt H2 t) {b : Addr} (h : Oc H b) : Oc H2 b := by
  by_cases e : b = t
  · subst e
    exact occ_tape ta _ rfl
  · obtain ⟨o, ho⟩ := Option.ne_none_iff_exists'.mp h
    unfold Oc
    rw [k b o e ho]
    exact fun z => nomatch z
section
variable {P : Program} {w : World} {K : PySem.W.Frag} {mg : Str → Option Value} {base : Heap}
abbrev NLV : List Str := ["tape", "forms", "path", "kind", "found", "name", "worths"]
theorem scLVal : FnScope NLV ["tape", "forms", "path"] (defScope sLVal) := ⟨rfl, rfl, rfl, by decide +kernel, rfl, by decide +kernel, by decide +kernel⟩
theorem ok_lvalS {n0 : Nat} {f fK fO fC : Addr} {fd : FuncData} (F : Fun K "_law_value" "_law_value" sLVal f fd) (DK : Df P w K mg base 1 fK "_law_kind" ["forms", "path"] spLKind) (DO : Df P w K mg base 2 fO "_law_one_of" ["tape", "items"] (spOneOf K))
    (DC : Df P w K mg base (4 + 2 * n0) fC "_law_content" ["tape", "forms", "path"] (spLCont n0)) (DV : Df P w K mg base (3 + 2 * n0) f "_law_value" ["tape", "forms", "path"] (spLVal n0)) : FnOk P w K mg base CX0 (3 + 2 * (n0 + 1)) f fd ["tape", "forms", "path"] (spLVal (n0 + 1)) := by
  have e4 : 3 + 2 * (n0 + 1) = (4 + 2 * n0) + 1 := by omega
  rw [e4]
  refine F.ok scLVal (fun vs H Q E h => ?_) (fun cdv A outer s H vs Q E hr h => ?_)
  · obtain ⟨_, _, _, _, _, _, _, _, rfl, _⟩ := h
    rfl
  · obtain ⟨t, fv, _, ms, cs, p, k, m, rfl, ta, fm, S, kok, ⟨a, rfl, ha⟩, okn, lp, wk, mn, need, q⟩ := h
    have hz : (16777216 : Nat) = PySem.sizeLine := PySem.sizeLine_eq.symm
    have hu := hu_of hr
    have r3 : Room (3 + 2 * n0) _ := hr.mono (by omega)
    have r2 : Room 2 _ := hr.mono (by omega)
    have r1 : Room 1 _ := hr.mono (by omega)
    refine ⟨_, pss_cons (ps_set (i := 3) scLVal.nd rfl (Or.inl rfl) (pe_df DK r1 (by rfl) (pa_cons (pv 1) (pa_cons (pv 2) pa_nil))))
      (pss_cons (ps_if (pt_cmpR op_eq (pe_ix (r := rIx K) ix_seq (pv 3) pe_int (fun _ _ => rfl)) pe_str (nomark _)) (pss_one (ps_ret (pe_df DC hr (by rfl) (pa_cons (pv 0) (pa_cons (pv 1) (pa_cons (pv 2) pa_nil)))))) pss_nil)
      (pss_cons (ps_if (pt_cmpR op_eq (pe_ix (r := rIx K) ix_seq (pv 3) pe_int (fun _ _ => rfl)) pe_str (nomark _))
        (pss_cons (ps_set (i := 4) scLVal.nd rfl (Or.inl rfl) pe_dnewK)
        (pss_cons (ps_for PassesOwn.never rfl (pi_list (pe_df DO r2 (by rfl) (pa_cons (pv 0) (pa_cons (pe_lst (pa_cons (pe_lst (pa_cons pe_str pa_nil)) (pa_cons (pe_lst (pa_cons pe_str pa_nil)) (pa_cons (pe_lst (pa_cons pe_str (pa_cons pe_str pa_nil))) pa_nil)))) pa_nil)))) (pg_name (i := 5) scLVal.nd rfl (Or.inl rfl))
          (pss_one (ps_dput hu (pv 4) (pv 5) (pe_df DV r3 (by rfl) (pa_cons (pv 0) (pa_cons (pv 1) (pa_cons (pe_op op_catA (pv 2) (pe_tup (pa_cons (pv 5) pa_nil))) pa_nil)))) rfl)))
        (pss_one (ps_ret (pv 4))))) pss_nil)
      (pss_cons (ps_set (i := 6) scLVal.nd rfl (Or.inl rfl) (pe_disp (pps_cons pe_str (pe_lst (pa_cons pe_str (pa_cons pe_str (pa_cons pe_str pa_nil)))) (pps_cons pe_str (pe_lst (pa_cons pe_int (pa_cons pe_int (pa_cons pe_int pa_nil)))) (pps_cons pe_str (pe_lst (pa_cons pe_bl (pa_cons pe_bl pa_nil))) pps_nil))) (by rfl) (by rfl) (fun z => by cases z) (by decide)))
      (pss_one (ps_ret (pe_df DO r2 (by rfl) (pa_cons (pv 0) (pa_cons (pe_dget hu (pv 6) (pe_ix (r := rIx K) ix_seq (pv 3) pe_int (fun _ _ => rfl)) (fun _ _ => rfl)) pa_nil)))))))), ?_⟩
    refine ⟨_, rfl, _, rfl, fv, .ref a, ms, cs, p, rfl, fm, S, ⟨a, rfl, ha⟩, by omega, fun x m => (isNm_ok (okn x m)).2, fun H1 r k1 kv => ?_⟩
    rw [wk] at kv
    obtain ⟨rt, rfl, hrt⟩ := kv
    have kok2 : KindOk ms k := walk_ok S (top_ok S) wk
    have ta1 := ta.keep k1
    have fm1 := fm.keep0 k1
    have ha1 := k1.at0 ha
    have later : ∀ {H2 : Hp} {u : V} {d : PyData}, Kp (At t) H1 H2 → TapeAt H2 t → Dd (Oc H1) H2 u d → DrawnD m d → (∀ x, k = [("message" : Str), x] → FldK ms x d) → Q u H2 := fun k2 ta2 dd dr fk => q _ _ _ (k1.wide.trans k2) ta2 (dd.out fun b ob => .inl (occ_later k1.wide ta1 ob)) dr fk
    have l1 : 1 ≤ PySem.sizeLine := by omega
    have l2 : 2 ≤ PySem.sizeLine := by omega
    have l3 : 3 ≤ PySem.sizeLine := by omega
    have kc : (∃ sk : Str, (sk = "text" ∨ sk = "number" ∨ sk = "flag") ∧ k = [sk]) ∨ (∃ x : Str, k = [("message" : Str), x]) ∨ ∃ x : Str, k = [("map" : Str), x] ∧ kindP [x] = true := by
      rcases kinds_are kok2.1 with e | e | e | h | h
      · exact .inl ⟨_, .inl rfl, e⟩
      · exact .inl ⟨_, .inr (.inl rfl), e⟩
      · exact .inl ⟨_, .inr (.inr rfl), e⟩
      · exact .inr (.inl h)
      · exact .inr (.inr h)
    rcases kc with ⟨sk, hs, e⟩ | ⟨x, e⟩ | ⟨x, e, kx⟩
    rotate_left 1
    · subst e
      refine ⟨_, rfl, .inr (.inl ⟨rt, _, 0, .str "message", rfl, rfl, SqT.of hrt, at_0 _ _, rfl, ?_⟩)⟩
      refine ⟨_, rfl, ?_⟩
      rw [decide_eq_true rfl]
      refine iteT ?_
      exact ⟨_, rfl, _, rfl, _, rfl, t, fv, .ref a, ms, cs, p, x, m, rfl, ta1, fm1, S, kok, ⟨a, rfl, ha1⟩, okn, lp, wk, by omega, need, fun H2 u d k2 ta2 dd dr fk => later k2 ta2 dd dr fun y ey => by cases ey; exact fk⟩
    · subst e
      refine ⟨_, rfl, .inr (.inl ⟨rt, _, 0, .str "map", rfl, rfl, SqT.of hrt, at_0 _ _, rfl, ?_⟩)⟩
      refine ⟨_, rfl, ?_⟩
      rw [decide_eq_false (fun z => by injection z with z; exact absurd z (by decide) : ¬ V.str "map" = V.str "message")]
      refine iteF ?_
      refine ⟨_, rfl, .inr (.inl ⟨rt, _, 0, .str "map", rfl, rfl, SqT.of hrt, at_0 _ _, rfl, ?_⟩)⟩
      refine ⟨_, rfl, ?_⟩
      rw [decide_eq_true rfl]
      refine iteT ?_
      have m2 : 2 ≤ m := by
        have h : 2 ≤ m ∨ (1 ≤ m ∧ [("map" : Str), x].length = 1) := need
        rcases h with h | h
        · exact h
        · exact absurd h.2 (by simp)
      obtain ⟨m', rfl⟩ : ∃ m', m = m' + 1 := ⟨m - 1, by omega⟩
      have need1 : Need ms m' [x] := .inr ⟨by omega, rfl⟩
      -- found = {}
      refine fun D0 hD0 => ?_
      have nD : ¬ Oc H1 D0 := fun z => z hD0
      have tD0 : D0 ≠ t := tape_fresh ta1 hD0
      have g2 : Kp T0 H1 (upd H1 D0 (.dK [])) := (Kp.refl H1).new hD0
      have d2 : (upd H1 D0 (.dK [])) D0 = some (.dK []) := upd_same
      have ta2 := ta1.keep g2
      generalize upd H1 D0 (.dK []) = H2 at g2 d2 ta2 ⊢
      -- the names
      refine ⟨_, rfl, l1, fun b1 hb1 => ?_⟩
      have g3 : Kp T0 H2 (upd H2 b1 (.lst [.str "k"])) := (Kp.refl H2).new hb1
      have e3 : (upd H2 b1 (.lst [.str "k"])) b1 = some (.lst [.str "k"]) := upd_same
      generalize upd H2 b1 (.lst [.str "k"]) = H3 at g3 e3 ⊢
      refine ⟨l1, fun b2 hb2 => ?_⟩
      have g4 : Kp T0 H3 (upd H3 b2 (.lst [.str "aa"])) := (Kp.refl H3).new hb2
      have e4 : (upd H3 b2 (.lst [.str "aa"])) b2 = some (.lst [.str "aa"]) := upd_same
      generalize upd H3 b2 (.lst [.str "aa"]) = H4 at g4 e4 ⊢
      refine ⟨l2, fun b3 hb3 => ?_⟩
      have g5 : Kp T0 H4 (upd H4 b3 (.lst [.str "aa", .str "k"])) := (Kp.refl H4).new hb3
      have e5 : (upd H4 b3 (.lst [.str "aa", .str "k"])) b3 = some (.lst [.str "aa", .str "k"]) := upd_same
      generalize upd H4 b3 (.lst [.str "aa", .str "k"]) = H5 at g5 e5 ⊢
      refine ⟨l3, fun b4 hb4 => ?_⟩
      have g6 : Kp T0 H5 (upd H5 b4 (.lst [.ref b1, .ref b2, .ref b3])) := (Kp.refl H5).new hb4
      have e6 : (upd H5 b4 (.lst [.ref b1, .ref b2, .ref b3])) b4 = some (.lst [.ref b1, .ref b2, .ref b3]) := upd_same
      generalize upd H5 b4 (.lst [.ref b1, .ref b2, .ref b3]) = H6 at g6 e6 ⊢
      have k26 : Kp T0 H2 H6 := g3.trans (g4.trans (g5.trans g6))
      have ta6 := ta2.keep k26
      refine ⟨t, b4, [.ref b1, .ref b2, .ref b3], rfl, ta6, SqL.of e6, (by show 1 ≤ 3; decide), (by show 3 ≤ 1048576; decide), fun H7 u7 k7 ta7 mx => ?_⟩
      obtain ⟨lx, nms, rfl, hlx, few, okm⟩ : ∃ lx nms, u7 = .ref lx ∧ H7 lx = some (.lst (List.map V.str nms)) ∧ nms.length ≤ 2 ∧ ∀ y ∈ nms, isNm y = true := by
        have tb : ∀ {b : Addr} {xs : List V}, H6 b = some (.lst xs) → H7 b = some (.lst xs) := fun {b xs} e => k7 b _ (tape_ne ta6 e) e
        simp only [List.mem_cons, List.not_mem_nil, or_false] at mx
        rcases mx with rfl | rfl | rfl
        · exact ⟨b1, ["k"], rfl, tb ((g4.trans (g5.trans g6)).at0 e3), by decide, List.all_eq_true.mp (by decide +kernel)⟩
        · exact ⟨b2, ["aa"], rfl, tb ((g5.trans g6).at0 e4), by decide, List.all_eq_true.mp (by decide +kernel)⟩
        · exact ⟨b3, ["aa", "k"], rfl, tb (g6.at0 e5), by decide, List.all_eq_true.mp (by decide +kernel)⟩
      have k17 : Kp (At t) H1 H7 := (g2.trans k26).wide.trans k7
      have d7 : H7 D0 = some (.dK []) := k7 D0 _ tD0 (k26.at0 d2)
      have nlx : lx ≠ D0 := fun z => by
        rw [z, d7] at hlx
        cases hlx
      refine ⟨lx, rfl, ⟨_, SqL.of hlx⟩, ?_⟩
      refine for_it (walk_list (a := lx) (xs := nms.map V.str)) (fun j st H8 => Kp (At t) H1 H8 ∧ TapeAt H8 t ∧ H8 lx = some (.lst (nms.map V.str)) ∧ ∃ (kvs : List (L2.Key × V)) (ds : List (PyData × PyData)) (o5 : Option V), st = [some (.ref t), some fv, some (.ref a), some (.ref rt), some (.ref D0), o5, none] ∧ H8 D0 = some (.dK kvs) ∧
          DdK (fun b => Oc H1 b ∨ b = D0) H8 kvs ds ∧ ds.length ≤ j ∧ ∀ e ∈ ds, (∃ n, e.1 = .str n ∧ isNm n = true) ∧ DrawnD m' e.2)
        ⟨k17, ta7, hlx, [], [], none, rfl, d7, .nil, Nat.le_refl _, (fun _ m => nomatch m)⟩ (fun j st H8 _ p8 => SqL.of p8.2.2.1) (fun j y st H8 H9 hj p8 y8 => ?_) (fun st H8 p8 => ?_)
      · obtain ⟨k8, ta8, l8, kvs, ds, o5, rfl, d8, r8, few8, each8⟩ := p8
        obtain ⟨rfl, sx⟩ := y8
        rw [List.getElem?_map] at sx
        cases ey : nms[j]? with
        | none =>
          rw [ey] at sx
          cases sx
        | some y =>
        rw [ey] at sx
        cases Option.some.inj sx
        have ny := okm y (List.mem_of_getElem? ey)
        have hj2 : j < nms.length := by rwa [List.length_map] at hj
        have ha8 : H9 a = some (.tup (p.map V.str)) := k8 a _ (tape_tup ta1 ha1) ha1
        refine ⟨_, rfl, _, rfl, _, rfl, _, rfl, l1, fun t2 ht2 => ?_⟩
        have g9 : Kp T0 H9 (upd H9 t2 (.tup [.str y])) := (Kp.refl H9).new ht2
        refine rd_cat2 (p := p) (q := [y]) ⟨a, rfl, g9.at0 ha8⟩ ⟨t2, rfl, upd_same⟩ (by show p.length + 1 ≤ 1000; omega) fun w2 H10 k10 iw => ?_
        have k910 := g9.trans k10
        have ta10 := ta8.keep k910
        have ll : (p ++ [y]).length = p.length + 1 := by rw [List.length_append]; rfl
        refine ⟨t, fv, w2, ms, cs, p ++ [y], [x], m', rfl, ta10, fm1.tape (k8.trans k910.wide) ta1, S, kok, iw, fun z mz => ?_, by omega, ?_, by omega, need1, fun H11 u d k11 ta11 dd dr _ => ?_⟩
        · rcases List.mem_append.mp mz with h | h
          · exact okn z h
          · rw [List.mem_singleton.mp h]
            exact ny
        · rw [walk_snoc, wk]
          exact step_map ms x y
        have k811 : Kp (At t) H9 H11 := k910.wide.trans k11
        have d11 : H11 D0 = some (.dK kvs) := k11 D0 _ tD0 (k910.at0 d8)
        have l11 : H11 lx = some (.lst (nms.map V.str)) := k811 lx _ (tape_ne ta8 l8) l8
        have lk : kvs.length = ds.length := ddk_len r8
        refine ⟨_, rfl, _, rfl, D0, _, rfl, .inl ⟨kvs, .inr y, d11, rfl, by omega, rfl⟩, ?_⟩
        have oc9 : ∀ b, (Oc H1 b ∨ b = D0) → Oc H10 b := fun b h => by
          rcases h with h | h
          · exact occ_later (k8.trans k910.wide) ta10 h
          · unfold Oc
            rw [h, k910.at0 d8]
            exact fun z => nomatch z
        have dd2 : Dd (fun b => Oc H1 b ∨ b = D0) H11 u d := dd.out fun b h => .inl (oc9 b h)
        have kT : Kp (fun b => Oc H1 b ∨ b = D0) H9 H11 := fun b o n e => k811 b o (fun z => n (.inl (by rw [show b = t from z]; exact occ_tape ta1 _ rfl))) e
        obtain ⟨ds2, r2, mem2, len2⟩ := ddk_put (k := .inr y) dd2 (DdK.keep kT r8)
        have kP : Kp (fun b => Oc H1 b ∨ b = D0) H11 (upd H11 D0 (.dK (putK kvs (.inr y) u))) := (Kp.refl _).put (.inr rfl)
        refine ⟨(k8.trans k811).over hD0, ta11.over tD0, by rw [upd_ne nlx]; exact l11, _, ds2, _, rfl, upd_same, DdK.keep kP r2, by omega, fun e me => ?_⟩
        rcases mem2 e me with h | h
        · exact each8 e h
        · subst h
          exact ⟨⟨y, rfl, ny⟩, dr⟩
      · obtain ⟨k8, ta8, l8, kvs, ds, o5, rfl, d8, r8, few8, each8⟩ := p8
        rw [List.length_map] at few8
        exact ⟨_, rfl, later k8 ta8 (.dict nD d8 (r8.out fun b h => .inl (.inl h))) (.inr ⟨ds, rfl, by omega, each8⟩) fun y ey => by cases ey⟩
    subst e
    have m1 : 1 ≤ m := by
      have h : Need ms m [sk] := need
      have h : 2 ≤ m ∨ (1 ≤ m ∧ [sk].length = 1) := h
      omega
    obtain ⟨m', rfl⟩ : ∃ m', m = m' + 1 := ⟨m - 1, by omega⟩
    refine ⟨_, rfl, .inr (.inl ⟨rt, _, 0, .str sk, rfl, rfl, SqT.of hrt, at_0 _ _, rfl, ?_⟩)⟩
    refine ⟨_, rfl, ?_⟩
    rw [decide_eq_false (fun z => by injection z with z; rcases hs with h | h | h <;> (rw [h] at z; exact absurd z (by decide)) : ¬ V.str sk = V.str "message")]
    refine iteF ?_
    refine ⟨_, rfl, .inr (.inl ⟨rt, _, 0, .str sk, rfl, rfl, SqT.of hrt, at_0 _ _, rfl, ?_⟩)⟩
    refine ⟨_, rfl, ?_⟩
    rw [decide_eq_false (fun z => by injection z with z; rcases hs with h | h | h <;> (rw [h] at z; exact absurd z (by decide)) : ¬ V.str sk = V.str "map")]
    refine iteF ?_
    -- worths
    refine fun p0 hp0 => ?_
    have e0 : (upd H1 p0 (.dK [])) p0 = some (.dK []) := upd_same
    have g0 : Kp T0 H1 (upd H1 p0 (.dK [])) := (Kp.refl H1).new hp0
    generalize eG : upd H1 p0 (.dK []) = G0 at e0 g0 ⊢
    refine ⟨l3, fun b1 hb1 => ?_⟩
    have g1 : Kp T0 G0 (upd G0 b1 (.lst [.str "", .str "a", .str "b"])) := (Kp.refl G0).new hb1
    have e1 : (upd G0 b1 (.lst [.str "", .str "a", .str "b"])) b1 = some (.lst [.str "", .str "a", .str "b"]) := upd_same
    generalize upd G0 b1 (.lst [.str "", .str "a", .str "b"]) = G1 at g1 e1 ⊢
    refine ⟨l3, fun b2 hb2 => ?_⟩
    have g2 : Kp T0 G1 (upd G1 b2 (.lst [.int 0, .int 1, .int 7])) := (Kp.refl G1).new hb2
    have e2 : (upd G1 b2 (.lst [.int 0, .int 1, .int 7])) b2 = some (.lst [.int 0, .int 1, .int 7]) := upd_same
    generalize upd G1 b2 (.lst [.int 0, .int 1, .int 7]) = G2 at g2 e2 ⊢
    refine ⟨l2, fun b3 hb3 => ?_⟩
    have g3 : Kp T0 G2 (upd G2 b3 (.lst [.bl true, .bl false])) := (Kp.refl G2).new hb3
    have e3 : (upd G2 b3 (.lst [.bl true, .bl false])) b3 = some (.lst [.bl true, .bl false]) := upd_same
    generalize upd G2 b3 (.lst [.bl true, .bl false]) = G3 at g3 e3 ⊢
    have k03 : Kp T0 G0 G3 := g1.trans (g2.trans g3)
    refine ⟨k03.at0 e0, [(.inr "text", .ref b1), (.inr "number", .ref b2), (.inr "flag", .ref b3)], rfl, by show 3 ≤ 15; decide, ?_⟩
    rw [show mergeK [] [((.inr "text" : L2.Key), V.ref b1), (.inr "number", .ref b2), (.inr "flag", .ref b3)] = [(.inr "text", .ref b1), (.inr "number", .ref b2), (.inr "flag", .ref b3)] from rfl]
    have hrt3 := (g0.trans k03).at0 hrt
    have np : ∀ {b : Addr} {o : HO}, G3 b = some o → (∀ kvs, o ≠ .dK kvs) → b ≠ p0 := fun {b o} hb ne z => by
      rw [z, k03.at0 e0] at hb
      exact ne _ (Option.some.inj hb).symm
    have x1 : (upd G3 p0 (.dK [(.inr "text", .ref b1), (.inr "number", .ref b2), (.inr "flag", .ref b3)])) b1 = some (.lst [.str "", .str "a", .str "b"]) := by
      have z := (g2.trans g3).at0 e1
      rw [upd_ne (np z fun _ q => nomatch q)]
      exact z
    have x2 : (upd G3 p0 (.dK [(.inr "text", .ref b1), (.inr "number", .ref b2), (.inr "flag", .ref b3)])) b2 = some (.lst [.int 0, .int 1, .int 7]) := by
      have z := g3.at0 e2
      rw [upd_ne (np z fun _ q => nomatch q)]
      exact z
    have x3 : (upd G3 p0 (.dK [(.inr "text", .ref b1), (.inr "number", .ref b2), (.inr "flag", .ref b3)])) b3 = some (.lst [.bl true, .bl false]) := by
      rw [upd_ne (np e3 fun _ q => nomatch q)]
      exact e3
    have x4 : (upd G3 p0 (.dK [(.inr "text", .ref b1), (.inr "number", .ref b2), (.inr "flag", .ref b3)])) rt = some (.tup ([sk].map V.str)) := by
      rw [upd_ne (np hrt3 fun _ q => nomatch q)]
      exact hrt3
    have x5 : (upd G3 p0 (.dK [(.inr "text", .ref b1), (.inr "number", .ref b2), (.inr "flag", .ref b3)])) p0 = some (.dK [(.inr "text", .ref b1), (.inr "number", .ref b2), (.inr "flag", .ref b3)]) := upd_same
    have k1F : Kp T0 H1 (upd G3 p0 (.dK [(.inr "text", .ref b1), (.inr "number", .ref b2), (.inr "flag", .ref b3)])) := (g0.trans k03).over hp0
    generalize upd G3 p0 (.dK [(.inr "text", .ref b1), (.inr "number", .ref b2), (.inr "flag", .ref b3)]) = F at x1 x2 x3 x4 x5 k1F ⊢
    have taF := ta1.keep k1F
    obtain ⟨lb, xs, vb, hb, lx, lx2, each⟩ : ∃ lb xs, valV [((.inr "text" : L2.Key), V.ref b1), (.inr "number", .ref b2), (.inr "flag", .ref b3)] (.inr sk) = some (.ref lb) ∧ F lb = some (.lst xs) ∧ 1 ≤ xs.length ∧ xs.length ≤ 1048576 ∧ ∀ x ∈ xs, ∃ d, Sc x d ∧ d ∈ leaves := by
      rcases hs with rfl | rfl | rfl
      · refine ⟨b1, _, rfl, x1, by decide, by decide, fun x m => ?_⟩
        simp only [List.mem_cons, List.not_mem_nil, or_false] at m
        rcases m with rfl | rfl | rfl
        · exact ⟨_, .str _, by simp [leaves]⟩
        · exact ⟨_, .str _, by simp [leaves]⟩
        · exact ⟨_, .str _, by simp [leaves]⟩
      · refine ⟨b2, _, rfl, x2, by decide, by decide, fun x m => ?_⟩
        simp only [List.mem_cons, List.not_mem_nil, or_false] at m
        rcases m with rfl | rfl | rfl
        · exact ⟨_, .int _, by simp [leaves]⟩
        · exact ⟨_, .int _, by simp [leaves]⟩
        · exact ⟨_, .int _, by simp [leaves]⟩
      · refine ⟨b3, _, rfl, x3, by decide, by decide, fun x m => ?_⟩
        simp only [List.mem_cons, List.not_mem_nil, or_false] at m
        rcases m with rfl | rfl
        · exact ⟨_, .bl _, by simp [leaves]⟩
        · exact ⟨_, .bl _, by simp [leaves]⟩
    refine ⟨_, rfl, _, rfl, _, rfl, .inr (.inl ⟨rt, _, 0, .str sk, rfl, rfl, SqT.of x4, at_0 _ _, p0, _, rfl, .inl ⟨_, .inr sk, .inl x5, rfl, vb.symm⟩, t, lb, xs, rfl, taF, SqL.of hb, lx, lx2, fun H2 x k2 ta2 mx => ?_⟩)⟩
    obtain ⟨d, sc, ml⟩ := each x mx
    exact later (k1F.wide.trans k2) ta2 (.sc sc) (.inl ml) fun y ey => by cases ey
abbrev NLC : List Str := ["tape", "forms", "path", "found", "name", "one", "mates", "mate"]
theorem scLCont : FnScope NLC ["tape", "forms", "path"] (defScope sLCont) := ⟨rfl, rfl, rfl, by decide +kernel, rfl, by decide +kernel, by decide +kernel⟩
theorem ok_lcont {n0 : Nat} {f fK fM fP fV : Addr} {fd : FuncData} (F : Fun K "_law_content" "_law_content" sLCont f fd) (zs : mg "sorted" = none) (DK : Df P w K mg base 1 fK "_law_kind" ["forms", "path"] spLKind) (DM : Df P w K mg base 2 fM "_law_mates" ["forms", "path"] spLMates) (DP : Df P w K mg base 1 fP "_law_pick" ["tape", "many"] spPick)
    (DV : Df P w K mg base (3 + 2 * n0) fV "_law_value" ["tape", "forms", "path"] (spLVal n0)) : FnOk P w K mg base CX0 (4 + 2 * n0) f fd ["tape", "forms", "path"] (spLCont n0) := by
  have e4 : 4 + 2 * n0 = (3 + 2 * n0) + 1 := by omega
  rw [e4]
  refine F.ok scLCont (fun vs H Q E h => ?_) (fun cdv A outer s H vs Q E hr h => ?_)
  · obtain ⟨_, _, _, _, _, _, _, _, rfl, _⟩ := h
    rfl
  · obtain ⟨t, fv, _, ms, cs, p, x, m, rfl, ta, fm, S, kok, ⟨a, rfl, ha⟩, okn, lp, wk, mn, need, q⟩ := h
    have hz : (16777216 : Nat) = PySem.sizeLine := PySem.sizeLine_eq.symm
    have hu := hu_of hr
    have r2 : Room 2 _ := hr.mono (by omega)
    have r1 : Room 1 _ := hr.mono (by omega)
    refine ⟨_, pss_cons (ps_set (i := 3) scLCont.nd rfl (Or.inr rfl) pe_dnewK)
      (pss_cons (ps_for PassesOwn.never rfl (pi_list (pe_callB (call_sortedD rfl) (by rfl) zs (by decide +kernel) (pa_cons (pe_dget hu (pe_ix (r := rIx K) ix_seq (pv 1) pe_int (fun _ _ => rfl)) (pe_ix (r := rIx K) ix_seq (pe_df DK r1 (by rfl) (pa_cons (pv 1) (pa_cons (pv 2) pa_nil))) pe_int (fun _ _ => rfl)) (fun _ _ => rfl)) pa_nil))) (pg_name (i := 4) scLCont.nd rfl (Or.inl rfl))
        (pss_cons (ps_set (i := 5) scLCont.nd rfl (Or.inl rfl) (pe_op op_catA (pv 2) (pe_tup (pa_cons (pv 4) pa_nil))))
        (pss_cons (ps_setLc (i := 6) (own := [("mate", 7)]) (g := gName 7) (tt := tTest (tDIn (tOp (rIx K) (tVar 7) (tUn (rU fun i => .int (-i)) (tC (.int 1)))) (tVar 3))) (te := tVar 7) rfl scLCont.nd rfl rfl (sw_true rfl rfl rfl (by decide +kernel)) (pi_list (pe_df DM r2 (by rfl) (pa_cons (pv 1) (pa_cons (pv 5) pa_nil))))
            (blkOk_by (N := NLC) (sc := defScope sLCont) (by decide +kernel)) (fun _ _ _ _ _ => pg_name (i := 7) scLCont.nd rfl (Or.inl rfl))
            (fun _ _ _ _ _ => pts_one (pt_cmp (pc_din hu (pe_ix (r := rIx K) ix_seq (pv 7) (pe_un un_neg pe_int) (fun _ _ => rfl)) (pv 3)))) (fun _ _ _ _ _ => pv 7))
        (pss_one (ps_if (PW.pt (pw_and (pt_cmpR op_eq (pe_df DP r1 (by rfl) (pa_cons (pv 0) (pa_cons pe_int pa_nil))) pe_int (nomark _)) (pw_and1 (pt_cmpR (op_eqL0 (Nat.lt_of_succ_lt hu)) (pv 6) (pe_lst pa_nil) (nomark _)))))
          (pss_one (ps_dput hu (pv 3) (pv 4) (pe_df DV hr (by rfl) (pa_cons (pv 0) (pa_cons (pv 1) (pa_cons (pv 5) pa_nil)))) rfl)) pss_nil)))))
      (pss_one (ps_ret (pv 3)))), ?_⟩
    have l1 : 1 ≤ PySem.sizeLine := by omega
    obtain ⟨m', rfl⟩ : ∃ m', m = m' + 1 := by
      have h : 3 ≤ m ∧ _ := need
      exact ⟨m - 1, by omega⟩
    have kx : KindOk ms [("message" : Str), x] := walk_ok S (top_ok S) wk
    have hx := kx.2 x rfl
    refine fun D0 hD0 => ?_
    have nD : ¬ Oc H D0 := fun z => z hD0
    have tD0 : D0 ≠ t := tape_fresh ta hD0
    have g2 : Kp T0 H (upd H D0 (.dK [])) := (Kp.refl H).new hD0
    have d2 : (upd H D0 (.dK [])) D0 = some (.dK []) := upd_same
    have ta2 := ta.keep g2
    have fm2 := fm.keep0 g2
    have ha2 := g2.at0 ha
    generalize upd H D0 (.dK []) = H2 at g2 d2 ta2 fm2 ha2 ⊢
    obtain ⟨ft, ma, ca, rfl, hft, _, ⟨ma2, mk, ema, hma, pm⟩, _⟩ := forIs_at fm2
    cases ema
    rcases ent_find x pm with ⟨e1, _⟩ | ⟨fs1, vF, e1, e2, isF⟩
    · rw [e1] at hx
      cases hx
    have ef1 : fldsOf ms x = fs1 := by
      unfold fldsOf
      rw [e1]
      rfl
    rw [← ef1] at isF
    have fform : formP (fldsOf ms x) = true := by
      rw [ef1]
      exact S.forms _ (lookup_mem e1)
    have f6 : (fldsOf ms x).length ≤ 6 := by
      unfold formP at fform
      rw [Bool.and_eq_true] at fform
      exact of_decide_eq_true fform.1
    have fnd : ((fldsOf ms x).map (·.1)).Nodup := by
      rw [ef1]
      exact (S.mok.2.2 _ (lookup_mem e1)).2.2.1
    refine ⟨_, rfl, .inr (.inl ⟨ft, _, 0, .ref ma, rfl, rfl, SqT.of hft, at_0 _ _, ?_⟩)⟩
    refine ⟨_, rfl, _, rfl, .ref ft, .ref a, ms, cs, p, rfl, fm2, S, ⟨a, rfl, ha2⟩, by omega, fun y my => (isNm_ok (okn y my)).2, fun H3 r3 k3 kv => ?_⟩
    rw [wk] at kv
    obtain ⟨rt, rfl, hrt⟩ := kv
    obtain ⟨aF, kF, rfl, hF, pF⟩ := isF.keep0 k3
    refine .inr (.inl ⟨rt, _, 1, .str x, rfl, rfl, SqT.of hrt, at_1 _ _ _, ma, _, rfl, .inl ⟨mk, .inr x, .inl (k3.at0 hma), rfl, e2.symm⟩, aF, kF, (fldsOf ms x).map (·.1), rfl, .inl hF, ent_keys pF, (by rw [List.length_map]; omega), fun ys ln perm srt hln => ?_⟩)
    have g4 : Kp T0 H3 (upd H3 ln (.lst (ys.map V.str))) := (Kp.refl H3).new hln
    have e4 : (upd H3 ln (.lst (ys.map V.str))) ln = some (.lst (ys.map V.str)) := upd_same
    generalize upd H3 ln (.lst (ys.map V.str)) = H4 at g4 e4 ⊢
    have k24 := k3.trans g4
    have d4 := k24.at0 d2
    have ta4 := ta2.keep k24
    have fm4 := fm2.keep0 k24
    have ha4 := k24.at0 ha2
    have k04 := g2.trans k24
    have nln : ln ≠ D0 := fun z => by
      rw [z, d4] at e4
      cases e4
    have yl : ys.length ≤ 6 := by
      have := perm.length_eq
      rw [List.length_map] at this
      omega
    refine ⟨ln, rfl, ⟨_, SqL.of e4⟩, ?_⟩
    refine for_it (walk_list (a := ln) (xs := ys.map V.str)) (fun j st H8 => Kp (At t) H H8 ∧ TapeAt H8 t ∧ H8 ln = some (.lst (ys.map V.str)) ∧ ∃ (kvs : List (L2.Key × V)) (ds : List (PyData × PyData)) (o4 o5 o6 : Option V), st = [some (.ref t), some (.ref ft), some (.ref a), some (.ref D0), o4, o5, o6, none] ∧ H8 D0 = some (.dK kvs) ∧
        DdK (fun b => Oc H b ∨ b = D0) H8 kvs ds ∧ ds.length ≤ j ∧ (∀ e ∈ ds, (∃ n, e.1 = .str n ∧ isNm n = true) ∧ DrawnD m' e.2) ∧ ∀ e ∈ ds, ∃ f ∈ fldsOf ms x, e.1 = .str f.1)
      ⟨k04.wide, ta4, e4, [], [], none, none, none, rfl, d4, .nil, Nat.le_refl _, (fun _ m => nomatch m), (fun _ m => nomatch m)⟩ (fun j st H8 _ p8 => SqL.of p8.2.2.1) (fun j y st H8 H9 hj p8 y8 => ?_) (fun st H8 p8 => ?_)
    rotate_left
    · obtain ⟨k8, ta8, l8, kvs, ds, o4, o5, o6, rfl, d8, r8, few8, each8, fld8⟩ := p8
      rw [List.length_map] at few8
      exact ⟨_, rfl, q _ _ _ k8 ta8 (.dict nD d8 (r8.out fun b h => .inl (.inl h))) (.inr ⟨ds, rfl, by omega, each8⟩) ⟨ds, rfl, fld8⟩⟩
    obtain ⟨k8, ta8, l8, kvs, ds, o4, o5, o6, rfl, d8, r8, few8, each8, fld8⟩ := p8
    obtain ⟨rfl, sx⟩ := y8
    rw [List.getElem?_map] at sx
    cases ey : ys[j]? with
    | none =>
      rw [ey] at sx
      cases sx
    | some y =>
    rw [ey] at sx
    cases Option.some.inj sx
    have hj2 : j < ys.length := by rwa [List.length_map] at hj
    obtain ⟨f, mf, rfl⟩ := List.mem_map.mp (perm.mem_iff.mp (List.mem_of_getElem? ey))
    have ny := (form_kinds fform f mf).1
    have stp : stepP ms [("message" : Str), x] f.1 = some f.2 := by
      rw [step_msg]
      exact lookup_of fnd mf
    have need2 : Need ms m' f.2 := need_field S rfl need mf
    have ha8 : H9 a = some (.tup (p.map V.str)) := k8 a _ (tape_tup ta ha) ha
    have lk : kvs.length = ds.length := ddk_len r8
    -- one
    refine ⟨_, rfl, _, rfl, l1, fun t2 ht2 => ?_⟩
    have g9 : Kp T0 H9 (upd H9 t2 (.tup [.str f.1])) := (Kp.refl H9).new ht2
    refine rd_cat2 (p := p) (q := [f.1]) ⟨a, rfl, g9.at0 ha8⟩ ⟨t2, rfl, upd_same⟩ (by show p.length + 1 ≤ 1000; omega) fun w2 H10 k10 iw => ?_
    have k910 := g9.trans k10
    have ta10 := ta8.keep k910
    have fm10 := fm.tape (k8.trans k910.wide) ta
    -- mates
    refine ⟨_, rfl, _, rfl, .ref ft, w2, ms, cs, p, f.1, [("message" : Str), x], rfl, fm10, S, kok, iw, by omega, fun z mz => (isNm_ok (okn z mz)).2, wk, fun H11 r11 ys11 k11 hr11 dr11 hp11 => ⟨r11, rfl, ⟨_, SqL.of dr11⟩, fun D hD => ?_⟩⟩
    have d11 := (k910.trans k11).at0 d8
    have few11 : ys11.length < PySem.sizeLine := by
      rw [Paired.length hp11]
      have z := mates_len (fun c mc => ((rows_small kok (msgOf [("message" : Str), x])).2 c mc).1) p f.1
      have z1 := (rows_small kok (msgOf [("message" : Str), x])).1
      have z2 : (mateRows cs (msgOf [("message" : Str), x])).length * 64 ≤ 64 * 64 := Nat.mul_le_mul_right _ (Nat.le_of_lt z1)
      omega
    refine lc_kp (T := T0) (walk_list (a := r11) (xs := ys11)) (i0 := 7) (fun i v => ys11[i]? = some v) (fun i zs Ha => True) (fun _ _ _ _ _ y => y) hD id few11 (wipe1 _ 7) (fun H5 k5 => SqL.of (k5.at0 dr11)) trivial
      (fun i v zs H5 Ky Kn hi sx k5 d5 pz ky kn => ?_) (fun zs H5 k5 d5 lz pz => ?_)
    · obtain ⟨mp, hmp, imp⟩ := Ps.get hp11 sx
      obtain ⟨g, rfl⟩ : ∃ g, mp = p ++ [g] := by
        have mm := List.mem_of_getElem? hmp
        unfold matesOf at mm
        obtain ⟨c, _, hc⟩ := List.mem_flatMap.mp mm
        obtain ⟨g, _, e⟩ := List.mem_map.mp hc
        exact ⟨g, e.symm⟩
      obtain ⟨am, rfl, ham⟩ := imp.keep0 k5
      rw [List.map_append] at ham
      refine ⟨_, rfl, _, rfl, .inr (.inl ⟨am, _, -1, .str g, rfl, rfl, SqT.of ham, at_last _ _, _, rfl, D0, valV kvs (.inr g), rfl, .inl ⟨kvs, .inr g, .inl (k5.at0 d11), rfl, rfl⟩, _, rfl, ?_⟩)⟩
      cases (valV kvs (.inr g)).isSome with
      | true => exact iteT ⟨_, rfl, ky _ _ (Kp.refl _) trivial⟩
      | false => exact iteF (kn _ (Kp.refl _) trivial)
    have k912 : Kp T0 H9 H5 := k910.trans (k11.trans k5)
    have ta12 := ta8.keep k912
    -- if _law_pick(tape, 3) == 0 and mates == []
    refine ⟨_, rfl, t, 3, rfl, ta12, by decide, by decide, fun H13 r13 k13 ta13 r0 r3 => ⟨rfl, _, rfl, ?_⟩⟩
    have k913 : Kp (At t) H9 H13 := k912.wide.trans k13
    have d13 : H13 D0 = some (.dK kvs) := k913 D0 _ tD0 d8
    have l13 : H13 ln = some (.lst (ys.map V.str)) := k913 ln _ (tape_ne ta8 l8) l8
    have kT : ∀ {Ha Hb : Hp}, Kp (At t) Ha Hb → Kp (fun b => Oc H b ∨ b = D0) Ha Hb := fun k b o n e => k b o (fun z => n (.inl (by rw [show b = t from z]; exact occ_tape ta _ rfl))) e
    have r13' : DdK (fun b => Oc H b ∨ b = D0) H13 kvs ds := DdK.keep (kT k913) r8
    cases decide (V.int r13 = V.int 0) with
    | false => exact iteF (iteF ⟨k8.trans k913, ta13, l13, kvs, ds, _, _, _, rfl, d13, r13', by omega, each8, fld8⟩)
    | true =>
    refine iteT ?_
    refine ⟨_, rfl, Nat.zero_le _, fun b14 hb14 => ?_⟩
    have tDD : D ≠ t := fun z => by
      have hh := (ta8.keep (k910.trans k11))
      obtain ⟨_, _, et, _⟩ := hh
      rw [z, et] at hD
      cases hD
    have g14 : Kp T0 H13 (upd H13 b14 (.lst [])) := (Kp.refl H13).new hb14
    refine ⟨D, b14, zs, rfl, rfl, g14.at0 (k13 D _ tDD d5), upd_same, _, rfl, ?_⟩
    have k914 : Kp (At t) H9 (upd H13 b14 (.lst [])) := k913.trans g14.wide
    have ta14 := ta13.keep g14
    have d14 := g14.at0 d13
    have l14 := g14.at0 l13
    have r14 := DdK.keep (kT g14.wide) r13'
    have iw14 := (((iw.keep0 k11).keep0 k5).tape k13 ta12).keep0 g14
    generalize upd H13 b14 (.lst []) = G at k914 ta14 d14 l14 r14 iw14 ⊢
    cases zs.isEmpty with
    | false => exact iteF ⟨k8.trans k914, ta14, l14, kvs, ds, _, _, _, rfl, d14, r14, by omega, each8, fld8⟩
    | true =>
    refine iteT ?_
    have ll : (p ++ [f.1]).length = p.length + 1 := by rw [List.length_append]; rfl
    refine ⟨_, rfl, _, rfl, _, rfl, t, .ref ft, w2, ms, cs, p ++ [f.1], f.2, m', rfl, ta14, fm.tape (k8.trans k914) ta, S, kok, iw14, fun z mz => ?_, by omega, ?_, by omega, need2, fun H15 u d k15 ta15 dd dr _ => ?_⟩
    · rcases List.mem_append.mp mz with h | h
      · exact okn z h
      · rw [List.mem_singleton.mp h]
        exact ny
    · rw [walk_snoc, wk]
      exact stp
    have d15 : H15 D0 = some (.dK kvs) := k15 D0 _ tD0 d14
    have l15 : H15 ln = some (.lst (ys.map V.str)) := k15 ln _ (tape_ne ta14 l14) l14
    refine ⟨_, rfl, _, rfl, D0, _, rfl, .inl ⟨kvs, .inr f.1, d15, rfl, by omega, rfl⟩, ?_⟩
    have ocG : ∀ b, (Oc H b ∨ b = D0) → Oc G b := fun b h => by
      rcases h with h | h
      · exact occ_later (k8.trans k914) ta14 h
      · unfold Oc
        rw [h, d14]
        exact fun z => nomatch z
    have dd2 : Dd (fun b => Oc H b ∨ b = D0) H15 u d := dd.out fun b h => .inl (ocG b h)
    obtain ⟨ds2, r2, mem2, len2⟩ := ddk_put (k := .inr f.1) dd2 (DdK.keep (kT k15) r14)
    have kP : Kp (fun b => Oc H b ∨ b = D0) H15 (upd H15 D0 (.dK (putK kvs (.inr f.1) u))) := (Kp.refl _).put (.inr rfl)
    refine ⟨((k8.trans k914).trans k15).over hD0, ta15.over tD0, by rw [upd_ne nln]; exact l15, _, ds2, _, _, _, rfl, upd_same, DdK.keep kP r2, by omega, fun e me => ?_, fun e me => ?_⟩
    · rcases mem2 e me with h | h
      · exact each8 e h
      · subst h
        exact ⟨⟨f.1, rfl, ny⟩, dr⟩
    · rcases mem2 e me with h | h
      · exact fld8 e h
      · subst h
        exact ⟨f, mf, rfl⟩
theorem ok_lvals {f fK fO fM fP fC : Addr} {fd fdC : FuncData} (F : Fun K "_law_value" "_law_value" sLVal f fd) (FC : Fun K "_law_content" "_law_content" sLCont fC fdC) (zs : mg "sorted" = none) (DK : Df P w K mg base 1 fK "_law_kind" ["forms", "path"] spLKind) (DO : Df P w K mg base 2 fO "_law_one_of" ["tape", "items"] (spOneOf K))
    (DM : Df P w K mg base 2 fM "_law_mates" ["forms", "path"] spLMates) (DP : Df P w K mg base 1 fP "_law_pick" ["tape", "many"] spPick)
    (b : Binds K fd ["tape", "forms", "path"] []) (mgf : mg "_law_value" = some (.ref f)) (kf : PySem.W.keepIn K (.ref f) = true) (bC : Binds K fdC ["tape", "forms", "path"] []) (mgC : mg "_law_content" = some (.ref fC)) (kC : PySem.W.keepIn K (.ref fC) = true) :
    ∀ n, FnOk P w K mg base CX0 (3 + 2 * n) f fd ["tape", "forms", "path"] (spLVal n) ∧ FnOk P w K mg base CX0 (4 + 2 * n) fC fdC ["tape", "forms", "path"] (spLCont n)
  | 0 => by
    have h0 : FnOk P w K mg base CX0 (3 + 2 * 0) f fd ["tape", "forms", "path"] (spLVal 0) := fn_none fun vs H Q E h => by
      obtain ⟨_, _, _, ms, _, _, k, m, _, _, _, _, _, _, _, _, _, lt, nd, _⟩ := h
      obtain rfl : m = 0 := Nat.le_zero.mp lt
      unfold Need at nd
      split at nd
      · exact absurd nd.1 (by decide)
      · omega
    exact ⟨h0, ok_lcont FC zs DK DM DP ⟨⟨_, h0, b⟩, mgf, kf⟩⟩
  | n + 1 => by
    obtain ⟨h1, h2⟩ := ok_lvals F FC zs DK DO DM DP b mgf kf bC mgC kC n
    have h3 := ok_lvalS F DK DO ⟨⟨_, h2, bC⟩, mgC, kC⟩ ⟨⟨_, h1, b⟩, mgf, kf⟩
    exact ⟨h3, ok_lcont FC zs DK DM DP ⟨⟨_, h3, b⟩, mgf, kf⟩⟩
end
end Lw
/-! Gk64: signs; a law's own reading of values. -/
namespace Gk
open PySem PySem.Spec PyProof.Rows L2
def sgn2 (c : Nat) : Bool := decide (97 ≤ c) && decide (c ≤ 122)
theorem sgn2_let : ∀ c, decide (c ∈ LET.cps.toList) = sgn2 c := by
  intro c
  by_cases h : c < 128
  · have all : ∀ c < 128, decide (c ∈ LET.cps.toList) = sgn2 c := by decide +kernel
    exact all c h
  · have n : ¬ c ∈ LET.cps.toList := fun m => h (let_small c m)
    rw [decide_eq_false n]
    unfold sgn2
    rw [decide_eq_false (by omega : ¬ c ≤ 122), Bool.and_false]
theorem isLet_sgn2 (x : Str) (lo hi : Int) : isLet x lo hi = (decide (lo ≤ (x.length : Int)) && decide ((x.length : Int) ≤ hi) && x.cps.toList.all sgn2) := by
  unfold isLet
  congr 1
  congr 1
  exact funext sgn2_let
theorem lt1s (a c : Nat) : decide (([c] : List Nat) < [a]) = decide (c < a) := by
  refine decide_eq_decide.mpr ?_
  rw [List.cons_lt_cons_iff]
  constructor
  · rintro (h | ⟨_, h⟩)
    · exact h
    · cases h
  · exact fun h => .inl h
abbrev sg2 (c : Nat) : Str := ⟨#[c]⟩
def letK (lo hi : Int) : Kd → Bool
  | .s x => isLet x lo hi
  | _ => false
def spLLet (K : PySem.W.Frag) : Sp := fun vs H Q _ => ∃ (v : V) (kd : Kd) (lo hi : Int), vs = [v, .int lo, .int hi] ∧ KdAt K H v kd ∧ ∀ H2, Kp T0 H H2 → Q (.bl (letK lo hi kd)) H2
/-! ### keys of dicts are distinct -/
def HNod (H : Hp) : Prop := ∀ (a : Addr) (kvs : List (L2.Key × V)), Rd H a (.dK kvs) → (kvs.map (·.1)).Nodup
theorem kv_keys {kvs : List (L2.Key × V)} {vs : List (L2.Key × Value)} (h : KV kvs vs) : vs.map (·.1) = kvs.map (·.1) := by
  unfold KV at h
  induction h with
  | nil => rfl
  | cons a _ ih => rw [List.map_cons, List.map_cons, ih, a.1]
theorem nod_of {X : Cx} {pins : List (Addr × Obj)} {σ : L2.St} {H : Hp} {s : Shared} (I : Inv X pins σ H s) : HNod H := fun a kvs e => by
  obtain ⟨_, _, vs, kv, dd⟩ := dk_rd I.hok e
  obtain ⟨o, es, ep, _, _, _, _, _, nd⟩ := dd
  rw [← kv_keys kv]
  exact nd
theorem pss_know {X : Cx} {ss : List Stmt} {t : TS} (h : PSs X ss t) : PSs X ss (fun D σ H => HNod H → t D σ H) := ⟨fun pins s σ H D I q => h.run pins s σ H D I (q (nod_of I))⟩
theorem nod_val : ∀ {kvs : List (L2.Key × V)} {i : Nat} {k : L2.Key} {v : V}, (kvs.map (·.1)).Nodup → kvs[i]? = some (k, v) → valV kvs k = some v
  | (k0, v0) :: kvs, 0, k, v, nd, e => by
    cases Option.some.inj e
    exact valV_pos rfl
  | (k0, v0) :: kvs, i + 1, k, v, nd, e => by
    rw [List.map_cons, List.nodup_cons] at nd
    have e : kvs[i]? = some (k, v) := by simpa using e
    have m := List.mem_map_of_mem (f := (·.1)) (List.mem_of_getElem? e)
    rw [valV_neg (fun z => nd.1 (by rw [show k0 = k from z]; exact m))]
    exact nod_val nd.2 e
  | [], _, _, _, _, e => by simp at e
end Gk
namespace Lw
open PySem L2 Gk
abbrev sLLet : Stmt := topS 46
structure TxtQ (mg : Str → Option Value) : Prop where
  z_isinstance : mg "isinstance" = none
  z_str : mg "str" = none
  z_len : mg "len" = none
section
variable {P : Program} {w : World} {K : PySem.W.Frag} {mg : Str → Option Value} {base : Heap}
abbrev NLL : List Str := ["value", "low", "high", "sign"]
theorem scLLet : FnScope NLL ["value", "low", "high"] (defScope sLLet) := ⟨rfl, rfl, rfl, by decide +kernel, rfl, by decide +kernel, by decide +kernel⟩
theorem ok_llet {f : Addr} {fd : FuncData} (F : Fun K "_law_is_letters" "_law_is_letters" sLLet f fd) (T : TxtQ mg) : FnOk P w K mg base CX0 1 f fd ["value", "low", "high"] (spLLet K) := by
  refine F.ok scLLet (fun vs H Q E h => ?_) (fun cdv A outer s H vs Q E hr h => ?_)
  · obtain ⟨_, _, _, _, rfl, _⟩ := h
    rfl
  · obtain ⟨v, kd, lo, hi, rfl, at_, q⟩ := h
    have hu := hu_of hr
    have hz : (16777216 : Nat) = PySem.sizeLine := PySem.sizeLine_eq.symm
    refine ⟨_, pss_cons (ps_if (PW.pt (pw_or (pt_not (pt_val (pe_callB call_isi (by rfl) T.z_isinstance (by decide +kernel) (pa_cons (pv 0) (pa_cons (pe_bltn (v := .ty "str") (by rfl) T.z_str (by decide +kernel) rfl) pa_nil)))))
            (pw_or1 (pt_not (pt_chain op_le op_le (pv 1) (pe_callB call_len (by rfl) T.z_len PySem.boot_len (pa_cons (pv 0) pa_nil)) (pv 2)))))) (pss_one (ps_ret pe_bl)) pss_nil)
        (pss_one (ps_ret (pe_cmpR (op_eqL0 (Nat.lt_of_succ_lt hu)) (pe_lc (own := [("sign", 3)]) (g := gName 3) (tt := tNot (tTest (tChain (fun x y H Q => ∃ i j, x = .str i ∧ y = .str j ∧ Q (.bl (!decide (j.cps.toList < i.cps.toList))) H) (fun x y H Q => ∃ i j, x = .str i ∧ y = .str j ∧ Q (.bl (!decide (j.cps.toList < i.cps.toList))) H) (tC (.str "a")) (tVar 3) (tC (.str "z"))))) rfl scLLet.nd (pi_str (pv 0))
            (blkOk_by (N := NLL) (sc := defScope sLLet) (by decide +kernel)) (fun _ _ _ _ _ => pg_name (i := 3) scLLet.nd rfl (Or.inl rfl))
            (fun _ _ _ _ _ => pts_one (pt_not (pt_chain op_le_str op_le_str pe_str (pv 3) pe_str))) (fun _ _ _ _ _ => pv 3)) (pe_lst pa_nil) (nomark _)))), ?_⟩
    have non : letK lo hi kd = false → ∀ H2, Kp T0 H H2 → Q (.bl false) H2 := fun e H2 k => by
      have z := q H2 k
      rw [e] at z
      exact z
    rcases at_.str with ⟨z, rfl, rfl, zl⟩ | ⟨ne, t, ty, kit⟩
    rotate_left
    · refine ⟨_, rfl, _, _, _, _, false, rfl, .ty "str", ty, kit, false, rfl, iteT (iteT (non ?_ H (Kp.refl H)))⟩
      cases kd with
      | s x => exact absurd rfl (ne x)
      | _ => rfl
    refine ⟨_, rfl, _, _, _, _, true, rfl, .ty "str", .base (.str z), kit_ty (by decide +kernel), true, rfl, ?_⟩
    refine iteF ?_
    have en : letK lo hi (.s z) = (decide (lo ≤ (z.length : Int)) && decide ((z.length : Int) ≤ hi) && z.cps.toList.all sgn2) := isLet_sgn2 z lo hi
    rw [en] at non q
    refine ⟨_, rfl, _, rfl, _, _, rfl, ⟨by omega, rfl⟩, _, _, rfl, rfl, _, rfl, ?_⟩
    by_cases c1 : lo ≤ (z.length : Int)
    rotate_left
    · rw [decide_eq_false c1]
      exact iteF ⟨false, rfl, iteT (non (by rw [decide_eq_false c1]; rfl) _ (Kp.refl H))⟩
    rw [decide_eq_true c1]
    refine iteT ⟨_, rfl, _, _, rfl, rfl, _, rfl, ?_⟩
    by_cases c8 : (z.length : Int) ≤ hi
    rotate_left
    · rw [decide_eq_false c8]
      exact iteT (non (by rw [decide_eq_false c8, Bool.and_false]; rfl) _ (Kp.refl H))
    rw [decide_eq_true c8]
    refine iteF ?_
    rw [decide_eq_true c1, decide_eq_true c8, Bool.true_and, Bool.true_and] at q
    refine ⟨_, rfl, z, rfl, fun D hD => ?_⟩
    have zs : z.cps.size < PySem.sizeLine := zl
    refine lc_kp (T := T0) walk_str (i0 := 3) (fun i v => ∃ c, z.cps[i]? = some c ∧ v = .str ⟨#[c]⟩) (fun i ws _ => ws = ((z.cps.toList.take i).filter fun c => !sgn2 c).map fun c => V.str (sg2 c)) (fun i H1 v H2 _ y => y) hD id zs (wipe1 _ 3) (fun _ _ => True.intro) rfl
      (fun n v ws H4 Ky Kn hn sy k4 d4 ew ky kn => ?_) (fun ws H4 k4 d4 lw ew => ?_)
    · obtain ⟨c, hc, rfl⟩ := sy
      have hc2 : z.cps.toList[n]? = some c := by rw [Array.getElem?_toList]; exact hc
      have tk : (z.cps.toList.take (n + 1)).filter (fun c => !sgn2 c) = (z.cps.toList.take n).filter (fun c => !sgn2 c) ++ [c].filter (fun c => !sgn2 c) := by
        rw [List.take_add_one, hc2, List.filter_append]
        rfl
      have fin : ∀ b : Bool, b = sgn2 c → (if (!b) = true then Ky (.str ⟨#[c]⟩) H4 else Kn H4) := fun b hb => by
        subst hb
        cases es : sgn2 c with
        | true =>
          refine iteF (kn _ (Kp.refl _) ?_)
          rw [tk, ew]
          have e : [c].filter (fun c => !sgn2 c) = [] := by simp [List.filter, es]
          rw [e, List.append_nil]
        | false =>
          refine iteT (ky _ _ (Kp.refl _) ?_)
          rw [tk, ew, List.map_append]
          have e : [c].filter (fun c => !sgn2 c) = [c] := by simp [List.filter, es]
          rw [e]
          rfl
      refine ⟨_, rfl, _, _, rfl, rfl, _, rfl, ?_⟩
      show if (!decide (([c] : List Nat) < [97])) = true then _ else _
      rw [lt1s]
      by_cases a1 : c < 97
      · rw [decide_eq_true a1]
        refine iteF ⟨false, rfl, ?_⟩
        have es : (false : Bool) = sgn2 c := by
          unfold sgn2
          rw [decide_eq_false (by omega : ¬ 97 ≤ c), Bool.false_and]
        have f := fin false es
        exact iteT ⟨_, rfl, by simpa using f⟩
      · rw [decide_eq_false a1]
        refine iteT ⟨_, _, rfl, rfl, _, rfl, ?_⟩
        have es : (!decide (122 < c)) = sgn2 c := by
          unfold sgn2
          rw [decide_eq_true (by omega : 97 ≤ c), Bool.true_and]
          by_cases a2 : c ≤ 122
          · rw [decide_eq_true a2, decide_eq_false (by omega : ¬ 122 < c)]
            rfl
          · rw [decide_eq_false a2, decide_eq_true (by omega : 122 < c)]
            rfl
        have f := fin _ es
        show if (!(!decide (([122] : List Nat) < [c]))) = true then _ else _
        rw [lt1s]
        by_cases a2 : 122 < c
        · rw [decide_eq_true a2] at f ⊢
          exact iteT ⟨_, rfl, by simpa using f⟩
        · rw [decide_eq_false a2] at f ⊢
          exact iteF (by simpa using f)
    have el : z.cps.size = z.cps.toList.length := by simp
    rw [el, List.take_length] at ew
    refine ⟨Nat.zero_le _, fun l0 hl0 => ?_⟩
    have g5 : Kp T0 H4 (upd H4 l0 (.lst [])) := (Kp.refl H4).new hl0
    refine ⟨D, l0, ws, rfl, rfl, g5.at0 d4, upd_same, ?_⟩
    have e0 : ws.isEmpty = z.cps.toList.all sgn2 := by
      rw [ew]
      cases ea : z.cps.toList.all sgn2 with
      | true =>
        have e : z.cps.toList.filter (fun c => !sgn2 c) = [] := by
          rw [List.filter_eq_nil_iff]
          intro c mc hc
          rw [List.all_eq_true.mp ea c mc] at hc
          cases hc
        rw [e]
        rfl
      | false =>
        obtain ⟨c, mc, hc⟩ := List.all_eq_false.mp ea
        have m : c ∈ z.cps.toList.filter (fun c => !sgn2 c) := List.mem_filter.mpr ⟨mc, by simpa using hc⟩
        cases e : z.cps.toList.filter (fun c => !sgn2 c) with
        | nil =>
          rw [e] at m
          cases m
        | cons x xs => rfl
    rw [e0]
    exact q _ (k4.trans g5)
end
end Lw
namespace Lw
open PySem L2 Gk
abbrev sLAre : Stmt := topS 47
abbrev sLWor : Stmt := topS 48
structure TxtW (mg : Str → Option Value) : Prop where
  z_isinstance : mg "isinstance" = none
  z_int : mg "int" = none
  z_bool : mg "bool" = none
  z_dict : mg "dict" = none
  z_len : mg "len" = none
def spLWor (n : Nat) : Sp := fun vs H Q _ => ∃ (f kv v : V) (B : Hp) (ms : Msgs) (cs : Cho) (k : Gk.Kind) (d : PyData), vs = [f, kv, v] ∧ ForIs B f ms cs ∧ Kp T0 B H ∧ Sch ms ∧ KsOk cs ∧ IsP H kv k ∧ KindOk ms k ∧ Dd (Oc B) H v d ∧ wfD d = true ∧ d.depth < n ∧ ∀ H2, Kp T0 H H2 → Q (.bl (okK ms cs d k)) H2
/-- of entries whose names are all right -/
def spLAre (n : Nat) : Sp := fun vs H Q _ => ∃ (f : V) (ka a : Addr) (kk : List (L2.Key × V)) (B : Hp) (ms : Msgs) (cs : Cho) (F : Str → Option Gk.Kind) (ds : List (PyData × PyData)), vs = [f, .ref ka, .ref a] ∧ ForIs B f ms cs ∧ Kp T0 B H ∧ Sch ms ∧ KsOk cs ∧ ka ≠ a ∧ H ka = some (.dK kk) ∧
  Dd (Oc B) H (.ref a) (.dict ds) ∧ wfD (.dict ds) = true ∧ (PyData.dict ds).depth ≤ n ∧
  (∀ e ∈ ds, ∃ x kv k, e.1 = .str x ∧ isNm x = true ∧ F x = some k ∧ KindOk ms k ∧ valV kk (.inr x) = some kv ∧ IsP H kv k) ∧ ∀ H2, Kp T0 H H2 → Q (.bl (ds.all (okP ms cs F))) H2
section
variable {P : Program} {w : World} {K : PySem.W.Frag} {mg : Str → Option Value} {base : Heap}
abbrev NLA : List Str := ["forms", "kinds", "value", "name"]
theorem scLAre : FnScope NLA ["forms", "kinds", "value"] (defScope sLAre) := ⟨rfl, rfl, rfl, by decide +kernel, rfl, by decide +kernel, by decide +kernel⟩
theorem isP_un {H : Hp} {v : V} {p : Pth} {d : Addr} {kvs : List (L2.Key × V)} {o : HO} (h : IsP H v p) (e : H d = some (.dK kvs)) : IsP (upd H d o) v p := h.un e fun _ z => nomatch z
theorem ok_lare {n0 : Nat} {f fW : Addr} {fd : FuncData} (F : Fun K "_law_are_worths" "_law_are_worths" sLAre f fd) (DW : Df P w K mg base (3 + 2 * n0) fW "_law_is_worth" ["forms", "kind", "value"] (spLWor n0)) : FnOk P w K mg base CX0 (4 + 2 * n0) f fd ["forms", "kinds", "value"] (spLAre n0) := by
  have e4 : 4 + 2 * n0 = (3 + 2 * n0) + 1 := by omega
  rw [e4]
  refine F.ok scLAre (fun vs H Q E h => ?_) (fun cdv A outer s H vs Q E hr h => ?_)
  · obtain ⟨_, _, _, _, _, _, _, _, _, rfl, _⟩ := h
    rfl
  · obtain ⟨fv, ka, a, kk, B, ms, cs, FF, ds, rfl, fm, kB, S, kok, nka, hka, dd, wf, dep, each, q⟩ := h
    have hz : (16777216 : Nat) = PySem.sizeLine := PySem.sizeLine_eq.symm
    have hu := hu_of hr
    refine ⟨_, pss_know (pss_cons (ps_lock (ps_for PassesOwn.never rfl (pi_keys (pv 2)) (pg_name (i := 3) scLAre.nd rfl (Or.inl rfl))
        (pss_one (ps_if (pt_not (pt_val (pe_df DW hr (by rfl) (pa_cons (pv 0) (pa_cons (pe_dget hu (pv 1) (pv 3) (fun _ _ => rfl)) (pa_cons (pe_dget hu (pv 2) (pv 3) (fun _ _ => rfl)) pa_nil)))))) (pss_one (ps_ret pe_bl)) pss_nil))))
      (pss_one (ps_ret pe_bl))), fun nod => ?_⟩
    cases dd with
    | sc s => cases s
    | @dict _ kvs _ nT ha r =>
    have ll : kvs.length = ds.length := ddk_len r
    have nd := nod a kvs (.inl ha)
    have wfe : wfE ds = true := by
      unfold wfD at wf
      rw [Bool.and_eq_true] at wf
      exact wf.2
    refine ⟨a, .dK kvs, ha, trivial, fun od => ⟨_, rfl, a, od, rfl, .inl ⟨kvs, upd_same, ?_⟩⟩⟩
    have na : (upd H a (.frz od (.dK kvs))) a = some (.frz od (.dK kvs)) := upd_same
    have kG : Kp T0 B (upd H a (.frz od (.dK kvs))) := kB.over (oc_none nT)
    have rG : DdK (Oc B) (upd H a (.frz od (.dK kvs))) kvs ds := parts_away nT ha r
    have hkG : (upd H a (.frz od (.dK kvs))) ka = some (.dK kk) := by rw [upd_ne nka]; exact hka
    have eachG : ∀ e ∈ ds, ∃ x kv k, e.1 = .str x ∧ isNm x = true ∧ FF x = some k ∧ KindOk ms k ∧ valV kk (.inr x) = some kv ∧ IsP (upd H a (.frz od (.dK kvs))) kv k := fun e me => by
      obtain ⟨x, kv, k, a1, a2, a3, a4, a5, a6⟩ := each e me
      exact ⟨x, kv, k, a1, a2, a3, a4, a5, isP_un a6 ha⟩
    have back : ∀ H2, Kp T0 (upd H a (.frz od (.dK kvs))) H2 → Kp T0 H (upd H2 a (.dK kvs)) := fun H2 k => kp_unlock ha k
    generalize upd H a (.frz od (.dK kvs)) = G at na kG rG hkG eachG back ⊢
    refine for_it (walk_keys (d := a) (o := od) (kvs := kvs)) (fun i st H2 => Kp T0 G H2 ∧ ((ds.take i).all (okP ms cs FF)) = true ∧ ∃ o3 : Option V, st = [some fv, some (.ref ka), some (.ref a), o3])
      ⟨Kp.refl G, rfl, none, rfl⟩ (fun i st H2 _ p => p.1.at0 na) (fun i y st H2 H3 hi p y1 => ?_) (fun st H2 p => ?_)
    rotate_left
    · obtain ⟨k2, ok, o3, rfl⟩ := p
      rw [ll, List.take_length] at ok
      refine ⟨k2.at0 na, ?_⟩
      have z := q _ (back _ k2)
      rw [ok] at z
      exact z
    obtain ⟨k2, ok, o3, rfl⟩ := p
    obtain ⟨rfl, key, u, hk, rfl⟩ := y1
    obtain ⟨d, hds, dp⟩ := ddk_at (DdK.keep k2.wide rG) hk
    obtain ⟨_, wd⟩ := wfE_at wfe hds
    have hdp := ddk_depth hds
    obtain ⟨x, kv, k, e1, nx, fx, okk, vk, ip⟩ := eachG _ (List.mem_of_getElem? hds)
    have ekey : key = .inr x := by
      cases key with
      | inl j => cases e1
      | inr z => cases e1; rfl
    subst ekey
    have vv := nod_val nd hk
    have okp : okP ms cs FF (dKey (.inr x), d) = okK ms cs d k := by
      show (isNm x && (match FF x with
        | some k => okK ms cs d k
        | none => false)) = _
      rw [nx, fx]
      rfl
    have hdep : d.depth < n0 := by
      have : PyData.depthKv ds + 1 ≤ n0 := dep
      omega
    refine ⟨_, rfl, _, rfl, _, rfl, ka, kv, rfl, .inl ⟨kk, .inr x, .inl (k2.at0 hkG), rfl, vk.symm⟩, _, rfl, _, rfl, a, u, rfl, .inl ⟨kvs, .inr x, .inr ⟨od, k2.at0 na⟩, rfl, vv.symm⟩, fv, kv, u, B, ms, cs, k, d, rfl, fm, kG.trans k2, S, kok, ip.keep0 k2, okk, dp, wd, hdep, fun H5 k5 => ⟨_, rfl, ?_⟩⟩
    have k05 := k2.trans k5
    cases eo : okK ms cs d k with
    | false =>
      refine iteT ⟨k05.at0 na, ?_⟩
      have z := q _ (back _ k05)
      have e : ds.all (okP ms cs FF) = false := by
        cases e : ds.all (okP ms cs FF) with
        | false => rfl
        | true =>
          have z := List.all_eq_true.mp e _ (List.mem_of_getElem? hds)
          rw [okp, eo] at z
          cases z
      rw [e] at z
      exact z
    | true =>
      refine iteF ⟨k05, ?_, _, rfl⟩
      rw [List.take_add_one, hds, List.all_append, ok, Bool.true_and]
      show (okP ms cs _ (dKey (.inr x), d) && true) = true
      rw [okp, eo]
      rfl
end
end Lw
namespace Lw
open PySem L2 Gk
def iRowsM (K : PySem.W.Frag) : TI := fun st H R => ∃ (f v : V) (ms : Msgs) (cs : Cho) (x : Str), st[0]? = some (some f) ∧ st[1]? = some (some v) ∧ ForIs H f ms cs ∧ IsP H v [("message" : Str), x] ∧ ∀ ra xs H3, Kp T0 H H3 → H3 ra = some (.lst xs) → Ps H3 xs (Gk.rowsOf cs x) → R (Itl K ra) H3
theorem rd_rowsM {K : PySem.W.Frag} {st : L2.St} {H : Hp} {R : It → Hp → Prop} (h : iRowsM K st H R) : iList K (tDGet2 (tOp (rIx K) (tVar 0) (tC (.int 1))) (tOp (rIx K) (tVar 1) (tC (.int 1))) (tLst tNil)) st H R := by
  obtain ⟨f, v, ms, cs, x, h0, h1, fm, ⟨rt, rfl, hrt⟩, go⟩ := h
  obtain ⟨ft, ma, ca, rfl, hft, _, _, ⟨ca2, ck, e2, hca, pc⟩⟩ := forIs_at fm
  cases e2
  refine ⟨_, h0, .inr (.inl ⟨ft, _, 1, .ref ca, rfl, rfl, SqT.of hft, at_1 _ _ _, ca, rfl, .inl ⟨ck, .inl hca⟩, _, h1, .inr (.inl ⟨rt, _, 1, .str x, rfl, rfl, SqT.of hrt, at_1 _ _ _, Nat.zero_le _, fun l0 hl0 => ?_⟩)⟩)⟩
  have k1 : Kp T0 H (upd H l0 (.lst [])) := (Kp.refl H).new hl0
  have d1 : (upd H l0 (.lst [])) l0 = some (.lst []) := upd_same
  have pc1 : Paired (Ent (IsRs (upd H l0 (.lst [])))) ck cs := ent_map pc fun _ _ _ z => z.keep0 k1
  rcases ent_find x pc1 with ⟨e1, e2⟩ | ⟨rows, v, e1, e2, ra, xs, rfl, hr, hp⟩
  · refine ⟨none, .inl ⟨ck, .inr x, .inl (k1.at0 hca), rfl, e2.symm⟩, l0, rfl, ⟨[], SqL.of d1⟩, go l0 [] _ k1 d1 ?_⟩
    show Ps _ [] ((cs.lookup x).getD [])
    rw [e1]
    exact .nil
  · refine ⟨some (.ref ra), .inl ⟨ck, .inr x, .inl (k1.at0 hca), rfl, e2.symm⟩, ra, rfl, ⟨xs, SqL.of hr⟩, go ra xs _ k1 hr ?_⟩
    show Ps _ xs ((cs.lookup x).getD [])
    rw [e1]
    exact hp
def keyNm (e : PyData × PyData) : Bool := match e.1 with
  | .str n => isNm n
  | _ => false
def keyIn (F : Str → Option Gk.Kind) (e : PyData × PyData) : Bool := match e.1 with
  | .str n => (F n).isSome
  | _ => false
theorem okP_nm {ms : Msgs} {cs : Cho} {F : Str → Option Gk.Kind} {e : PyData × PyData} (h : okP ms cs F e = true) : keyNm e = true := by
  unfold okP at h
  unfold keyNm
  split at h
  · rename_i n en
    try rw [en]
    rw [Bool.and_eq_true] at h
    exact h.1
  · cases h
theorem okP_in {ms : Msgs} {cs : Cho} {F : Str → Option Gk.Kind} {e : PyData × PyData} (h : okP ms cs F e = true) : keyIn F e = true := by
  unfold okP at h
  unfold keyIn
  split at h
  · rename_i n en
    try rw [en]
    rw [Bool.and_eq_true] at h
    show (F n).isSome = true
    cases eF : F n with
    | none =>
      rw [eF] at h
      cases h.2
    | some k => rfl
  · cases h
theorem all_false {ms : Msgs} {cs : Cho} {F : Str → Option Gk.Kind} {p : PyData × PyData → Bool} (i : ∀ e, okP ms cs F e = true → p e = true) {ds : List (PyData × PyData)} (h : ds.all p = false) : ds.all (okP ms cs F) = false := by
  cases e : ds.all (okP ms cs F) with
  | false => rfl
  | true =>
    have z : ds.all p = true := List.all_eq_true.mpr fun x m => i x (List.all_eq_true.mp e x m)
    rw [z] at h
    cases h
theorem key_kd {K : PySem.W.Frag} {H : Hp} {key : L2.Key} (wk : ∀ x, dKey key = .str x → x.length < 1000) : ∃ kd, KdAt K H (kV key) kd ∧ letK 1 8 kd = (match dKey key with
    | .str n => isNm n
    | _ => false) := by
  cases key with
  | inl j => exact ⟨.i j, rfl, rfl⟩
  | inr n => exact ⟨.s n, ⟨rfl, Nat.lt_trans (wk n rfl) (by rw [PySem.sizeLine_eq]; decide)⟩, rfl⟩
theorem ddk_mem {T : Addr → Prop} {H : Hp} : ∀ {kvs : List (L2.Key × V)} {ds : List (PyData × PyData)}, DdK T H kvs ds → ∀ e ∈ ds, ∃ key u, (key, u) ∈ kvs ∧ e.1 = dKey key
  | _, _, .nil, _, m => nomatch m
  | _, _, .cons (k := k) (v := v) h r, e, m => by
    rcases List.mem_cons.mp m with rfl | m
    · exact ⟨k, v, List.mem_cons_self, rfl⟩
    · obtain ⟨key, u, a, b⟩ := ddk_mem r e m
      exact ⟨key, u, List.mem_cons_of_mem _ a, b⟩
theorem val_mem {k : L2.Key} : ∀ {kvs : List (L2.Key × V)}, k ∈ kvs.map (·.1) → ∃ v, valV kvs k = some v ∧ (k, v) ∈ kvs
  | (k0, v0) :: kvs, m => by
    by_cases e : k0 = k
    · subst e
      exact ⟨v0, valV_pos rfl, List.mem_cons_self⟩
    · rw [List.map_cons] at m
      rcases List.mem_cons.mp m with h | h
      · exact absurd h.symm e
      · obtain ⟨v, a, b⟩ := val_mem h
        exact ⟨v, by rw [valV_neg e]; exact a, List.mem_cons_of_mem _ b⟩
section
variable {P : Program} {w : World} {K : PySem.W.Frag} {mg : Str → Option Value} {base : Heap}
abbrev NLW : List Str := ["forms", "kind", "value", "name", "kinds", "fields", "choice"]
theorem scLWor : FnScope NLW ["forms", "kind", "value"] (defScope sLWor) := ⟨rfl, rfl, rfl, by decide +kernel, rfl, by decide +kernel, by decide +kernel⟩
theorem ok_lwor {n0 : Nat} {f fL fA : Addr} {fd : FuncData} (F : Fun K "_law_is_worth" "_law_is_worth" sLWor f fd) (T : TxtW mg) (DL : Df P w K mg base 1 fL "_law_is_letters" ["value", "low", "high"] (spLLet K))
    (DA : Df P w K mg base (4 + 2 * n0) fA "_law_are_worths" ["forms", "kinds", "value"] (spLAre n0)) : FnOk P w K mg base CX0 (3 + 2 * (n0 + 1)) f fd ["forms", "kind", "value"] (spLWor (n0 + 1)) := by
  have e4 : 3 + 2 * (n0 + 1) = (4 + 2 * n0) + 1 := by omega
  rw [e4]
  refine F.ok scLWor (fun vs H Q E h => ?_) (fun cdv A outer s H vs Q E hr h => ?_)
  · obtain ⟨_, _, _, _, _, _, _, _, rfl, _⟩ := h
    rfl
  · obtain ⟨fv, kv, v, B, ms, cs, k, d, rfl, fm, kB, S, kok, ip, okk, dd, wf, dep, q⟩ := h
    have hz : (16777216 : Nat) = PySem.sizeLine := PySem.sizeLine_eq.symm
    have hu := hu_of hr
    have hu0 : _ < cLine := Nat.lt_of_succ_lt hu
    have r1 : Room 1 _ := hr.mono (by omega)
    refine ⟨_, pss_know (pss_cons (ps_if (pt_cmpR op_eq (pe_ix (r := rIx K) ix_seq (pv 1) pe_int (fun _ _ => rfl)) pe_str (nomark _)) (pss_one (ps_ret (pe_df DL r1 (by rfl) (pa_cons (pv 2) (pa_cons pe_int (pa_cons pe_int pa_nil)))))) pss_nil)
      (pss_cons (ps_if (pt_cmpR op_eq (pe_ix (r := rIx K) ix_seq (pv 1) pe_int (fun _ _ => rfl)) pe_str (nomark _)) (pss_one (ps_ret (pe_callB call_isi (by rfl) T.z_isinstance (by decide +kernel) (pa_cons (pv 2) (pa_cons (pe_bltn (v := .ty "bool") (by rfl) T.z_bool (by decide +kernel) rfl) pa_nil))))) pss_nil)
      (pss_cons (ps_if (pt_cmpR op_eq (pe_ix (r := rIx K) ix_seq (pv 1) pe_int (fun _ _ => rfl)) pe_str (nomark _)) (pss_one (ps_ret (pe_and (pe_callB call_isi (by rfl) T.z_isinstance (by decide +kernel) (pa_cons (pv 2) (pa_cons (pe_bltn (v := .ty "int") (by rfl) T.z_int (by decide +kernel) rfl) pa_nil)))
        (pe_and (pe_not (pe_callB call_isi (by rfl) T.z_isinstance (by decide +kernel) (pa_cons (pv 2) (pa_cons (pe_bltn (v := .ty "bool") (by rfl) T.z_bool (by decide +kernel) rfl) pa_nil))))
        (pe_one (pe_cmpR op_ge (pv 2) pe_int (nomark _))))))) pss_nil)
      (pss_cons (ps_if (pt_not (pt_val (pe_callB call_isi (by rfl) T.z_isinstance (by decide +kernel) (pa_cons (pv 2) (pa_cons (pe_bltn (v := .ty "dict") (by rfl) T.z_dict (by decide +kernel) rfl) pa_nil))))) (pss_one (ps_ret pe_bl)) pss_nil)
      (pss_cons (ps_if (pt_cmpR (op_neL0 hu0) (pe_lock (pe_lc (te := tVar 3) (own := [("name", 3)]) (g := gName 3) (tt := tNot (tB (tCall (spLLet K) [] E0 (tCons (tVar 3) (tCons (tC (.int 1)) (tCons (tC (.int 8)) tNil)))))) rfl scLWor.nd (pi_keys (pv 2)) (blkOk_by (N := NLW) (sc := defScope sLWor) (by decide +kernel)) (fun _ _ _ _ _ => pg_name (i := 3) scLWor.nd rfl (Or.inl rfl))
          (fun _ _ _ _ _ => pts_one (pt_not (pt_val (pe_df DL r1 (by rfl) (pa_cons (pv 3) (pa_cons pe_int (pa_cons pe_int pa_nil))))))) (fun _ _ _ _ _ => pv 3))) (pe_lst pa_nil) (nomark _)) (pss_one (ps_ret pe_bl)) pss_nil)
      (pss_cons (ps_if (pt_cmpR op_eq (pe_ix (r := rIx K) ix_seq (pv 1) pe_int (fun _ _ => rfl)) pe_str (nomark _))
        (pss_cons (ps_set (i := 4) scLWor.nd rfl (Or.inl rfl) (pe_callTy (call_dictP rfl) (by rfl) T.z_dict boot_dict7 (pa_cons (pe_lock (pe_lc (te := tTup (tCons (tVar 3) (tCons (tTup (tCons (tOp (rIx K) (tVar 1) (tC (.int 1))) tNil)) tNil))) (own := [("name", 3)]) (g := gName 3) (tt := tYes) rfl scLWor.nd (pi_keys (pv 2)) (blkOk_by (N := NLW) (sc := defScope sLWor) (by decide +kernel)) (fun _ _ _ _ _ => pg_name (i := 3) scLWor.nd rfl (Or.inl rfl))
            (fun _ _ _ _ _ => pts_nil) (fun _ _ _ _ _ => pe_tup (pa_cons (pv 3) (pa_cons (pe_tup (pa_cons (pe_ix (r := rIx K) ix_seq (pv 1) pe_int (fun _ _ => rfl)) pa_nil)) pa_nil))))) pa_nil)))
        (pss_one (ps_ret (pe_and (pe_cmpR (op_ne0 hu0) (pv 2) pe_dnewK (nomark _)) (pe_one (pe_df DA hr (by rfl) (pa_cons (pv 0) (pa_cons (pv 4) (pa_cons (pv 2) pa_nil))))))))) pss_nil)
      (pss_cons (ps_set (i := 5) scLWor.nd rfl (Or.inr rfl) (pe_dget hu (pe_ix (r := rIx K) ix_seq (pv 0) pe_int (fun _ _ => rfl)) (pe_ix (r := rIx K) ix_seq (pv 1) pe_int (fun _ _ => rfl)) (fun _ _ => rfl)))
      (pss_cons (ps_if (pt_cmpR (op_neL0 hu0) (pe_lock (pe_lc (te := tVar 3) (own := [("name", 3)]) (g := gName 3) (tt := tTest (tDNotIn (tVar 3) (tVar 5))) rfl scLWor.nd (pi_keys (pv 2)) (blkOk_by (N := NLW) (sc := defScope sLWor) (by decide +kernel)) (fun _ _ _ _ _ => pg_name (i := 3) scLWor.nd rfl (Or.inl rfl))
          (fun _ _ _ _ _ => pts_one (pt_cmp (pc_dnotin hu (pv 3) (pv 5)))) (fun _ _ _ _ _ => pv 3))) (pe_lst pa_nil) (nomark _)) (pss_one (ps_ret pe_bl)) pss_nil)
      (pss_cons (ps_for PassesOwn.never rfl (pi_weak (w2 := iRowsM K) (pi_list (pe_dget2 hu (pe_ix (r := rIx K) ix_seq (pv 0) pe_int (fun _ _ => rfl)) (pe_ix (r := rIx K) ix_seq (pv 1) pe_int (fun _ _ => rfl)) (pe_lst pa_nil) ⟨by rfl, by rfl, by rfl, by rfl⟩)) (fun _ _ _ h => rd_rowsM h)) (pg_name (i := 6) scLWor.nd rfl (Or.inl rfl))
        (pss_one (ps_if (pt_cmpR op_gt (pe_callB call_len (by rfl) T.z_len PySem.boot_len (pa_cons (pe_lc (te := tVar 3) (own := [("name", 3)]) (g := gName 3) (tt := tTest (tDIn (tVar 3) (tVar 2))) rfl scLWor.nd (pi_tup (pv 6)) (blkOk_by (N := NLW) (sc := defScope sLWor) (by decide +kernel)) (fun _ _ _ _ _ => pg_name (i := 3) scLWor.nd rfl (Or.inl rfl))
          (fun _ _ _ _ _ => pts_one (pt_cmp (pc_din hu (pv 3) (pv 2)))) (fun _ _ _ _ _ => pv 3)) pa_nil)) pe_int (nomark _)) (pss_one (ps_ret pe_bl)) pss_nil)))
      (pss_one (ps_ret (pe_df DA hr (by rfl) (pa_cons (pv 0) (pa_cons (pv 5) (pa_cons (pv 2) pa_nil))))))))))))))), fun nod => ?_⟩
    obtain ⟨kt, rfl, hkt⟩ := id ip
    have kc : (k = [("text" : Str)]) ∨ (k = [("number" : Str)]) ∨ (k = [("flag" : Str)]) ∨ ∃ m x : Str, k = [m, x] ∧ (m = "message" ∨ (m = "map" ∧ kindP [x] = true)) := by
      rcases kinds_are okk.1 with h | h | h | ⟨x, h⟩ | ⟨x, h, kx⟩
      · exact .inl h
      · exact .inr (.inl h)
      · exact .inr (.inr (.inl h))
      · exact .inr (.inr (.inr ⟨_, x, h, .inl rfl⟩))
      · exact .inr (.inr (.inr ⟨_, x, h, .inr ⟨rfl, kx⟩⟩))
    have at_ : KdAt K H v (kdOf d) := dd_kd dd wf
    rcases kc with rfl | rfl | rfl | ⟨m, x, rfl, hm⟩
    · refine ⟨_, rfl, .inr (.inl ⟨kt, _, 0, .str "text", rfl, rfl, SqT.of hkt, at_0 _ _, rfl, ?_⟩)⟩
      refine ⟨_, rfl, ?_⟩
      rw [decide_eq_true rfl]
      refine iteT ⟨_, rfl, v, kdOf d, 0, 12, rfl, at_, fun H2 k2 => ?_⟩
      have z := q H2 k2
      rw [okK_txt] at z
      have e : letK 0 12 (kdOf d) = textK (kdOf d) := by cases kdOf d <;> rfl
      rw [e]
      exact z
    · refine ⟨_, rfl, .inr (.inl ⟨kt, _, 0, .str "number", rfl, rfl, SqT.of hkt, at_0 _ _, rfl, ?_⟩)⟩
      refine ⟨_, rfl, ?_⟩
      rw [decide_eq_false (by decide : ¬ V.str "number" = V.str "text")]
      refine iteF ?_
      refine ⟨_, rfl, .inr (.inl ⟨kt, _, 0, .str "number", rfl, rfl, SqT.of hkt, at_0 _ _, rfl, ?_⟩)⟩
      refine ⟨_, rfl, ?_⟩
      rw [decide_eq_false (by decide : ¬ V.str "number" = V.str "flag")]
      refine iteF ?_
      refine ⟨_, rfl, .inr (.inl ⟨kt, _, 0, .str "number", rfl, rfl, SqT.of hkt, at_0 _ _, rfl, ?_⟩)⟩
      refine ⟨_, rfl, ?_⟩
      rw [decide_eq_true rfl]
      refine iteT ?_
      have z := q H (Kp.refl H)
      rw [okK_num] at z
      refine ⟨_, rfl, ?_⟩
      dsimp only [tCons, tC, tNil]
      refine rd_isi at_ (.inr (.inl rfl)) ?_
      refine ⟨_, rfl, ?_⟩
      revert z at_
      cases kdOf d with
      | s x => exact fun _ z => iteF z
      | o => exact fun _ z => iteF z
      | i n =>
        intro at_ z
        refine iteT ⟨_, rfl, ?_⟩
        dsimp only [tCons, tC, tNil]
        refine rd_isi at_ (.inr (.inr rfl)) ?_
        refine ⟨_, rfl, ?_⟩
        refine ⟨_, rfl, ?_⟩
        refine iteT ⟨_, rfl, _, _, ?_, rfl, z⟩
        exact at_
      | b c =>
        intro at_ z
        refine iteT ⟨_, rfl, ?_⟩
        dsimp only [tCons, tC, tNil]
        refine rd_isi at_ (.inr (.inr rfl)) ?_
        refine ⟨_, rfl, ?_⟩
        refine ⟨_, rfl, ?_⟩
        exact iteF z
    · refine ⟨_, rfl, .inr (.inl ⟨kt, _, 0, .str "flag", rfl, rfl, SqT.of hkt, at_0 _ _, rfl, ?_⟩)⟩
      refine ⟨_, rfl, ?_⟩
      rw [decide_eq_false (by decide : ¬ V.str "flag" = V.str "text")]
      refine iteF ?_
      refine ⟨_, rfl, .inr (.inl ⟨kt, _, 0, .str "flag", rfl, rfl, SqT.of hkt, at_0 _ _, rfl, ?_⟩)⟩
      refine ⟨_, rfl, ?_⟩
      rw [decide_eq_true rfl]
      refine iteT ?_
      have z := q H (Kp.refl H)
      rw [okK_flag] at z
      refine ⟨_, rfl, rd_isi at_ (.inr (.inr rfl)) ?_⟩
      revert z
      cases kdOf d <;> exact fun z => z
    -- maps, messages
    have nq : ∀ y : Str, y = "text" ∨ y = "flag" ∨ y = "number" → ¬ V.str m = V.str y := fun y hy z => by
      injection z with z
      subst z
      rcases hm with h | ⟨h, _⟩ <;> (subst h; rcases hy with h | h | h <;> exact absurd h (by decide))
    refine ⟨_, rfl, .inr (.inl ⟨kt, _, 0, .str m, rfl, rfl, SqT.of hkt, at_0 _ _, rfl, ?_⟩)⟩
    refine ⟨_, rfl, ?_⟩
    rw [decide_eq_false (nq _ (.inl rfl))]
    refine iteF ?_
    refine ⟨_, rfl, .inr (.inl ⟨kt, _, 0, .str m, rfl, rfl, SqT.of hkt, at_0 _ _, rfl, ?_⟩)⟩
    refine ⟨_, rfl, ?_⟩
    rw [decide_eq_false (nq _ (.inr (.inl rfl)))]
    refine iteF ?_
    refine ⟨_, rfl, .inr (.inl ⟨kt, _, 0, .str m, rfl, rfl, SqT.of hkt, at_0 _ _, rfl, ?_⟩)⟩
    refine ⟨_, rfl, ?_⟩
    rw [decide_eq_false (nq _ (.inr (.inr rfl)))]
    refine iteF ?_
    obtain ⟨t, ty, kit⟩ := dd_isdict (K := K) dd
    refine ⟨_, rfl, _, _, _, _, isDict d, rfl, .ty "dict", ty, kit, isDict d, rfl, ?_⟩
    cases hd : isDict d with
    | false =>
      refine iteT ?_
      have z := q H (Kp.refl H)
      have e : okK ms cs d [m, x] = false := by
        rcases hm with h | ⟨h, _⟩ <;> subst h
        · exact okK_other hd x
        · exact okK_map hd x
      rw [e] at z
      exact z
    | true =>
    refine iteF ?_
    cases d with
    | none => cases hd
    | bool b => cases hd
    | int i => cases hd
    | str x => cases hd
    | list xs => cases hd
    | tuple xs => cases hd
    | dict ds =>
    have dd0 := dd
    cases dd with
    | sc s => cases s
    | @dict a kvs _ nT ha r =>
    have ll : kvs.length = ds.length := ddk_len r
    have nd := nod a kvs (.inl ha)
    have few : ds.length < 1000 := by
      unfold wfD at wf
      rw [Bool.and_eq_true] at wf
      exact of_decide_eq_true wf.1
    have wfe : wfE ds = true := by
      unfold wfD at wf
      rw [Bool.and_eq_true] at wf
      exact wf.2
    have depn : (PyData.dict ds).depth ≤ n0 := Nat.le_of_lt_succ dep
    have nka : kt ≠ a := fun z => by
      rw [z, ha] at hkt
      cases hkt
    -- the names
    refine ⟨a, .dK kvs, ha, trivial, fun od => ⟨_, rfl, a, od, rfl, .inl ⟨kvs, upd_same, fun D hD => ?_⟩⟩⟩
    have na : (upd H a (.frz od (.dK kvs))) a = some (.frz od (.dK kvs)) := upd_same
    have nD : D ≠ a := fun z => by
      rw [z, upd_same] at hD
      cases hD
    refine lc_kp (T := T0) (walk_keys (kvs := kvs)) (i0 := 3) (fun i v => ∃ k u, kvs[i]? = some (k, u) ∧ v = kV k) (fun i zs _ => zs.isEmpty = (ds.take i).all keyNm) (fun _ _ _ _ _ y => y) hD id (by omega) (wipe1 _ 3) (fun H1 k1 => k1.at0 na) rfl
      (fun i v zs H1 Ky Kn hi sx k1 d1 ez ky kn => ?_) (fun zs H1 k1 d1 lz ez => ?_)
    · obtain ⟨key, u, hk, rfl⟩ := sx
      obtain ⟨dv, hds, _⟩ := ddk_at r hk
      obtain ⟨wk, _⟩ := wfE_at wfe hds
      obtain ⟨kd, akd, ekd⟩ := key_kd (K := K) (H := H1) (key := key) wk
      have tk : (ds.take (i + 1)).all keyNm = ((ds.take i).all keyNm && keyNm (dKey key, dv)) := by
        rw [List.take_add_one, hds, List.all_append]
        simp
      refine ⟨_, rfl, kV key, kd, 1, 8, rfl, akd, fun H4 k4 => ⟨_, rfl, ?_⟩⟩
      have ek : letK 1 8 kd = keyNm (dKey key, dv) := ekd
      rw [ek]
      cases en : keyNm (dKey key, dv) with
      | true => exact iteF (kn _ k4 (by rw [tk, en, Bool.and_true]; exact ez))
      | false =>
        refine iteT ⟨_, rfl, ky _ _ k4 ?_⟩
        rw [tk, en, Bool.and_false]
        cases zs <;> rfl
    rw [ll, List.take_length] at ez
    refine ⟨k1.at0 na, ?_⟩
    have K1 := kp_unlock ha k1
    have ha1 : (upd H1 a (.dK kvs)) a = some (.dK kvs) := upd_same
    have d1' : (upd H1 a (.dK kvs)) D = some (.lst zs) := by
      rw [upd_ne nD]
      exact d1
    generalize upd H1 a (.dK kvs) = G1 at K1 ha1 d1' ⊢
    refine ⟨Nat.zero_le _, fun l0 hl0 => ?_⟩
    have g2 : Kp T0 G1 (upd G1 l0 (.lst [])) := (Kp.refl G1).new hl0
    refine ⟨D, l0, zs, rfl, rfl, g2.at0 d1', upd_same, _, rfl, ?_⟩
    have K2 := K1.trans g2
    have ha2 := g2.at0 ha1
    generalize upd G1 l0 (.lst []) = G2 at K2 ha2 ⊢
    clear d1' g2 K1 ha1
    rw [ez]
    cases enm : ds.all keyNm with
    | false =>
      refine iteT ?_
      have z := q _ K2
      have e : okK ms cs (.dict ds) [m, x] = false := by
        rcases hm with h | ⟨h, _⟩ <;> subst h
        · unfold okK
          show (if ("message" : Str) = "message" then _ else _) = _
          rw [if_pos rfl, okE_all, all_false (p := keyNm) (fun e => okP_nm) enm]
          rfl
        · rw [okK_mapD, all_false (p := keyNm) (fun e => okP_nm) enm, Bool.and_false]
      rw [e] at z
      exact z
    | true =>
    refine iteF ?_
    have hkt2 := K2.at0 hkt
    have allnm : ∀ e ∈ ds, ∃ n, e.1 = .str n ∧ isNm n = true := fun e me => by
      have z := List.all_eq_true.mp enm e me
      unfold keyNm at z
      split at z
      · rename_i n en
        exact ⟨n, en, z⟩
      · cases z
    refine ⟨_, rfl, .inr (.inl ⟨kt, _, 0, .str m, rfl, rfl, SqT.of hkt2, at_0 _ _, rfl, ?_⟩)⟩
    refine ⟨_, rfl, ?_⟩
    have r2 : DdK (Oc B) G2 kvs ds := DdK.keep K2.wide r
    have kB2 := kB.trans K2
    rcases hm with h | ⟨h, kx⟩ <;> subst h
    rotate_left
    · -- a map
      rw [decide_eq_true rfl]
      refine iteT ?_
      rw [okK_mapD] at q
      have l1 : 1 ≤ PySem.sizeLine := by omega
      have l2 : 2 ≤ PySem.sizeLine := by omega
      refine ⟨a, .dK kvs, ha2, trivial, fun od => ⟨_, rfl, a, od, rfl, .inl ⟨kvs, upd_same, fun D hD => ?_⟩⟩⟩
      have na : (upd G2 a (.frz od (.dK kvs))) a = some (.frz od (.dK kvs)) := upd_same
      have hktG : (upd G2 a (.frz od (.dK kvs))) kt = some (.tup ([("map" : Str), x].map V.str)) := by
        rw [upd_ne nka]
        exact hkt2
      have nD : D ≠ a := fun z => by
        rw [z, upd_same] at hD
        cases hD
      refine lc_kp (T := T0) (walk_keys (kvs := kvs)) (i0 := 3) (fun i v => ∃ k u, kvs[i]? = some (k, u) ∧ v = kV k) (fun i zs Ha => ∃ (ps : List Addr) (kv2 : List (L2.Key × V)), zs = ps.map V.ref ∧ Paired (fun p kv => Ha p = some (.tup [kV kv.1, kv.2])) ps kv2 ∧ kv2.map (·.1) = (kvs.take i).map (·.1) ∧ ∀ e ∈ kv2, IsP Ha e.2 [x]) (fun _ _ _ _ _ y => y) hD id (by omega) (wipe1 _ 3) (fun H1 k1 => k1.at0 na) ⟨[], [], rfl, .nil, rfl, fun _ m => nomatch m⟩
        (fun i v zs H1 Ky Kn hi sx k1 d1 ez ky kn => ?_) (fun zs H1 k1 d1 lz ez => ?_)
      · obtain ⟨key, u, hk, rfl⟩ := sx
        obtain ⟨ps, kv2, ezs, pr, ek, ips⟩ := ez
        refine yes_ ?_
        refine ⟨_, rfl, _, rfl, .inr (.inl ⟨kt, _, 1, .str x, rfl, rfl, SqT.of (k1.at0 hktG), at_1 _ _ _, l1, fun t5 ht5 => ⟨l2, fun t6 ht6 => ?_⟩⟩)⟩
        have g5 : Kp T0 H1 (upd H1 t5 (.tup [.str x])) := (Kp.refl H1).new ht5
        have e5 : (upd H1 t5 (.tup [.str x])) t5 = some (.tup [.str x]) := upd_same
        generalize upd H1 t5 (.tup [.str x]) = H5 at g5 e5 ht6 ⊢
        have g6 : Kp T0 H5 (upd H5 t6 (.tup [kV key, .ref t5])) := (Kp.refl H5).new ht6
        have e6 : (upd H5 t6 (.tup [kV key, .ref t5])) t6 = some (.tup [kV key, .ref t5]) := upd_same
        generalize upd H5 t6 (.tup [kV key, .ref t5]) = H6 at g6 e6 ⊢
        have k16 := g5.trans g6
        have d6 := k16.at0 d1
        refine ky _ _ k16 ⟨ps ++ [t6], kv2 ++ [(key, .ref t5)], by rw [ezs, List.map_append]; rfl, ?_, ?_, fun e me => ?_⟩
        · have nt : ∀ {p : Addr} {xs : List V}, H6 p = some (.tup xs) → (upd H6 D (.lst (zs ++ [V.ref t6]))) p = some (.tup xs) := fun {p xs} hp => by
            rw [upd_ne (fun z => by rw [z, d6] at hp; cases hp)]
            exact hp
          have snoc : ∀ {ps : List Addr} {kv : List (L2.Key × V)}, Paired (fun p kv => (upd H6 D (.lst (zs ++ [V.ref t6]))) p = some (.tup [kV kv.1, kv.2])) ps kv → Paired (fun p kv => (upd H6 D (.lst (zs ++ [V.ref t6]))) p = some (.tup [kV kv.1, kv.2])) (ps ++ [t6]) (kv ++ [(key, .ref t5)]) := by
            intro ps kv h
            induction h with
            | nil => exact .cons (nt e6) .nil
            | cons a _ ih => exact .cons a ih
          exact snoc (paired_map (fun p kv h => nt (k16.at0 h)) pr)
        · rw [List.map_append, ek, List.take_add_one, hk, List.map_append]
          rfl
        · rcases List.mem_append.mp me with h | h
          · exact ((ips e h).keep0 k16).un d6 fun _ z => nomatch z
          · rw [List.mem_singleton.mp h]
            exact IsP.un (p := [x]) (v := .ref t5) ⟨t5, rfl, g6.at0 e5⟩ d6 fun _ z => nomatch z
      rw [List.take_length] at ez
      obtain ⟨ps, kv2, ezs, pr, ek, ips⟩ := ez
      refine ⟨k1.at0 na, ?_⟩
      have K3' := kp_unlock ha2 k1
      have ha3 : (upd H1 a (.dK kvs)) a = some (.dK kvs) := upd_same
      have d3 : (upd H1 a (.dK kvs)) D = some (.lst zs) := by
        rw [upd_ne nD]
        exact d1
      have na1 := k1.at0 na
      have pr3 : Paired (fun p kv => SqT K (upd H1 a (.dK kvs)) p [kV kv.1, kv.2]) ps kv2 := paired_map (fun p kv (h : H1 p = some (.tup [kV kv.1, kv.2])) => SqT.of (by rw [upd_ne (fun z => by rw [z, na1] at h; cases h)]; exact h)) pr
      have ips3 : ∀ e ∈ kv2, IsP (upd H1 a (.dK kvs)) e.2 [x] := fun e me => (ips e me).un na1 fun _ z => nomatch z
      generalize upd H1 a (.dK kvs) = G3 at K3' ha3 d3 pr3 ips3 ⊢
      have ndk : (kv2.map (·.1)).Nodup := by
        rw [ek]
        exact nd
      subst ezs
      refine ⟨D, ps, kv2, rfl, SqL.of d3, pr3, fun kd hkd => ?_⟩
      rw [merge_nil ndk]
      have g4 : Kp T0 G3 (upd G3 kd (.dK kv2)) := (Kp.refl G3).new hkd
      have e4 : (upd G3 kd (.dK kv2)) kd = some (.dK kv2) := upd_same
      have nkd : kd ≠ a := fun z => by
        rw [z, ha3] at hkd
        cases hkd
      have K4 := (K2.trans K3').trans g4
      have ha4 := g4.at0 ha3
      have ips4 : ∀ e ∈ kv2, IsP (upd G3 kd (.dK kv2)) e.2 [x] := fun e me => (ips3 e me).keep0 g4
      generalize upd G3 kd (.dK kv2) = G4 at g4 e4 K4 ha4 ips4 ⊢
      refine ⟨_, rfl, fun p0 hp0 => ?_⟩
      have g5 : Kp T0 G4 (upd G4 p0 (.dK [])) := (Kp.refl G4).new hp0
      refine ⟨a, p0, kvs, rfl, rfl, g5.at0 ha4, upd_same, _, rfl, ?_⟩
      have K5 := K4.trans g5
      have ha5 := g5.at0 ha4
      have e5 := g5.at0 e4
      have ips5 : ∀ e ∈ kv2, IsP (upd G4 p0 (.dK [])) e.2 [x] := fun e me => (ips4 e me).keep0 g5
      generalize upd G4 p0 (.dK []) = G5 at K5 ha5 e5 ips5 ⊢
      have ee : kvs.isEmpty = ds.isEmpty := by
        cases r <;> rfl
      rw [ee]
      cases ed : ds.isEmpty with
      | true =>
        refine iteF ?_
        have z := q _ K5
        rw [ed] at z
        exact z
      | false =>
      refine iteT ?_
      rw [ed] at q
      refine ⟨_, rfl, _, rfl, _, rfl, fv, kd, a, kv2, B, ms, cs, fun _ => some [x], ds, rfl, fm, kB.trans K5, S, kok, nkd, e5, dd0.keep K5.wide, wf, depn, fun e me => ?_, fun H6 k6 => q H6 (K5.trans k6)⟩
      obtain ⟨n, e1, nm⟩ := allnm e me
      obtain ⟨key, u, mk2, e2⟩ := ddk_mem r e me
      have ekk : key = .inr n := by
        rw [e1] at e2
        cases key with
        | inl j => cases e2
        | inr z => cases e2; rfl
      subst ekk
      have mkey : (.inr n : L2.Key) ∈ kv2.map (·.1) := by
        rw [ek]
        exact List.mem_map_of_mem (f := (·.1)) mk2
      obtain ⟨kvv, vv, mm⟩ := val_mem mkey
      exact ⟨n, kvv, [x], e1, nm, rfl, ⟨kx, fun _ z => nomatch z⟩, vv, ips5 _ mm⟩
    · -- a message
      rw [decide_eq_false (by decide : ¬ V.str "message" = V.str "map")]
      refine iteF ?_
      have hx : (ms.lookup x).isSome = true := okk.2 x rfl
      obtain ⟨ft, ma, ca, rfl, hft, _, ⟨ma2, mk, ema, hma, pm⟩, _⟩ := forIs_at fm
      cases ema
      rcases ent_find x pm with ⟨e1, _⟩ | ⟨fs, vF, e1, e2, isF⟩
      · rw [e1] at hx
        cases hx
      have efs : fldsOf ms x = fs := by
        unfold fldsOf
        rw [e1]
        rfl
      obtain ⟨fa, fk, rfl, hfa, pf⟩ := isF
      have nfa : fa ≠ a := fun z => by
        have := oc_none nT
        rw [← z, hfa] at this
        cases this
      have oke : okK ms cs (.dict ds) ["message", x] = ((ds.all (okP ms cs fun n => fs.lookup n)) && choB (Gk.rowsOf cs x) ds) := by
        unfold okK
        show (if ("message" : Str) = "message" then _ else _) = _
        rw [if_pos rfl, okE_all, efs]
      have q2 : ∀ H2, Kp T0 H H2 → Q (.bl ((ds.all (okP ms cs fun n => fs.lookup n)) && choB (Gk.rowsOf cs x) ds)) H2 := fun H2 k2 => by
        have z := q H2 k2
        rw [show okK ms cs (.dict ds) [("message" : Str), x] = _ from oke] at z
        exact z
      refine ⟨_, rfl, .inr (.inl ⟨ft, _, 0, .ref ma, rfl, rfl, SqT.of (kB2.at0 hft), at_0 _ _, _, rfl, .inr (.inl ⟨kt, _, 1, .str x, rfl, rfl, SqT.of hkt2, at_1 _ _ _, ma, .ref fa, rfl, .inl ⟨mk, .inr x, .inl (kB2.at0 hma), rfl, e2.symm⟩, ?_⟩)⟩)⟩
      have inF : ∀ n, (valV fk (.inr n)).isSome = (fs.lookup n).isSome := fun n => by
        rcases ent_find n pf with ⟨a1, a2⟩ | ⟨k, v, a1, a2, _⟩
        · rw [a1, a2]; rfl
        · rw [a1, a2]; rfl
      -- all names are fields
      refine ⟨a, .dK kvs, ha2, trivial, fun od => ⟨_, rfl, a, od, rfl, .inl ⟨kvs, upd_same, fun D hD => ?_⟩⟩⟩
      have na : (upd G2 a (.frz od (.dK kvs))) a = some (.frz od (.dK kvs)) := upd_same
      have hfaG : (upd G2 a (.frz od (.dK kvs))) fa = some (.dK fk) := by
        rw [upd_ne nfa]
        exact kB2.at0 hfa
      have nD : D ≠ a := fun z => by
        rw [z, upd_same] at hD
        cases hD
      refine lc_kp (T := T0) (walk_keys (kvs := kvs)) (i0 := 3) (fun i v => ∃ k u, kvs[i]? = some (k, u) ∧ v = kV k) (fun i zs _ => zs.isEmpty = (ds.take i).all (keyIn fun n => fs.lookup n)) (fun _ _ _ _ _ y => y) hD id (by omega) (wipe1 _ 3) (fun H1 k1 => k1.at0 na) rfl
        (fun i v zs H1 Ky Kn hi sx k1 d1 ez ky kn => ?_) (fun zs H1 k1 d1 lz ez => ?_)
      · obtain ⟨key, u, hk, rfl⟩ := sx
        obtain ⟨dv, hds, _⟩ := ddk_at r hk
        obtain ⟨n, en1, nn⟩ := allnm _ (List.mem_of_getElem? hds)
        have ekk : key = .inr n := by
          have en1 : dKey key = .str n := en1
          cases key with
          | inl j => cases en1
          | inr z => cases en1; rfl
        subst ekk
        have tk : (ds.take (i + 1)).all (keyIn fun n => fs.lookup n) = ((ds.take i).all (keyIn fun n => fs.lookup n) && (fs.lookup n).isSome) := by
          rw [List.take_add_one, hds, List.all_append]
          show (_ && ((keyIn (fun n => fs.lookup n) (dKey (.inr n), dv)) && true)) = _
          rw [Bool.and_true]
          rfl
        refine ⟨_, rfl, _, rfl, fa, valV fk (.inr n), rfl, .inl ⟨fk, .inr n, .inl (k1.at0 hfaG), rfl, rfl⟩, _, rfl, ?_⟩
        rw [inF n]
        cases en : (fs.lookup n).isSome with
        | true => exact iteF (kn _ (Kp.refl _) (by rw [tk, en, Bool.and_true]; exact ez))
        | false =>
          refine iteT ⟨_, rfl, ky _ _ (Kp.refl _) ?_⟩
          rw [tk, en, Bool.and_false]
          cases zs <;> rfl
      rw [ll, List.take_length] at ez
      refine ⟨k1.at0 na, ?_⟩
      have K3' := kp_unlock ha2 k1
      have ha3 : (upd H1 a (.dK kvs)) a = some (.dK kvs) := upd_same
      have d3 : (upd H1 a (.dK kvs)) D = some (.lst zs) := by
        rw [upd_ne nD]
        exact d1
      generalize upd H1 a (.dK kvs) = G3 at K3' ha3 d3 ⊢
      refine ⟨Nat.zero_le _, fun l0 hl0 => ?_⟩
      have g4 : Kp T0 G3 (upd G3 l0 (.lst [])) := (Kp.refl G3).new hl0
      refine ⟨D, l0, zs, rfl, rfl, g4.at0 d3, upd_same, _, rfl, ?_⟩
      have K4 := (K2.trans K3').trans g4
      have ha4 := g4.at0 ha3
      generalize upd G3 l0 (.lst []) = G4 at K4 ha4 ⊢
      rw [ez]
      cases ein : ds.all (keyIn fun n => fs.lookup n) with
      | false =>
        refine iteT ?_
        have z := q2 _ K4
        rw [all_false (p := keyIn fun n => fs.lookup n) (fun e => okP_in) ein] at z
        exact z
      | true =>
      refine iteF ?_
      have r4 : DdK (Oc B) G4 kvs ds := DdK.keep K4.wide r
      have kB4 := kB.trans K4
      -- the choices
      obtain ⟨rl, rok⟩ := rows_small kok (some x)
      have rl : (Gk.rowsOf cs x).length < 64 := rl
      have rok : ∀ p ∈ Gk.rowsOf cs x, RowOk p := rok
      refine ⟨.ref ft, .ref kt, ms, cs, x, rfl, rfl, fm.keep0 kB4, ⟨kt, rfl, K4.at0 hkt⟩, fun ra xs H5 k5 hra hps => ?_⟩
      generalize Gk.rowsOf cs x = rows at rl rok hps q2
      have lx : xs.length = rows.length := Paired.length hps
      have K5 := K4.trans k5
      refine for_it (walk_list (a := ra) (xs := xs)) (fun i st H6 => Kp T0 H5 H6 ∧ ((rows.take i).all fun c => decide ((c.filter fun n => hasK ds n).length < 2)) = true ∧ ∃ (o4 o6 : Option V), st = [some (.ref ft), some (.ref kt), some (.ref a), none, o4, some (.ref fa), o6])
        ⟨Kp.refl H5, rfl, none, none, rfl⟩ (fun i st H6 _ p => SqL.of (p.1.at0 hra)) (fun i v st H6 H7 hi p y => ?_) (fun st H6 p => ?_)
      · obtain ⟨k6, ok, o4, o6, rfl⟩ := p
        obtain ⟨rfl, sx⟩ := y
        obtain ⟨c, hc, ic⟩ := Ps.get hps sx
        obtain ⟨cl, cn⟩ := rok c (List.mem_of_getElem? hc)
        obtain ⟨cb, rfl, hcb⟩ := ic.keep0 k6
        have ha7 := (k5.trans k6).at0 ha4
        refine ⟨_, rfl, cb, rfl, ⟨_, SqT.of hcb⟩, fun D2 hD2 => ?_⟩
        refine lc_kp (T := T0) (walk_tup (xs := c.map V.str)) (i0 := 3) (fun j v => (c.map V.str)[j]? = some v) (fun j zs _ => zs = ((c.take j).filter fun n => hasK ds n).map V.str) (fun _ _ _ _ _ y => y) hD2 id (by rw [List.length_map]; omega) (wipe1 _ 3) (fun H5 k5 => SqT.of (k5.at0 hcb)) rfl
          (fun j v ws H8 Ky2 Kn2 hj sy k8 d8 pw ky2 kn2 => ?_) (fun ws H8 k8 d8 lw pw => ?_)
        · rw [List.getElem?_map] at sy
          cases ey : c[j]? with
          | none =>
            rw [ey] at sy
            cases sy
          | some y =>
            rw [ey] at sy
            cases Option.some.inj sy
            refine ⟨_, rfl, _, rfl, a, valV kvs (.inr y), rfl, .inl ⟨kvs, .inr y, .inl (k8.at0 ha7), rfl, rfl⟩, _, rfl, ?_⟩
            rw [hasK_val y r]
            have tk : (c.take (j + 1)).filter (fun n => hasK ds n) = (c.take j).filter (fun n => hasK ds n) ++ [y].filter (fun n => hasK ds n) := by
              rw [List.take_add_one, ey, List.filter_append]
              rfl
            cases eh : hasK ds y with
            | true =>
              refine iteT ⟨_, rfl, ?_⟩
              refine ky2 _ _ (Kp.refl _) ?_
              rw [pw, tk, List.filter_cons_of_pos (by rw [eh]), List.map_append]
              rfl
            | false =>
              refine iteF ?_
              refine kn2 _ (Kp.refl _) ?_
              rw [pw, tk, List.filter_cons_of_neg (by rw [eh]; exact Bool.false_ne_true), List.filter_nil, List.append_nil]
        rw [List.length_map, List.take_of_length_le (Nat.le_refl _)] at pw
        subst pw
        refine ⟨_, _, rfl, .inl ⟨_, SqL.of d8, rfl⟩, _, _, rfl, rfl, _, rfl, ?_⟩
        have k58 := k6.trans k8
        by_cases c2 : (c.filter fun n => hasK ds n).length < 2
        · rw [decide_eq_false (by rw [List.length_map]; omega)]
          refine iteF ⟨k58, ?_, _, _, rfl⟩
          rw [List.take_add_one, hc, List.all_append, ok, Bool.true_and]
          show (decide _ && true) = true
          rw [decide_eq_true c2]
          rfl
        · rw [decide_eq_true (by rw [List.length_map]; omega)]
          refine iteT ?_
          have z := q2 _ (K5.trans k58)
          have e : choB rows ds = false := by
            unfold choB
            cases e : rows.all fun c => decide ((c.filter fun n => hasK ds n).length < 2) with
            | false => rfl
            | true =>
              have z := List.all_eq_true.mp e c (List.mem_of_getElem? hc)
              rw [decide_eq_false c2] at z
              cases z
          rw [e, Bool.and_false] at z
          exact z
      · obtain ⟨k6, ok, o4, o6, rfl⟩ := p
        rw [lx, List.take_length] at ok
        have ecb : choB rows ds = true := ok
        rw [ecb] at q2
        have K6 := K5.trans k6
        refine ⟨_, rfl, _, rfl, _, rfl, .ref ft, fa, a, fk, B, ms, cs, fun n => fs.lookup n, ds, rfl, fm, kB.trans K6, S, kok, nfa, (kB.trans K6).at0 hfa, dd0.keep K6.wide, wf, depn, fun e me => ?_, fun H7 k7 => ?_⟩
        · obtain ⟨n, en1, nn⟩ := allnm e me
          have z := List.all_eq_true.mp ein e me
          unfold keyIn at z
          rw [en1] at z
          obtain ⟨k, ek⟩ := Option.isSome_iff_exists.mp z
          have ek : fs.lookup n = some k := ek
          rcases ent_find n pf with ⟨a1, _⟩ | ⟨k2, v, a1, a2, ip2⟩
          · rw [ek] at a1
            cases a1
          · rw [ek] at a1
            cases Option.some.inj a1
            exact ⟨n, v, k, en1, nn, ek, step_ok S okk (n := n) (by rw [step_msg, efs]; exact ek), a2, ip2.keep0 (kB.trans K6)⟩
        · have z := q2 H7 (K6.trans k7)
          rw [Bool.and_true] at z
          exact z
theorem ok_lwors {f fL fA : Addr} {fd fdA : FuncData} (F : Fun K "_law_is_worth" "_law_is_worth" sLWor f fd) (FA : Fun K "_law_are_worths" "_law_are_worths" sLAre fA fdA) (T : TxtW mg) (DL : Df P w K mg base 1 fL "_law_is_letters" ["value", "low", "high"] (spLLet K))
    (b : Binds K fd ["forms", "kind", "value"] []) (mgf : mg "_law_is_worth" = some (.ref f)) (kf : PySem.W.keepIn K (.ref f) = true) (bA : Binds K fdA ["forms", "kinds", "value"] []) (mgA : mg "_law_are_worths" = some (.ref fA)) (kA : PySem.W.keepIn K (.ref fA) = true) :
    ∀ n, FnOk P w K mg base CX0 (3 + 2 * n) f fd ["forms", "kind", "value"] (spLWor n) ∧ FnOk P w K mg base CX0 (4 + 2 * n) fA fdA ["forms", "kinds", "value"] (spLAre n)
  | 0 => by
    have h0 : FnOk P w K mg base CX0 (3 + 2 * 0) f fd ["forms", "kind", "value"] (spLWor 0) := fn_none fun vs H Q E h => by
      obtain ⟨_, _, _, _, _, _, _, d, _, _, _, _, _, _, _, _, _, lt, _⟩ := h
      exact absurd lt (Nat.not_lt_zero _)
    exact ⟨h0, ok_lare FA ⟨⟨_, h0, b⟩, mgf, kf⟩⟩
  | n + 1 => by
    obtain ⟨h1, h2⟩ := ok_lwors F FA T DL b mgf kf bA mgA kA n
    have h3 := ok_lwor F T DL ⟨⟨_, h2, bA⟩, mgA, kA⟩
    exact ⟨h3, ok_lare FA ⟨⟨_, h3, b⟩, mgf, kf⟩⟩
end
end Lw
/-! Gk16: texts repeated; what k01's own defs promise. -/
namespace Gk
open PySem PySem.Spec PyProof.Rows L2
open PySem.Builtin PySem.Builtin.Str in
theorem short_tool {k : Nat} (h : k ≤ 1000000) : tooLong k = false := by
  have : ¬ k > 2 ^ 24 := by omega
  simpa [tooLong, sizeLine] using this
def repS (x : Str) (n : Nat) : Str := ⟨(List.replicate n x.cps).foldl (· ++ ·) #[]⟩
theorem repS_one (x : Str) : repS x 1 = x := by
  unfold repS
  show (⟨#[] ++ x.cps⟩ : Str) = x
  rw [Array.empty_append]
def rMulS : R2 := fun x y H Q => ∃ (z : Str) (n : Nat), x = .str z ∧ y = .int (n : Int) ∧ n ≤ 1000 ∧ 1 ≤ z.length ∧ z.length ≤ 1000 ∧ Q (.str (repS z n)) H
theorem op_mulS {X : Cx} : OpR X (binaryOp .Mult) rMulS := by
  intro pins s σ H x y v u Q I rx ry h
  obtain ⟨z, n, rfl, rfl, hn, z1, hz, q⟩ := h
  obtain ⟨t, rfl⟩ := (show ∃ t, v = Value.str z t from rx)
  obtain ⟨t2, rfl⟩ := (show ∃ t, u = Value.int (n : Int) t from ry)
  have big : z.length * n ≤ 1000000 := Nat.mul_le_mul hz hn
  have fin : EP X pins σ Q (.str (repS z n) s.toks) { s with toks := s.toks + 1 } := ⟨.str (repS z n), H, I.tok _, ⟨_, rfl⟩, q⟩
  refine PySem.P.mul_str ?_ (fun h1 _ => ?_) (fun _ _ => ?_) ?_
  · rw [decide_eq_false (by omega), decide_eq_false (by omega)] <;> rfl
  · have : (z.length : Int) ≤ (2 ^ 63 - 1) / (n : Int) := by
      refine (Int.le_ediv_iff_mul_le (by omega)).mpr ?_
      have e : ((z.length : Int) * (n : Int)) = ((z.length * n : Nat) : Int) := by rw [Int.natCast_mul]
      rw [e]
      omega
    omega
  · rw [Int.toNat_natCast]
    exact short_tool big
  · by_cases c0 : (n : Int) < 1
    · rw [if_pos c0]
      have e : n = 0 := by omega
      subst e
      exact ⟨by decide, fin⟩
    · rw [if_neg c0]
      by_cases c1 : n = 1
      · have e : (((n : Int) == 1) || z.length == 0) = true := by rw [c1]; rfl
        rw [if_pos e]
        rw [c1, repS_one] at q
        exact ⟨.str z, H, I, ⟨_, rfl⟩, q⟩
      · have e : ¬ (((n : Int) == 1) || z.length == 0) = true := by
          rw [Bool.or_eq_true, beq_iff_eq, beq_iff_eq]
          omega
        rw [if_neg e, Int.toNat_natCast]
        exact ⟨fits_reps (short_tool big), fin⟩
/-! ### promises -/
def letters (x : Str) : Bool := x.cps.toList.all fun c => decide (c ∈ LET.cps.toList)
def spLett : Sp := fun vs H Q _ => ∃ x : Str, vs = [.str x] ∧ x.length < sizeLine ∧ PyData.strOk x = true ∧ ∀ H2, Kp T0 H H2 → Q (.bl (letters x)) H2
def notLet : R2 := fun x y H Q => ∃ (c : Nat) (z : Str), x = .str ⟨#[c]⟩ ∧ y = .str z ∧ Q (.bl (!decide (c ∈ z.cps.toList))) H
def sing (c : Nat) : Str := ⟨#[c]⟩
def others (l : List Nat) : List Nat := l.filter fun c => !decide (c ∈ LET.cps.toList)
theorem others_nil (l : List Nat) : (others l).isEmpty = l.all fun c => decide (c ∈ LET.cps.toList) := by
  unfold others
  induction l with
  | nil => rfl
  | cons c l ih =>
    by_cases h : c ∈ LET.cps.toList
    · rw [List.filter_cons_of_neg (by rw [decide_eq_true h]; exact Bool.false_ne_true), ih, List.all_cons, decide_eq_true h, Bool.true_and]
    · rw [List.filter_cons_of_pos (by rw [decide_eq_false h]; rfl), List.all_cons, decide_eq_false h, Bool.false_and]
      rfl
theorem isLet_letters (x : Str) (lo hi : Int) : isLet x lo hi = (decide (lo ≤ (x.length : Int)) && decide ((x.length : Int) ≤ hi) && letters x) := rfl
theorem dp_strs2 {K : PySem.W.Frag} {H : Hp} : ∀ l : List Str, DpAll K H (l.map V.str) (l.map PyData.str)
  | [] => .nil
  | x :: l => .cons (.str x) (dp_strs2 l)
theorem shaped_strs {l : List Str} (h : ∀ x ∈ l, PyData.strOk x = true) : SeqAt.shaped (.list (l.map PyData.str)) = true := by
  have h1 : PyData.canLayAll0 (l.map PyData.str) = true := by
    induction l with
    | nil => rfl
    | cons x l ih =>
      show (PyData.canLay0 (.str x) && PyData.canLayAll0 (l.map PyData.str)) = true
      rw [ih fun y hy => h y (List.mem_cons_of_mem _ hy), Bool.and_true]
      exact h x List.mem_cons_self
  have h2 : PyData.depthAll (l.map PyData.str) = 0 := by
    clear h1 h
    induction l with
    | nil => rfl
    | cons x l ih =>
      show max (PyData.depth (.str x)) (PyData.depthAll (l.map PyData.str)) = 0
      rw [ih] <;> rfl
  unfold SeqAt.shaped
  rw [show (PyData.list (l.map PyData.str)).canLay0 = true from h1, Bool.true_and]
  exact decide_eq_true (by show PyData.depthAll (l.map PyData.str) + 1 ≤ 64; omega)
/-- what is due of a value, as four bools in a new list -/
def dueL (kd : Kd) : List Bool := [nameK kd, textK kd, numK kd, flagK kd]
def OkK (kd : Kd) : Prop := ∀ x, kd = .s x → PyData.strOk x = true
def spDue (K : PySem.W.Frag) : Sp := fun vs H Q _ => ∃ (v : V) (kd : Kd), vs = [v] ∧ KdAt K H v kd ∧ OkK kd ∧ ∀ H2 l, Kp T0 H H2 → H2 l = some (.lst ((dueL kd).map V.bl)) → Q (.ref l) H2
end Gk
/-! Gk9: len of an own instance, properties. -/
namespace Gk
open PySem PySem.Spec PyProof.Rows L2
/-- len(o), o of a class that defines it -/
def rLenOwn (C : Addr) (sp : Sp) : List V → Hp → VK → Prop := fun xs H Q => ∃ (a dx : Addr) (fs : List (Str × V)), xs = [.ref a] ∧ H a = some (.ins C dx fs) ∧ sp [.ref a] H (fun r H2 => ∃ n : Int, r = .int n ∧ 0 ≤ n ∧ n < 2 ^ 63 ∧ Q (.int n) H2) E0
theorem call_lenOwn {X : Cx} {C f : Addr} {k : Nat} {ps : List Str} {sp : Sp} (D : Dm X.prog X.w X.K X.mg X.base C k "__len__" f ps sp) (hr : Room (k + 1) X.A) : CallR X (.builtin "len") (rLenOwn C sp) := by
  intro pins s σ H xs us Q I r h
  obtain ⟨a, dx, fs, rfl, ha, h⟩ := h
  obtain ⟨u, rfl, ru⟩ := vals1 r
  cases ru
  obtain ⟨fd, F, hb⟩ := D.ex
  obtain ⟨mA, J, _⟩ := ins_get I.hok ha
  obtain ⟨od, J, _⟩ := J.look
  obtain ⟨m, hF⟩ := I.fr
  refine PySem.W.len_K hF I.ok.mod.kin J D.me.at_ D.me.fn ?_
  refine thn (run_below (A := X.A.in1) F rfl hr.in1 hb pass0 I (show Vals [V.ref a] [Value.ref a] from .cons rfl .nil) h) fun u2 s2 q => ?_
  obtain ⟨z, H2, I2, rz, n, rfl, n0, n1, q2⟩ := q
  obtain ⟨t, rfl⟩ := (show ∃ t, u2 = Value.int n t from rz)
  exact ⟨⟨n0, n1⟩, .int n, H2, I2.tok _, ⟨_, rfl⟩, q2⟩
/-- a property and its promise -/
structure Pr (P : Program) (w : World) (K : PySem.W.Frag) (mg : Str → Option Value) (base : Heap) (C : Addr) (k : Nat) (m : Str) (sp : Sp) : Prop where
  ex : ∃ p g fd, PropOf K C m p g ∧ FnOk P w K mg base CX0 k g fd ["self"] sp ∧ Binds K fd ["self"] []
theorem pe_pr {X : Cx} {C : Addr} {k : Nat} {m : Str} {sp : Sp} {e : Expr} {pos : Pos} {ta : TE} (he : PE X e ta) (c : Cls X.K C) (D : Pr X.prog X.w X.K X.mg X.base C k m sp) (hr : Room (k + 1) X.A)
    (hab : attributeBase e m X.env (eval e X.env) = eval e X.env := by rfl) : PE X (.Attribute e m pos) (tProp C sp [] E0 ta) := by
  obtain ⟨p, g, fd, hp, F, b⟩ := D.ex
  exact pe_prop he c hp F hr b .nil pass0 hab
end Gk
/-! Gk10: readings of the masks' operators; what the laws want of covering. -/
namespace Gk
open PySem PySem.Spec PyProof.Rows L2
section
variable {K : PySem.W.Frag} {C : Addr} {H : Hp} {v u : V} {qs rs : List Pth} {Q : VK} {E : XK}
theorem IsM.ins (h : IsM C H v qs) : ∃ x dx r, v = .ref x ∧ H x = some (.ins C dx [("rows", .ref r)]) := by
  obtain ⟨x, dx, r, _, e, hx, _⟩ := h
  exact ⟨x, dx, r, e, hx⟩
theorem rd_and (i : IsM C H v qs) (j : IsM C H u rs) (lm : qs.length + rs.length ≤ MOST) (k : ∀ H2 z ts, Kp T0 H H2 → IsM C H2 z ts → ts.length ≤ qs.length + rs.length → Canon (bothP qs rs) ts → Q z H2) : rOwn C (spAndM C) E v u H Q := by
  obtain ⟨x, dx, r, rfl, hx⟩ := i.ins
  obtain ⟨y, dy, t, rfl, hy⟩ := j.ins
  exact ⟨x, y, dx, dy, _, _, rfl, rfl, hx, hy, _, _, qs, rs, rfl, i, j, lm, k⟩
theorem rd_or (i : IsM C H v qs) (j : IsM C H u rs) (lm : qs.length + rs.length ≤ MOST) (k : ∀ H2 z ts, Kp T0 H H2 → IsM C H2 z ts → ts.length ≤ qs.length + rs.length → Canon (qs ++ rs) ts → Q z H2) : rOwn C (spOrM C) E v u H Q := by
  obtain ⟨x, dx, r, rfl, hx⟩ := i.ins
  obtain ⟨y, dy, t, rfl, hy⟩ := j.ins
  exact ⟨x, y, dx, dy, _, _, rfl, rfl, hx, hy, _, _, qs, rs, rfl, i, j, lm, k⟩
theorem rd_eq (i : IsM C H v qs) (j : IsM C H u rs) (k : Q (.bl (decide (qs = rs))) H) : rOwn C (spEqM C) E v u H Q := by
  obtain ⟨x, dx, r, rfl, hx⟩ := i.ins
  obtain ⟨y, dy, t, rfl, hy⟩ := j.ins
  exact ⟨x, y, dx, dy, _, _, rfl, rfl, hx, hy, _, _, qs, rs, rfl, i, j, k⟩
theorem rd_ne (i : IsM C H v qs) (j : IsM C H u rs) (k : Q (.bl (!decide (qs = rs))) H) : rOwnNe C (spEqM C) E v u H Q := by
  obtain ⟨x, dx, r, rfl, hx⟩ := i.ins
  obtain ⟨y, dy, t, rfl, hy⟩ := j.ins
  exact ⟨x, y, dx, dy, _, _, rfl, rfl, hx, hy, _, _, qs, rs, rfl, i, j, _, rfl, k⟩
theorem rd_m {m : Str} {R : Prop} (i : IsM C H v qs) (n : (m == ("rows" : Str)) = false) (k : R) : ∃ a dx fs, v = .ref a ∧ H a = some (.ins C dx fs) ∧ fs.lookup m = none ∧ R := by
  obtain ⟨x, dx, r, rfl, hx⟩ := i.ins
  refine ⟨x, dx, _, rfl, hx, ?_, k⟩
  rw [List.lookup_cons, n]
  rfl
theorem rd_within (i : IsM C H v qs) (j : IsM C H u rs) (k : ∀ H2, Kp T0 H H2 → Q (.bl (withinP qs rs)) H2) : spWithinM C [v, u] H Q E := ⟨v, u, qs, rs, rfl, i, j, k⟩
theorem rd_in {p : Pth} {b : Bool} (i : IsM C H v qs) (ip : IsP H u p) (o : OkP p ∧ p ≠ []) (k : ∀ H2, Kp T0 H H2 → Q (.bl (if b then !coversP qs p else coversP qs p)) H2) : rOwnIn C (spInM K C) E b u v H Q := by
  obtain ⟨x, dx, r, rfl, hx⟩ := i.ins
  exact ⟨x, dx, _, rfl, hx, _, _, qs, rfl, i, .inl ⟨p, ip, o.1, o.2, fun H2 k2 => ⟨_, rfl, k H2 k2⟩⟩⟩
theorem rd_len (i : IsM C H v qs) (k : Q (.int (qs.length : Nat)) H) : rLenOwn C (spLenM C) [v] H Q := by
  have l := i.len
  obtain ⟨x, dx, r, rfl, hx⟩ := i.ins
  refine ⟨x, dx, _, rfl, hx, _, qs, rfl, i, _, rfl, Int.natCast_nonneg _, ?_, k⟩
  have : MOST = 100000 := rfl
  omega
theorem rd_paths (i : IsM C H v qs) (k : ∀ l ys, H l = none → Ps H ys qs → Q (.ref l) (upd H l (.lst ys))) : ∃ a dx fs, v = .ref a ∧ H a = some (.ins C dx fs) ∧ spPathsM C (.ref a :: []) H Q E := by
  obtain ⟨x, dx, r, rfl, hx⟩ := i.ins
  exact ⟨x, dx, _, rfl, hx, _, qs, rfl, i, k⟩
end
/-! ### the tape's changes seen from outside -/
theorem Kp.tape {H H2 : Hp} {t : Addr} {o : HO} (n : H t = none) (k : Kp (At t) (upd H t o) H2) : Kp T0 H H2 := by
  intro b x _ e
  have nb : b ≠ t := ne_of_none e n
  exact k b x nb (by rw [upd_ne nb]; exact e)
theorem sqp_drawn {K : PySem.W.Frag} {H : Hp} {l : Addr} {ys : List V} {ps : List Pth} {NM : List Str} (hn : NM.all isNm = true) (d : H l = some (.lst ys)) (hp : Ps H ys ps) (o : ∀ p ∈ ps, Drawn NM p) : SqP K H l ys ps :=
  ⟨.inl (SqL.of d), hp, fun p h => drawn_ok hn (o p h)⟩

/-! ### covering -/
def CM (qs : List Pth) : Prop := ∃ ps, Canon ps qs
theorem Canon.cm {ps qs : List Pth} (c : Canon ps qs) : CM qs := ⟨ps, c⟩
theorem cm_ext {qs rs : List Pth} (a : CM qs) (b : CM rs) (h : ∀ x, coversP qs x = coversP rs x) : qs = rs := by
  obtain ⟨_, c⟩ := a
  obtain ⟨_, d⟩ := b
  exact canon_ext c d h
theorem cov_and {qs rs ts : List Pth} (c : Canon (bothP qs rs) ts) (x : Pth) : coversP ts x = (coversP qs x && coversP rs x) := (c.covers x).trans (covers_both qs rs x)
theorem cov_or {qs rs ts : List Pth} (c : Canon (qs ++ rs) ts) (x : Pth) : coversP ts x = (coversP qs x || coversP rs x) := (c.covers x).trans (covers_app qs rs x)
theorem bool_ext {a b : Bool} (h : a = true ↔ b = true) : a = b := by
  cases a <;> cases b <;> simp_all
theorem within_or {qs rs ts : List Pth} (c : Canon (qs ++ rs) ts) (b : CM rs) : withinP qs rs = decide (ts = rs) := by
  refine bool_ext ?_
  rw [within_iff, decide_eq_true_eq]
  constructor
  · intro h
    refine cm_ext c.cm b fun x => ?_
    rw [cov_or c]
    cases e : coversP qs x with
    | false => rfl
    | true => rw [h x e]; rfl
  · intro h x hx
    rw [← h, cov_or c, hx]
    rfl
theorem within_and {qs rs ts : List Pth} (c : Canon (bothP qs rs) ts) (a : CM qs) : withinP qs rs = decide (ts = qs) := by
  refine bool_ext ?_
  rw [within_iff, decide_eq_true_eq]
  constructor
  · intro h
    refine cm_ext c.cm a fun x => ?_
    rw [cov_and c]
    cases e : coversP qs x with
    | false => rfl
    | true => rw [h x e]; rfl
  · intro h x hx
    rw [← h, cov_and c] at hx
    exact (Bool.and_eq_true_iff.mp hx).2
theorem eq_within {qs rs : List Pth} (a : CM qs) (b : CM rs) : decide (qs = rs) = (withinP qs rs && withinP rs qs) := by
  refine bool_ext ?_
  rw [Bool.and_eq_true, within_iff, within_iff, decide_eq_true_eq]
  constructor
  · rintro rfl
    exact ⟨fun _ h => h, fun _ h => h⟩
  · rintro ⟨h, g⟩
    exact cm_ext a b fun x => bool_ext ⟨h x, g x⟩
theorem within_cov {qs rs : List Pth} (h : ∀ x, coversP qs x = true → coversP rs x = true) : withinP qs rs = true := within_iff.mpr h
/-- some of a mask's paths are a mask -/
theorem canon_filter {ps qs : List Pth} (c : Canon ps qs) (f : Pth → Bool) : Canon (qs.filter f) (qs.filter f) := by
  refine ⟨c.asc.filter _, fun q => ⟨fun h => ⟨h, fun g hg ne => ?_⟩, fun h => h.1⟩⟩
  cases e : beginsP q g with
  | false => rfl
  | true => exact absurd (c.anti (List.mem_filter.mp h).1 (List.mem_filter.mp hg).1 e) ne
/-- a mask without one of its paths -/
theorem less_cov {ps qs : List Pth} (c : Canon ps qs) {p : Pth} (hp : p ∈ qs) : coversP (qs.filter fun q => !decide (q = p)) p = false := by
  refine covers_false.mpr fun f hf => ?_
  obtain ⟨mf, e⟩ := List.mem_filter.mp hf
  cases b : beginsP p f with
  | false => rfl
  | true =>
    rw [c.anti hp mf b] at e
    simp at e
theorem less_len : ∀ {qs : List Pth} {p : Pth}, Asc qs → p ∈ qs → (qs.filter fun q => !decide (q = p)).length + 1 = qs.length
  | q :: qs, p, a, h => by
    have a2 := List.Pairwise.of_cons a
    have a1 : ∀ {r : Pth}, r ∈ qs → ltP q r = true := fun m => List.rel_of_pairwise_cons a m
    by_cases e : q = p
    · subst e
      have n : q ∉ qs := fun m => by
        have l := a1 m
        rw [ltP_irrefl] at l
        cases l
      have f : (qs.filter fun r => !decide (r = q)) = qs := List.filter_eq_self.mpr fun r hr => by
        rw [decide_eq_false (fun z => n (by rw [← z]; exact hr))]
        rfl
      rw [List.filter_cons_of_neg (by rw [decide_eq_true rfl]; exact Bool.false_ne_true), f]
      rfl
    · have m : p ∈ qs := (List.mem_cons.mp h).resolve_left fun z => e z.symm
      rw [List.filter_cons_of_pos (by rw [decide_eq_false e]; rfl), List.length_cons, List.length_cons, less_len a2 m]
/-! ### rows of masks -/
/-- small masks -/
abbrev Ms (C : Addr) (H : Hp) : List V → List (List Pth) → Prop := Paired fun v qs => IsM C H v qs ∧ qs.length ≤ 6
theorem Ms.keep {T : Addr → Prop} {C : Addr} {H H2 : Hp} {vs : List V} {qss : List (List Pth)} (h : Ms C H vs qss) (k : Kp T H H2) (hT : Loose T H) : Ms C H2 vs qss := Paired.mapP h fun _ _ z => ⟨z.1.keep k hT, z.2⟩
theorem Ms.keep0 {C : Addr} {H H2 : Hp} {vs : List V} {qss : List (List Pth)} (h : Ms C H vs qss) (k : Kp T0 H H2) : Ms C H2 vs qss := h.keep k (loose0 H)
theorem Ms.snoc {C : Addr} {H : Hp} : ∀ {vs : List V} {qss : List (List Pth)} {v : V} {qs : List Pth}, Ms C H vs qss → IsM C H v qs → qs.length ≤ 6 → Ms C H (vs ++ [v]) (qss ++ [qs])
  | _, _, _, _, .nil, h, l => .cons ⟨h, l⟩ .nil
  | _, _, _, _, .cons r t, h, l => .cons r (Ms.snoc t h l)
theorem Ms.get {C : Addr} {H : Hp} : ∀ {vs : List V} {qss : List (List Pth)} {i : Nat} {v : V}, Ms C H vs qss → vs[i]? = some v → ∃ qs, IsM C H v qs ∧ qs.length ≤ 6
  | _, _, _, _, .nil, e => nomatch e
  | _, _, 0, _, .cons r _, e => by
    cases Option.some.inj e
    exact ⟨_, r⟩
  | _, _, _ + 1, _, .cons _ t, e => Ms.get t e
theorem Ms.three {C : Addr} {H : Hp} {vs : List V} {qss : List (List Pth)} (h : Ms C H vs qss) (l : vs.length = 3) :
    ∃ x y z q r s, vs = [x, y, z] ∧ (IsM C H x q ∧ q.length ≤ 6) ∧ (IsM C H y r ∧ r.length ≤ 6) ∧ (IsM C H z s ∧ s.length ≤ 6) := by
  match vs, qss, h, l with
  | [x, y, z], _, .cons a (.cons b (.cons c .nil)), _ => exact ⟨x, y, z, _, _, _, rfl, a, b, c⟩
theorem loose_lst {H : Hp} {D : Addr} {xs : List V} (d : H D = some (.lst xs)) : Loose (At D) H := by
  intro a o e q
  rw [show a = D from e, d] at q
  cases q
  exact ⟨(fun _ e => nomatch e), fun _ _ _ e => nomatch e⟩
theorem clamp {lo hi : Int} (h : lo ≤ hi) (n : Nat) : lo ≤ (if (if (n : Int) < hi then (n : Int) else hi) > lo then (if (n : Int) < hi then (n : Int) else hi) else lo) ∧ (if (if (n : Int) < hi then (n : Int) else hi) > lo then (if (n : Int) < hi then (n : Int) else hi) else lo) ≤ hi := by
  constructor
  · split
    · omega
    · omega
  · split
    · split <;> omega
    · omega
theorem less_within (qs : List Pth) (f : Pth → Bool) : withinP (qs.filter f) qs = true := within_cov fun x h => by
  obtain ⟨g, mg, b⟩ := covers_iff.mp h
  exact covers_iff.mpr ⟨g, (List.mem_filter.mp mg).1, b⟩
theorem cov_mem {qs : List Pth} {p : Pth} (h : p ∈ qs) : coversP qs p = true := covers_iff.mpr ⟨p, h, begins_self p⟩
theorem not_within {qs rs : List Pth} {p : Pth} (h : p ∈ qs) (n : coversP rs p = false) : withinP qs rs = false := by
  cases e : withinP qs rs with
  | false => rfl
  | true => rw [within_iff.mp e p (cov_mem h)] at n; cases n
end Gk
/-! Gk11: repr of True and False; values that are no rows. -/
namespace Gk
open PySem PySem.Spec PyProof.Rows L2
def boolS (b : Bool) : Str := if b then "True" else "False"
theorem call_repr_bool {X : Cx} : CallR X (.builtin "repr") (fun xs H Q => ∃ b, xs = [.bl b] ∧ Q (.str (boolS b)) H) := by
  intro pins s σ H xs us Q I r h
  obtain ⟨b, rfl, q⟩ := h
  obtain ⟨u, rfl, ru⟩ := vals1 r
  cases ru
  refine PySem.P.repr_of_bool ⟨.str (boolS b), H, I.tok _, ⟨s.toks, ?_⟩, q⟩
  cases b <;> rfl
/-- a value that is no row -/
def OddV (K : PySem.W.Frag) (H : Hp) (v : V) : Prop := (∃ (a : Addr) (xs : List V) (rs : List Bool) (ds : List PyData), v = .ref a ∧ H a = some (.tup xs) ∧ Paired (ItN K H) xs rs ∧ DpAll K H xs ds ∧ (PyData.tuple ds).canLay0 = true ∧ xs.length < sizeLine ∧ false = (!xs.isEmpty && rs.all id)) ∨ NoTup K H v
theorem OddV.keep0 {K : PySem.W.Frag} {H H2 : Hp} {v : V} (h : OddV K H v) (k : Kp T0 H H2) : OddV K H2 v := by
  rcases h with ⟨a, xs, rs, ds, e, ha, hp, hd, c, l, b⟩ | h
  · exact .inl ⟨a, xs, rs, ds, e, k.at0 ha, Paired.mapP hp fun _ _ z => z.keep0 k, dpAll_keep hd k, c, l, b⟩
  · exact .inr (h.keep0 k)
theorem rd_odd {K : PySem.W.Frag} {C : Addr} {H : Hp} {v u : V} {qs : List Pth} {Q : VK} {E : XK} (i : IsM C H v qs) (o : OddV K H u) (k : ∀ H2, Kp T0 H H2 → Q (.bl false) H2) : rOwnIn C (spInM K C) E false u v H Q := by
  obtain ⟨x, dx, r, rfl, hx⟩ := i.ins
  refine ⟨x, dx, _, rfl, hx, _, _, qs, rfl, i, .inr ⟨u, false, rfl, ?_, fun H2 k2 => ⟨rfl, _, rfl, k H2 k2⟩⟩⟩
  rcases o with ⟨a, xs, rs, ds, e, ha, hp, hd, c, l, b⟩ | o
  · exact .inl ⟨a, xs, rs, ds, e, ha, hp, hd, c, l, b⟩
  · exact .inr ⟨o, rfl⟩
/-- rows of values that are no rows -/
inductive Odds (K : PySem.W.Frag) (H : Hp) : List V → Prop
  | nil : Odds K H []
  | cons {v : V} {vs : List V} : OddV K H v → Odds K H vs → Odds K H (v :: vs)
theorem Odds.get {K : PySem.W.Frag} {H : Hp} : ∀ {vs : List V} {i : Nat} {v : V}, Odds K H vs → vs[i]? = some v → OddV K H v
  | _, _, _, .nil, e => nomatch e
  | _, 0, _, .cons h _, e => by
    cases Option.some.inj e
    exact h
  | _, _ + 1, _, .cons _ t, e => Odds.get t e
/-- a nested tuple around the text a -/
def Nest (H : Hp) : Nat → V → Prop
  | 0, v => v = .str "a"
  | n + 1, v => ∃ (a : Addr) (x : V), v = .ref a ∧ H a = some (.tup [x]) ∧ Nest H n x
def dNest : Nat → PyData
  | 0 => .str "a"
  | n + 1 => .tuple [dNest n]
theorem Nest.keep0 {H H2 : Hp} (k : Kp T0 H H2) : ∀ {n : Nat} {v : V}, Nest H n v → Nest H2 n v
  | 0, _, h => h
  | _ + 1, _, ⟨a, x, e, ha, h⟩ => ⟨a, x, e, k.at0 ha, Nest.keep0 k h⟩
theorem Nest.dp {K : PySem.W.Frag} {H : Hp} : ∀ {n : Nat} {v : V}, Nest H n v → Dp K H v (dNest n)
  | 0, _, h => by
    cases h
    exact .str _
  | _ + 1, _, ⟨a, x, e, ha, h⟩ => by
    cases e
    exact .tup (SqT.of ha) (.cons h.dp .nil)
theorem lay_nest : ∀ n : Nat, (dNest n).canLay0 = true
  | 0 => by decide +kernel
  | n + 1 => by
    show (PyData.canLay0 (dNest n) && PyData.canLayAll0 []) = true
    rw [lay_nest n]
    rfl
theorem Nest.odd {K : PySem.W.Frag} {H : Hp} {n : Nat} {v : V} (h : Nest H (n + 2) v) : OddV K H v := by
  obtain ⟨a, x, e, ha, h⟩ := h
  obtain ⟨b, y, e2, hb, h2⟩ := id h
  refine .inl ⟨a, [x], [false], [dNest (n + 1)], e, ha, .cons (.inr ⟨⟨.type "tuple", ?_, kit_ty (by decide +kernel)⟩, rfl⟩) .nil, .cons h.dp .nil, lay_nest (n + 2), (by show 1 < sizeLine; rw [sizeLine_eq]; decide), rfl⟩
  rw [e2]
  exact .base (.tup hb)
/-- what a law's own list of covering paths tells -/
theorem cov_any (ps : List Pth) (p : Pth) : (!(ps.filter (beginsP p)).isEmpty) = coversP ps p := by
  unfold coversP
  induction ps with
  | nil => rfl
  | cons q ps ih =>
    cases e : beginsP p q with
    | true => rw [List.filter_cons_of_pos e, List.any_cons, e]; rfl
    | false => rw [List.filter_cons_of_neg (by rw [e]; exact Bool.false_ne_true), List.any_cons, e, ih, Bool.false_or]
abbrev dL (ps : List Pth) : PyData := .list (ps.map dP)
theorem shaped_dL {ps : List Pth} (h : ∀ p ∈ ps, OkP p) : SeqAt.shaped (dL ps) = true := shaped_dM h
theorem eqv_dL (ps qs : List Pth) : PyData.eqv (dL ps) (dL qs) = decide (ps = qs) := eqv_paths ps qs
/-- a law's own reading of covering: paths a list -/
def spLCov (K : PySem.W.Frag) : Sp := fun vs H Q _ => ∃ (a : Addr) (xs : List V) (ps : List Pth) (v : V) (p : Pth), vs = [.ref a, v] ∧ SqL K H a xs ∧ Ps H xs ps ∧ xs.length ≤ MOST ∧ (∀ f ∈ ps, OkP f) ∧ IsP H v p ∧ OkP p ∧
  ∀ H2, Kp T0 H H2 → Q (.bl (coversP ps p)) H2
/-! ### paths made longer and shorter -/
theorem rd_catA {K : PySem.W.Frag} {H : Hp} {v : V} {p q : Pth} {b : Addr} {Q : VK} (hv : IsP H v p) (hb : H b = some (.tup (q.map V.str))) (nq : q ≠ []) (l : p.length + q.length ≤ 1000) (k : ∀ c H2, Kp T0 H H2 → IsP H2 (.ref c) (p ++ q) → Q (.ref c) H2) :
    rCatA K v (.ref b) H Q := by
  obtain ⟨a, rfl, ha⟩ := hv
  refine ⟨a, b, _, _, rfl, rfl, SqT.of ha, SqT.of hb, ?_, fun e => ?_, fun _ e => ?_, fun _ _ c hc => ?_⟩
  · rw [List.length_map, List.length_map, sizeLine_eq]
    omega
  · refine k b H (Kp.refl H) ⟨b, rfl, ?_⟩
    rw [hb, List.map_eq_nil_iff.mp e, List.nil_append]
  · exact absurd (List.map_eq_nil_iff.mp e) nq
  · refine k c _ ((Kp.refl H).new hc) ⟨c, rfl, ?_⟩
    rw [upd_same, List.map_append]
theorem cut_init (xs : List V) : cutV xs none (some (-1)) = xs.dropLast := by
  unfold cutV
  rw [HT.sIx_none, List.drop_zero, Nat.sub_zero, List.dropLast_eq_take]
  have e : HT.sIx xs.length xs.length (some (-1)) = ((-1 : Int) + (xs.length : Int)).toNat := rfl
  have e2 : ((-1 : Int) + (xs.length : Int)).toNat = xs.length - 1 := by omega
  rw [e, e2]
theorem rd_init {K : PySem.W.Frag} {H : Hp} {v : V} {p : Pth} {Q : VK} (hv : IsP H v p) (np : p ≠ []) (k : ∀ c H2, Kp T0 H H2 → IsP H2 (.ref c) p.dropLast → Q (.ref c) H2) : rSlA K v none (some (-1)) H Q := by
  obtain ⟨a, rfl, ha⟩ := hv
  refine ⟨a, _, rfl, SqT.of ha, fun z => ?_, fun _ c hc => ?_⟩
  · exfalso
    have z2 := z.2
    have e : HT.sIx (p.map V.str).length (p.map V.str).length (some (-1)) = ((-1 : Int) + ((p.map V.str).length : Int)).toNat := rfl
    rw [e, List.length_map] at z2
    have : p.length ≠ 0 := fun z => np (List.eq_nil_of_length_eq_zero z)
    omega
  · refine k c _ ((Kp.refl H).new hc) ⟨c, rfl, ?_⟩
    rw [upd_same, cut_init, List.map_dropLast]
/-- right paths -/
def Good (p : Pth) : Prop := OkP p ∧ p ≠ []
theorem Good.app {p q : Pth} (h : OkP p) (hq : q.all isNm = true) (nq : q ≠ []) (l : p.length + q.length ≤ 1000) : Good (p ++ q) := by
  refine ⟨⟨fun x hx => ?_, by rw [List.length_append]; exact l⟩, fun e => nq (List.append_eq_nil_iff.mp e).2⟩
  rcases List.mem_append.mp hx with m | m
  · exact h.1 x m
  · exact List.all_eq_true.mp hq x m
theorem OkP.init {p : Pth} (h : OkP p) : OkP p.dropLast := ⟨fun x hx => h.1 x (List.dropLast_subset p hx), Nat.le_trans (by rw [List.length_dropLast]; exact Nat.sub_le _ _) h.2⟩
/-- a list grows by right paths -/
structure Pile (H : Hp) (s : Addr) (n : Nat) : Prop where
  ex : ∃ us rs, H s = some (.lst us) ∧ Ps H us rs ∧ (∀ r ∈ rs, Good r) ∧ us.length ≤ n
theorem Pile.keep0 {H H2 : Hp} {s : Addr} {n : Nat} (h : Pile H s n) (k : Kp T0 H H2) : Pile H2 s n := by
  obtain ⟨us, rs, a, b, c, d⟩ := h.ex
  exact ⟨us, rs, k.at0 a, b.keep0 k, c, d⟩
theorem Pile.more {H : Hp} {s : Addr} {n : Nat} {us : List V} {rs : List Pth} {v : V} {p : Pth} (a : H s = some (.lst us)) (b : Ps H us rs) (c : ∀ r ∈ rs, Good r) (d : us.length ≤ n) (ip : IsP H v p) (g : Good p) : Pile (upd H s (.lst (us ++ [v]))) s (n + 1) := by
  refine ⟨us ++ [v], rs ++ [p], upd_same, (b.snoc ip).keep (T := At s) ((Kp.refl _).put rfl) fun b o e q => (loose_lst a b o e q).1, fun r hr => ?_, by rw [List.length_append]; exact Nat.succ_le_succ d⟩
  rcases List.mem_append.mp hr with m | m
  · exact c r m
  · rw [List.mem_singleton.mp m]
    exact g
theorem Pile.mono {H : Hp} {s : Addr} {n m : Nat} (h : Pile H s n) (l : n ≤ m) : Pile H s m := by
  obtain ⟨us, rs, a, b, c, d⟩ := h.ex
  exact ⟨us, rs, a, b, c, Nat.le_trans d l⟩
end Gk
/-! Gk65: str of a scalar; rows in another sequence judge alike; values that are judged and shown. -/
namespace Gk
open PySem PySem.Spec PyProof.Rows L2
def strOf : PyData → Option Str
  | .str x => some x
  | .int i => some (toString i)
  | .bool b => some (boolS b)
  | _ => none
theorem call_strV {X : Cx} : CallR X (.type "str") (fun xs H Q => ∃ v d, xs = [v] ∧ Sc v d ∧ (∀ i, d = .int i → i.natAbs.log2 < 1920) ∧ ∃ x, strOf d = some x ∧ Q (.str x) H) := by
  intro pins s σ H xs us Q I r h
  obtain ⟨v, d, rfl, sc, lg, x, ex, q⟩ := h
  obtain ⟨u, rfl, ru⟩ := vals1 r
  cases sc with
  | non => cases ex
  | bl b =>
    cases ru
    cases Option.some.inj ex
    refine PySem.P.str_of_bool ⟨.str (boolS b), H, I.tok _, ⟨s.toks, ?_⟩, q⟩
    cases b <;> rfl
  | int i =>
    obtain ⟨t, rfl⟩ := ru
    cases Option.some.inj ex
    exact PySem.P.str_of_int (lg i rfl) ⟨.str _, H, I.tok _, ⟨_, rfl⟩, q⟩
  | str y =>
    obtain ⟨t, rfl⟩ := ru
    cases Option.some.inj ex
    exact PySem.P.str_of_str ⟨.str _, H, I, ⟨t, rfl⟩, q⟩
/-! ### the sequence of rows -/
theorem choB_perm {r1 r2 : List Pth} (p : r1.Perm r2) (ds : List (PyData × PyData)) : choB r1 ds = choB r2 ds := by
  unfold choB
  cases e : r2.all fun c => decide ((c.filter fun n => hasK ds n).length < 2) with
  | true => exact List.all_eq_true.mpr fun c m => List.all_eq_true.mp e c (p.mem_iff.mp m)
  | false =>
    obtain ⟨c, m, h⟩ := List.all_eq_false.mp e
    exact List.all_eq_false.mpr ⟨c, p.mem_iff.mpr m, h⟩
mutual
theorem okK_perm {ms : Msgs} {cs ks : Cho} (p : ∀ n, (rowsOf ks n).Perm (rowsOf cs n)) : ∀ (d : PyData) (k : Kind), okK ms ks d k = okK ms cs d k
  | .str x, k => by rw [okK, okK]
  | .int i, k => by rw [okK, okK]
  | .bool b, k => by rw [okK, okK]
  | .list xs, k => by rw [okK, okK]
  | .tuple xs, k => by rw [okK, okK]
  | .none, k => by rw [okK, okK]
  | .dict ds, k => by
    match k with
    | [] => unfold okK; rfl
    | [x] => unfold okK; rfl
    | _ :: _ :: _ :: _ => unfold okK; rfl
    | [m, x] =>
      unfold okK
      show (if m = "message" then _ else _) = (if m = "message" then _ else _)
      rw [okE_perm p ds (fun n => (fldsOf ms x).lookup n), okE_perm p ds (fun _ => some [x]), choB_perm (p x)]
theorem okE_perm {ms : Msgs} {cs ks : Cho} (p : ∀ n, (rowsOf ks n).Perm (rowsOf cs n)) : ∀ (ds : List (PyData × PyData)) (f : Str → Option Kind), okE ms ks ds f = okE ms cs ds f
  | [], f => by rw [okE, okE]
  | (key, d) :: r, f => by
    unfold okE
    rw [okE_perm p r f]
    congr 1
    cases key with
    | str n =>
      show (isNm n && _) = (isNm n && _)
      congr 1
      cases f n with
      | none => rfl
      | some k => exact okK_perm p d k
    | _ => rfl
end
/-! ### values that are judged -/
structure ValJ (d : PyData) : Prop where
  wf : wfD d = true
  dep : d.depth < 12
  ok : DOk d
theorem SZ5 : SZ 5 ≤ 900000 := by decide
theorem SZ_mono : ∀ {m n : Nat}, m ≤ n → SZ m ≤ SZ n
  | 0, _, _ => Nat.zero_le _
  | m + 1, n, h => by
    match n, h with
    | n + 1, h =>
      have := SZ_mono (m := m) (n := n) (by omega)
      show 6 * (SZ m + 86) + 20 ≤ 6 * (SZ n + 86) + 20
      omega
theorem drawnJ {m : Nat} {d : PyData} (hm : m ≤ 5) (h : DrawnD m d) : ValJ d := by
  obtain ⟨a, b, c, s⟩ := drawnD_ok m h
  refine ⟨a, by omega, c, by omega, ?_⟩
  have := SZ_mono hm
  have := SZ5
  omega
end Gk
namespace Lw
open PySem L2 Gk
abbrev sForms : Stmt := topS 39
theorem seq_asg {te : TE} {i : Nat} {u : TS} {D : Ends} {st : L2.St} {H : Hp} (h : te st H fun x H1 => u D (st.set i (some x)) H1) : tSeq (tAsg te (gName i)) u D st H := h
theorem ret_tup2 {t1 t2 : TE} {D : Ends} {st : L2.St} {H : Hp} (h : t1 st H fun x H1 => t2 st H1 fun y H2 => 2 ≤ sizeLine ∧ ∀ p, H2 p = none → D.rt (.ref p) (upd H2 p (.tup [x, y]))) : tRet (tTup (tCons t1 (tCons t2 tNil))) D st H := h
theorem weak1 {H : Hp} {v : V} {ms : Msgs} (h : IsD2 IsF1 H v ms) : IsD2 IsF H v ms := by
  obtain ⟨a, kvs, e, d, p⟩ := h
  exact ⟨a, kvs, e, d, ent_map p fun _ _ _ z => z.1⟩
section
variable {P : Program} {w : World} {K : PySem.W.Frag} {mg : Str → Option Value} {base : Heap}
theorem scForms : FnScope ["tape", "text", "flag", "number", "road", "top", "one"] ["tape"] (defScope sForms) := ⟨rfl, rfl, rfl, by decide +kernel, rfl, by decide +kernel, by decide +kernel⟩
theorem ok_forms {f fP : Addr} {fd : FuncData} (F : Fun K "_law_forms" "_law_forms" sForms f fd) (DP : Df P w K mg base 1 fP "_law_pick" ["tape", "many"] spPick) : FnOk P w K mg base CX0 2 f fd ["tape"] spForms := by
  refine F.ok scForms (fun vs H Q E h => ?_) (fun cdv A outer s H vs Q E hr h => ?_)
  · obtain ⟨_, rfl, _⟩ := h
    rfl
  · obtain ⟨t, rfl, ta, k⟩ := h
    refine ⟨_, (pss_cons (ps_asg (pe_tup (pa_cons (pe_tup (pa_cons pe_str pa_nil)) (pa_cons (pe_tup (pa_cons pe_str pa_nil)) (pa_cons (pe_tup (pa_cons pe_str pa_nil)) pa_nil)))) (pg_tup rfl (pgs_cons (pg_name (i := 1) scForms.nd rfl (Or.inl rfl)) (pgs_cons (pg_name (i := 2) scForms.nd rfl (Or.inl rfl)) (pgs_cons (pg_name (i := 3) scForms.nd rfl (Or.inl rfl)) pgs_nil)))))
      (pss_cons (ps_set (i := 4) scForms.nd rfl (Or.inl rfl) (pe_df DP hr (by rfl) (pa_cons (pv 0) (pa_cons pe_int pa_nil))))
      (pss_cons (ps_if (pt_cmpR op_eq (pv 4) pe_int (nomark _)) (pss_cons (ps_set (i := 5) scForms.nd rfl (Or.inl rfl) (pe_disp (pps_cons pe_str (pv 1) (pps_cons pe_str (pv 1) (pps_cons pe_str (pv 2) (pps_cons pe_str (pv 1) pps_nil)))) (by rfl) (by rfl) (fun z => by cases z) (by decide))) (pss_one (ps_ret (pe_tup (pa_cons (pe_disp (pps_cons pe_str (pv 5) pps_nil) (by rfl) (by rfl) (fun z => by cases z) (by decide)) (pa_cons (pe_disp (pps_cons pe_str (pe_lst (pa_cons (pe_tup (pa_cons pe_str (pa_cons pe_str (pa_cons pe_str pa_nil)))) pa_nil)) pps_nil) (by rfl) (by rfl) (fun z => by cases z) (by decide)) pa_nil)))))) pss_nil)
      (pss_cons (ps_if (pt_cmpR op_eq (pv 4) pe_int (nomark _)) (pss_cons (ps_set (i := 5) scForms.nd rfl (Or.inl rfl) (pe_disp (pps_cons pe_str (pv 2) (pps_cons pe_str (pv 2) (pps_cons pe_str (pv 2) (pps_cons pe_str (pv 3) (pps_cons pe_str (pe_tup (pa_cons pe_str (pa_cons pe_str pa_nil))) pps_nil))))) (by rfl) (by rfl) (fun z => by cases z) (by decide))) (pss_one (ps_ret (pe_tup (pa_cons (pe_disp (pps_cons pe_str (pv 5) pps_nil) (by rfl) (by rfl) (fun z => by cases z) (by decide)) (pa_cons (pe_disp (pps_cons pe_str (pe_lst (pa_cons (pe_tup (pa_cons pe_str (pa_cons pe_str pa_nil))) (pa_cons (pe_tup (pa_cons pe_str (pa_cons pe_str pa_nil))) pa_nil))) pps_nil) (by rfl) (by rfl) (fun z => by cases z) (by decide)) pa_nil)))))) pss_nil)
      (pss_cons (ps_if (pt_cmpR op_eq (pv 4) pe_int (nomark _)) (pss_cons (ps_set (i := 6) scForms.nd rfl (Or.inl rfl) (pe_disp (pps_cons pe_str (pv 1) (pps_cons pe_str (pv 1) (pps_cons pe_str (pe_tup (pa_cons pe_str (pa_cons pe_str pa_nil))) pps_nil))) (by rfl) (by rfl) (fun z => by cases z) (by decide))) (pss_cons (ps_set (i := 5) scForms.nd rfl (Or.inl rfl) (pe_disp (pps_cons pe_str (pe_tup (pa_cons pe_str (pa_cons pe_str pa_nil))) (pps_cons pe_str (pe_tup (pa_cons pe_str (pa_cons pe_str pa_nil))) (pps_cons pe_str (pv 1) pps_nil))) (by rfl) (by rfl) (fun z => by cases z) (by decide))) (pss_one (ps_ret (pe_tup (pa_cons (pe_disp (pps_cons pe_str (pv 5) (pps_cons pe_str (pv 6) pps_nil)) (by rfl) (by rfl) (fun z => by cases z) (by decide)) (pa_cons (pe_disp (pps_cons pe_str (pe_lst (pa_cons (pe_tup (pa_cons pe_str (pa_cons pe_str (pa_cons pe_str pa_nil)))) pa_nil)) (pps_cons pe_str (pe_lst (pa_cons (pe_tup (pa_cons pe_str (pa_cons pe_str pa_nil))) pa_nil)) pps_nil)) (by rfl) (by rfl) (fun z => by cases z) (by decide)) pa_nil))))))) pss_nil)
      (pss_cons (ps_set (i := 5) scForms.nd rfl (Or.inl rfl) (pe_disp (pps_cons pe_str (pv 1) (pps_cons pe_str (pe_tup (pa_cons pe_str (pa_cons pe_str pa_nil))) (pps_cons pe_str (pe_tup (pa_cons pe_str (pa_cons pe_str pa_nil))) (pps_cons pe_str (pv 3) pps_nil)))) (by rfl) (by rfl) (fun z => by cases z) (by decide))) (pss_cons (ps_set (i := 6) scForms.nd rfl (Or.inl rfl) (pe_disp (pps_cons pe_str (pv 1) (pps_cons pe_str (pv 2) (pps_cons pe_str (pe_tup (pa_cons pe_str (pa_cons pe_str pa_nil))) pps_nil))) (by rfl) (by rfl) (fun z => by cases z) (by decide))) (pss_one (ps_ret (pe_tup (pa_cons (pe_disp (pps_cons pe_str (pv 5) (pps_cons pe_str (pv 6) (pps_cons pe_str (pe_disp (pps_cons pe_str (pv 1) pps_nil) (by rfl) (by rfl) (fun z => by cases z) (by decide)) pps_nil))) (by rfl) (by rfl) (fun z => by cases z) (by decide)) (pa_cons (pe_disp (pps_cons pe_str (pe_lst (pa_cons (pe_tup (pa_cons pe_str (pa_cons pe_str pa_nil))) pa_nil)) pps_nil) (by rfl) (by rfl) (fun z => by cases z) (by decide)) pa_nil)))))))))))), ?_⟩
    refine ⟨(by show 1 ≤ sizeLine; decide), fun a1 h1 => ⟨(by show 1 ≤ sizeLine; decide), fun a2 h2 => ⟨(by show 1 ≤ sizeLine; decide), fun a3 h3 => ?_⟩⟩⟩
    have k1 := (Kp.refl (T := T0) H).new (o := .tup [.str "text"]) h1
    have i1 : IsP (upd H a1 (.tup [.str "text"])) (.ref a1) ["text"] := ⟨a1, rfl, upd_same⟩
    generalize upd H a1 (.tup [.str "text"]) = H1 at k1 i1 h2 h3 ⊢
    have k2 := (Kp.refl (T := T0) H1).new (o := .tup [.str "flag"]) h2
    have i2 : IsP (upd H1 a2 (.tup [.str "flag"])) (.ref a2) ["flag"] := ⟨a2, rfl, upd_same⟩
    generalize upd H1 a2 (.tup [.str "flag"]) = H2 at k2 i2 h3 ⊢
    have k3 := (Kp.refl (T := T0) H2).new (o := .tup [.str "number"]) h3
    have i3 : IsP (upd H2 a3 (.tup [.str "number"])) (.ref a3) ["number"] := ⟨a3, rfl, upd_same⟩
    generalize upd H2 a3 (.tup [.str "number"]) = H3 at k3 i3 ⊢
    generalize V.ref a1 = v1 at i1 ⊢
    generalize V.ref a2 = v2 at i2 ⊢
    generalize V.ref a3 = v3 at i3 ⊢
    refine ⟨(by show 3 ≤ sizeLine; decide), fun tp htp => ?_⟩
    have kp := (Kp.refl (T := T0) H3).new (o := .tup [v1, v2, v3]) htp
    have K3 := ((k1.trans k2).trans k3).trans kp
    have i1 := ((i1.keep0 k2).keep0 k3).keep0 kp
    have i2 := (i2.keep0 k3).keep0 kp
    have i3 := i3.keep0 kp
    refine ⟨tp, [v1, v2, v3], rfl, SqT.of upd_same, rfl, _, _, rfl, _, _, rfl, _, _, rfl, rfl, ?_⟩
    refine ⟨_, rfl, t, 4, rfl, ta.keep K3, by decide, by decide, fun H4 r k4 ta4 r0 r4 => ?_⟩
    have K4 : Kp (At t) H H4 := K3.wide.trans k4
    have i1 := i1.tape k4 (ta.keep K3)
    have i2 := i2.tape k4 (ta.keep K3)
    have i3 := i3.tape k4 (ta.keep K3)
    have f1 : ∀ H5, Kp T0 H4 H5 → IsP H5 v1 ["text"] := fun H5 k5 => i1.keep0 k5
    have f2 : ∀ H5, Kp T0 H4 H5 → IsP H5 v2 ["flag"] := fun H5 k5 => i2.keep0 k5
    have f3 : ∀ H5, Kp T0 H4 H5 → IsP H5 v3 ["number"] := fun H5 k5 => i3.keep0 k5
    have r5 : r = 0 ∨ r = 1 ∨ r = 2 ∨ r = 3 := by omega
    rcases r5 with rfl | rfl | rfl | rfl
    · skip
      refine ⟨_, rfl, rfl, _, rfl, iteT ?_⟩
      have g1 := (gv_disp (st := [some (.ref t), some v1, some v2, some v3, some (.int 0), none, none]) (H0 := H4) firm_p [("a", (tVar 1), ["text"]), ("ab", (tVar 1), ["text"]), ("f", (tVar 2), ["flag"]), ("x", (tVar 1), ["text"])] (gc (gv_var rfl f1) (gc (gv_var rfl f1) (gc (gv_var rfl f2) (gc (gv_var rfl f1) gn)))) (by decide) (by decide))
      refine seq_asg (g1 H4 _ (Kp.refl H4) fun w1 J1 j1 z1 => ?_)
      have q1 : Kp T0 H4 J1 := (Kp.refl H4).trans j1
      have F1 : ∀ H5, Kp T0 J1 H5 → IsF1 H5 w1 [("a", ["text"]), ("ab", ["text"]), ("f", ["flag"]), ("x", ["text"])] := fun H5 k5 => firm_f.keep k5 ⟨z1, by decide⟩
      have gM := (gv_disp (st := [some (.ref t), some v1, some v2, some v3, some (.int 0), some w1, none]) (H0 := J1) firm_f [("top", (tVar 5), [("a", ["text"]), ("ab", ["text"]), ("f", ["flag"]), ("x", ["text"])])] (gc (gv_var rfl (fun H5 k5 => F1 H5 k5)) gn) (by decide) (by decide))
      have gC := (gv_disp (st := [some (.ref t), some v1, some v2, some v3, some (.int 0), some w1, none]) (H0 := J1) firm_rs [("top", (tLst (tCons (tTup (tCons (tC (.str "a")) (tCons (tC (.str "ab")) (tCons (tC (.str "f")) tNil)))) tNil)), [["a", "ab", "f"]])] (gc (gv_rows [((tTup (tCons (tC (.str "a")) (tCons (tC (.str "ab")) (tCons (tC (.str "f")) tNil)))), ["a", "ab", "f"])] (gc (gv_tup ["a", "ab", "f"] (by decide)) gn) (by decide)) gn) (by decide) (by decide))
      refine ret_tup2 (gM J1 _ (Kp.refl _) fun mv JM jM zM => ?_)
      refine gC JM _ jM fun cv JC jC zC => ?_
      refine ⟨(by show 2 ≤ sizeLine; decide), fun tt htt => ?_⟩
      have kt := (Kp.refl (T := T0) JC).new (o := .tup [mv, cv]) htt
      have KE := (q1.trans jM).trans (jC.trans kt)
      refine k _ _ 0 (by decide) (K4.trans KE.wide) (ta4.keep KE) ⟨tt, mv, cv, rfl, upd_same, (weak1 zM).keepF (jC.trans kt), IsD2.keepR zC kt⟩
    · skip
      refine ⟨_, rfl, rfl, _, rfl, iteF ?_⟩
      refine ⟨_, rfl, rfl, _, rfl, iteT ?_⟩
      have g1 := (gv_disp (st := [some (.ref t), some v1, some v2, some v3, some (.int 1), none, none]) (H0 := H4) firm_p [("f", (tVar 2), ["flag"]), ("g", (tVar 2), ["flag"]), ("h", (tVar 2), ["flag"]), ("n", (tVar 3), ["number"]), ("q", (tTup (tCons (tC (.str "map")) (tCons (tC (.str "flag")) tNil))), ["map", "flag"])] (gc (gv_var rfl f2) (gc (gv_var rfl f2) (gc (gv_var rfl f2) (gc (gv_var rfl f3) (gc (gv_tup ["map", "flag"] (by decide)) gn))))) (by decide) (by decide))
      refine seq_asg (g1 H4 _ (Kp.refl H4) fun w1 J1 j1 z1 => ?_)
      have q1 : Kp T0 H4 J1 := (Kp.refl H4).trans j1
      have F1 : ∀ H5, Kp T0 J1 H5 → IsF1 H5 w1 [("f", ["flag"]), ("g", ["flag"]), ("h", ["flag"]), ("n", ["number"]), ("q", ["map", "flag"])] := fun H5 k5 => firm_f.keep k5 ⟨z1, by decide⟩
      have gM := (gv_disp (st := [some (.ref t), some v1, some v2, some v3, some (.int 1), some w1, none]) (H0 := J1) firm_f [("top", (tVar 5), [("f", ["flag"]), ("g", ["flag"]), ("h", ["flag"]), ("n", ["number"]), ("q", ["map", "flag"])])] (gc (gv_var rfl (fun H5 k5 => F1 H5 k5)) gn) (by decide) (by decide))
      have gC := (gv_disp (st := [some (.ref t), some v1, some v2, some v3, some (.int 1), some w1, none]) (H0 := J1) firm_rs [("top", (tLst (tCons (tTup (tCons (tC (.str "f")) (tCons (tC (.str "n")) tNil))) (tCons (tTup (tCons (tC (.str "g")) (tCons (tC (.str "q")) tNil))) tNil))), [["f", "n"], ["g", "q"]])] (gc (gv_rows [((tTup (tCons (tC (.str "f")) (tCons (tC (.str "n")) tNil))), ["f", "n"]), ((tTup (tCons (tC (.str "g")) (tCons (tC (.str "q")) tNil))), ["g", "q"])] (gc (gv_tup ["f", "n"] (by decide)) (gc (gv_tup ["g", "q"] (by decide)) gn)) (by decide)) gn) (by decide) (by decide))
      refine ret_tup2 (gM J1 _ (Kp.refl _) fun mv JM jM zM => ?_)
      refine gC JM _ jM fun cv JC jC zC => ?_
      refine ⟨(by show 2 ≤ sizeLine; decide), fun tt htt => ?_⟩
      have kt := (Kp.refl (T := T0) JC).new (o := .tup [mv, cv]) htt
      have KE := (q1.trans jM).trans (jC.trans kt)
      refine k _ _ 1 (by decide) (K4.trans KE.wide) (ta4.keep KE) ⟨tt, mv, cv, rfl, upd_same, (weak1 zM).keepF (jC.trans kt), IsD2.keepR zC kt⟩
    · skip
      refine ⟨_, rfl, rfl, _, rfl, iteF ?_⟩
      refine ⟨_, rfl, rfl, _, rfl, iteF ?_⟩
      refine ⟨_, rfl, rfl, _, rfl, iteT ?_⟩
      have g1 := (gv_disp (st := [some (.ref t), some v1, some v2, some v3, some (.int 2), none, none]) (H0 := H4) firm_p [("a", (tVar 1), ["text"]), ("b", (tVar 1), ["text"]), ("k", (tTup (tCons (tC (.str "map")) (tCons (tC (.str "number")) tNil))), ["map", "number"])] (gc (gv_var rfl f1) (gc (gv_var rfl f1) (gc (gv_tup ["map", "number"] (by decide)) gn))) (by decide) (by decide))
      refine seq_asg (g1 H4 _ (Kp.refl H4) fun w1 J1 j1 z1 => ?_)
      have q1 : Kp T0 H4 J1 := (Kp.refl H4).trans j1
      have F1 : ∀ H5, Kp T0 J1 H5 → IsF1 H5 w1 [("a", ["text"]), ("b", ["text"]), ("k", ["map", "number"])] := fun H5 k5 => firm_f.keep k5 ⟨z1, by decide⟩
      have g2 := (gv_disp (st := [some (.ref t), some v1, some v2, some v3, some (.int 2), none, some w1]) (H0 := H4) firm_p [("m", (tTup (tCons (tC (.str "message")) (tCons (tC (.str "one")) tNil))), ["message", "one"]), ("n", (tTup (tCons (tC (.str "message")) (tCons (tC (.str "one")) tNil))), ["message", "one"]), ("s", (tVar 1), ["text"])] (gc (gv_tup ["message", "one"] (by decide)) (gc (gv_tup ["message", "one"] (by decide)) (gc (gv_var rfl f1) gn))) (by decide) (by decide))
      refine seq_asg (g2 J1 _ q1 fun w2 J2 j2 z2 => ?_)
      have q2 : Kp T0 H4 J2 := q1.trans j2
      have F2 : ∀ H5, Kp T0 J2 H5 → IsF1 H5 w2 [("m", ["message", "one"]), ("n", ["message", "one"]), ("s", ["text"])] := fun H5 k5 => firm_f.keep k5 ⟨z2, by decide⟩
      have gM := (gv_disp (st := [some (.ref t), some v1, some v2, some v3, some (.int 2), some w2, some w1]) (H0 := J2) firm_f [("top", (tVar 5), [("m", ["message", "one"]), ("n", ["message", "one"]), ("s", ["text"])]), ("one", (tVar 6), [("a", ["text"]), ("b", ["text"]), ("k", ["map", "number"])])] (gc (gv_var rfl (fun H5 k5 => F2 H5 k5)) (gc (gv_var rfl (fun H5 k5 => F1 H5 (j2.trans k5))) gn)) (by decide) (by decide))
      have gC := (gv_disp (st := [some (.ref t), some v1, some v2, some v3, some (.int 2), some w2, some w1]) (H0 := J2) firm_rs [("top", (tLst (tCons (tTup (tCons (tC (.str "m")) (tCons (tC (.str "n")) (tCons (tC (.str "s")) tNil)))) tNil)), [["m", "n", "s"]]), ("one", (tLst (tCons (tTup (tCons (tC (.str "a")) (tCons (tC (.str "b")) tNil))) tNil)), [["a", "b"]])] (gc (gv_rows [((tTup (tCons (tC (.str "m")) (tCons (tC (.str "n")) (tCons (tC (.str "s")) tNil)))), ["m", "n", "s"])] (gc (gv_tup ["m", "n", "s"] (by decide)) gn) (by decide)) (gc (gv_rows [((tTup (tCons (tC (.str "a")) (tCons (tC (.str "b")) tNil))), ["a", "b"])] (gc (gv_tup ["a", "b"] (by decide)) gn) (by decide)) gn)) (by decide) (by decide))
      refine ret_tup2 (gM J2 _ (Kp.refl _) fun mv JM jM zM => ?_)
      refine gC JM _ jM fun cv JC jC zC => ?_
      refine ⟨(by show 2 ≤ sizeLine; decide), fun tt htt => ?_⟩
      have kt := (Kp.refl (T := T0) JC).new (o := .tup [mv, cv]) htt
      have KE := (q2.trans jM).trans (jC.trans kt)
      refine k _ _ 2 (by decide) (K4.trans KE.wide) (ta4.keep KE) ⟨tt, mv, cv, rfl, upd_same, (weak1 zM).keepF (jC.trans kt), IsD2.keepR zC kt⟩
    · skip
      refine ⟨_, rfl, rfl, _, rfl, iteF ?_⟩
      refine ⟨_, rfl, rfl, _, rfl, iteF ?_⟩
      refine ⟨_, rfl, rfl, _, rfl, iteF ?_⟩
      have g1 := (gv_disp (st := [some (.ref t), some v1, some v2, some v3, some (.int 3), none, none]) (H0 := H4) firm_p [("a", (tVar 1), ["text"]), ("m", (tTup (tCons (tC (.str "message")) (tCons (tC (.str "one")) tNil))), ["message", "one"]), ("q", (tTup (tCons (tC (.str "map")) (tCons (tC (.str "text")) tNil))), ["map", "text"]), ("z", (tVar 3), ["number"])] (gc (gv_var rfl f1) (gc (gv_tup ["message", "one"] (by decide)) (gc (gv_tup ["map", "text"] (by decide)) (gc (gv_var rfl f3) gn)))) (by decide) (by decide))
      refine seq_asg (g1 H4 _ (Kp.refl H4) fun w1 J1 j1 z1 => ?_)
      have q1 : Kp T0 H4 J1 := (Kp.refl H4).trans j1
      have F1 : ∀ H5, Kp T0 J1 H5 → IsF1 H5 w1 [("a", ["text"]), ("m", ["message", "one"]), ("q", ["map", "text"]), ("z", ["number"])] := fun H5 k5 => firm_f.keep k5 ⟨z1, by decide⟩
      have g2 := (gv_disp (st := [some (.ref t), some v1, some v2, some v3, some (.int 3), some w1, none]) (H0 := H4) firm_p [("a", (tVar 1), ["text"]), ("c", (tVar 2), ["flag"]), ("d", (tTup (tCons (tC (.str "message")) (tCons (tC (.str "two")) tNil))), ["message", "two"])] (gc (gv_var rfl f1) (gc (gv_var rfl f2) (gc (gv_tup ["message", "two"] (by decide)) gn))) (by decide) (by decide))
      refine seq_asg (g2 J1 _ q1 fun w2 J2 j2 z2 => ?_)
      have q2 : Kp T0 H4 J2 := q1.trans j2
      have F2 : ∀ H5, Kp T0 J2 H5 → IsF1 H5 w2 [("a", ["text"]), ("c", ["flag"]), ("d", ["message", "two"])] := fun H5 k5 => firm_f.keep k5 ⟨z2, by decide⟩
      have gM := (gv_disp (st := [some (.ref t), some v1, some v2, some v3, some (.int 3), some w1, some w2]) (H0 := J2) firm_f [("top", (tVar 5), [("a", ["text"]), ("m", ["message", "one"]), ("q", ["map", "text"]), ("z", ["number"])]), ("one", (tVar 6), [("a", ["text"]), ("c", ["flag"]), ("d", ["message", "two"])]), ("two", (tDisp [((tC (.str "x")), (tVar 1))]), [("x", ["text"])])] (gc (gv_var rfl (fun H5 k5 => F1 H5 (j2.trans k5))) (gc (gv_var rfl (fun H5 k5 => F2 H5 k5)) (gc (((gv_disp firm_p [("x", (tVar 1), ["text"])] (gc (gv_var rfl (fun H5 k5 => f1 H5 (q2.trans k5))) gn) (by decide) (by decide))).mono fun _ _ z => ⟨z, by decide⟩) gn))) (by decide) (by decide))
      have gC := (gv_disp (st := [some (.ref t), some v1, some v2, some v3, some (.int 3), some w1, some w2]) (H0 := J2) firm_rs [("one", (tLst (tCons (tTup (tCons (tC (.str "a")) (tCons (tC (.str "d")) tNil))) tNil)), [["a", "d"]])] (gc (gv_rows [((tTup (tCons (tC (.str "a")) (tCons (tC (.str "d")) tNil))), ["a", "d"])] (gc (gv_tup ["a", "d"] (by decide)) gn) (by decide)) gn) (by decide) (by decide))
      refine ret_tup2 (gM J2 _ (Kp.refl _) fun mv JM jM zM => ?_)
      refine gC JM _ jM fun cv JC jC zC => ?_
      refine ⟨(by show 2 ≤ sizeLine; decide), fun tt htt => ?_⟩
      have kt := (Kp.refl (T := T0) JC).new (o := .tup [mv, cv]) htt
      have KE := (q2.trans jM).trans (jC.trans kt)
      refine k _ _ 3 (by decide) (K4.trans KE.wide) (ta4.keep KE) ⟨tt, mv, cv, rfl, upd_same, (weak1 zM).keepF (jC.trans kt), IsD2.keepR zC kt⟩
end
end Lw
namespace Lw
open PySem L2 Gk
abbrev sLAny : Stmt := topS 45
def any1 : List PyData := [.none, .bool true, .bool false, .int 0, .int 1, .int 5, .int (0 - 1), .int (10 ^ (40 : Int).toNat), .str "", .str "a", .str "top", .str "text", .str "A"]
def any2 : List PyData := [.str "a b", .str "abcdefghi", .tuple [], .list [], .dict [], .tuple [.str "a"], .tuple [.str "text"], .list [.str "text"], .tuple [.str "a", .str "b"]]
def any3 : List PyData := [.dict [(.str "a", .int 1)], .dict [(.str "a", .tuple [.str "text"])], .list [.tuple [.str "a", .str "b"]], .tuple [.str "map"]]
theorem any_ok : (any1 ++ any2 ++ any3).all okB = true := by decide +kernel
def spAnyL : Sp := fun vs H Q _ => ∃ (t : Addr) (T : Addr → Prop), vs = [.ref t] ∧ TapeAt H t ∧ T t ∧ Occ T H ∧ ∀ H2 v d, Kp (At t) H H2 → TapeAt H2 t → Dd T H2 v d → d ∈ any1 ++ any2 ++ any3 → Q v H2
theorem any_20 : (any1 ++ any2 ++ any3).all few20 = true := by decide +kernel
section
variable {P : Program} {w : World} {K : PySem.W.Frag} {mg : Str → Option Value} {base : Heap}
theorem scLAny : FnScope ["tape", "some"] ["tape"] (defScope sLAny) := ⟨rfl, rfl, rfl, by decide +kernel, rfl, by decide +kernel, by decide +kernel⟩
theorem ok_lanyL {f fO : Addr} {fd : FuncData} (F : Fun K "_law_any" "_law_any" sLAny f fd) (DO : Df P w K mg base 2 fO "_law_one_of" ["tape", "items"] (spOneOf K)) : FnOk P w K mg base CX0 3 f fd ["tape"] spAnyL := by
  refine F.ok scLAny (fun vs H Q E h => ?_) (fun cdv A outer s H vs Q E hr h => ?_)
  · obtain ⟨_, _, rfl, _⟩ := h
    rfl
  · obtain ⟨t, T, rfl, ta, tT, oc, k⟩ := h
    refine ⟨_, pss_cons (ps_set (i := 1) scLAny.nd rfl (Or.inl rfl) (pe_lst (pa_cons pe_non (pa_cons pe_bl (pa_cons pe_bl (pa_cons pe_int (pa_cons pe_int (pa_cons pe_int (pa_cons (pe_op op_sub pe_int pe_int) (pa_cons (pe_op op_pow pe_int pe_int) (pa_cons pe_str (pa_cons pe_str (pa_cons pe_str (pa_cons pe_str (pa_cons pe_str pa_nil)))))))))))))))
      (pss_cons (ps_set (i := 1) scLAny.nd rfl (Or.inl rfl) (pe_op op_cat (pv 1) (pe_lst (pa_cons pe_str (pa_cons pe_str (pa_cons (pe_tup pa_nil) (pa_cons (pe_lst pa_nil) (pa_cons pe_dnewK (pa_cons (pe_tup (pa_cons pe_str pa_nil)) (pa_cons (pe_tup (pa_cons pe_str pa_nil)) (pa_cons (pe_lst (pa_cons pe_str pa_nil)) (pa_cons (pe_tup (pa_cons pe_str (pa_cons pe_str pa_nil))) pa_nil))))))))))))
      (pss_cons (ps_set (i := 1) scLAny.nd rfl (Or.inl rfl) (pe_op op_cat (pv 1) (pe_lst (pa_cons (pe_disp (pps_cons pe_str pe_int pps_nil) (by rfl) (by rfl) (fun z => by cases z) (by decide)) (pa_cons (pe_disp (pps_cons pe_str (pe_tup (pa_cons pe_str pa_nil)) pps_nil) (by rfl) (by rfl) (fun z => by cases z) (by decide)) (pa_cons (pe_lst (pa_cons (pe_tup (pa_cons pe_str (pa_cons pe_str pa_nil))) pa_nil)) (pa_cons (pe_tup (pa_cons pe_str pa_nil)) pa_nil)))))))
      (pss_one (ps_ret (pe_df DO hr (by rfl) (pa_cons (pv 0) (pa_cons (pv 1) pa_nil))))))), ?_⟩
    refine seq_asg (gd_list (T := T) [(tC .non, .none), (tC (.bl true), .bool true), (tC (.bl false), .bool false), (tC (.int 0), .int 0), (tC (.int 1), .int 1), (tC (.int 5), .int 5), (tOp (rI0 fun i j => .int (i - j)) (tC (.int 0)) (tC (.int 1)), .int (0 - 1)), (tOp (rI CPow fun i j => .int (i ^ j.toNat)) (tC (.int 10)) (tC (.int 40)), .int (10 ^ (40 : Int).toNat)), (tC (.str ""), .str ""), (tC (.str "a"), .str "a"), (tC (.str "top"), .str "top"), (tC (.str "text"), .str "text"), (tC (.str "A"), .str "A")] (gc (gd_c .non) (gc (gd_c (.bl _)) (gc (gd_c (.bl _)) (gc (gd_c (.int _)) (gc (gd_c (.int _)) (gc (gd_c (.int _)) (gc (gd_of (.int _) fun _ _ q => ⟨_, _, rfl, rfl, q⟩) (gc (gd_of (.int _) fun _ _ q => ⟨_, _, rfl, rfl, ⟨by decide, by decide, by decide⟩, q⟩) (gc (gd_c (.str _)) (gc (gd_c (.str _)) (gc (gd_c (.str _)) (gc (gd_c (.str _)) (gc (gd_c (.str _)) gn))))))))))))) (by decide) oc fun l1 vs1 H1 k1 d1 _ p1 => ?_)
    have p1 : Dds T H1 vs1 any1 := p1
    have n1 := dds_len p1
    refine seq_asg ⟨_, rfl, gd_list (T := T) [(tC (.str "a b"), .str "a b"), (tC (.str "abcdefghi"), .str "abcdefghi"), (tTup tNil, .tuple []), (tLst tNil, .list []), (tDNewK, .dict []), (tTup (tCons (tC (.str "a")) tNil), .tuple [.str "a"]), (tTup (tCons (tC (.str "text")) tNil), .tuple [.str "text"]), (tLst (tCons (tC (.str "text")) tNil), .list [.str "text"]), (tTup (tCons (tC (.str "a")) (tCons (tC (.str "b")) tNil)), .tuple [.str "a", .str "b"])] (gc (gd_c (.str _)) (gc (gd_c (.str _)) (gc (gd_tup [] gn (by decide)) (gc (gd_lst [] gn (by decide)) (gc gd_d0 (gc (gd_tup [(tC (.str "a"), .str "a")] (gc (gd_c (.str _)) gn) (by decide)) (gc (gd_tup [(tC (.str "text"), .str "text")] (gc (gd_c (.str _)) gn) (by decide)) (gc (gd_lst [(tC (.str "text"), .str "text")] (gc (gd_c (.str _)) gn) (by decide)) (gc (gd_tup [(tC (.str "a"), .str "a"), (tC (.str "b"), .str "b")] (gc (gd_c (.str _)) (gc (gd_c (.str _)) gn)) (by decide)) gn))))))))) (by decide) (oc.keep k1) fun l2 vs2 H2 k2 d2 _ p2 => ?_⟩
    have p2 : Dds T H2 vs2 any2 := p2
    have n2 := dds_len p2
    refine ⟨l1, l2, vs1, vs2, rfl, rfl, k2.at0 d1, d2, (by rw [n1, n2, PySem.sizeLine_eq]; decide), fun l3 hl3 => ?_⟩
    have k3 : Kp T0 H2 (upd H2 l3 (.lst (vs1 ++ vs2))) := (Kp.refl H2).new hl3
    have d3 : (upd H2 l3 (.lst (vs1 ++ vs2))) l3 = some (.lst (vs1 ++ vs2)) := upd_same
    have p3 := dds_app ((p1.keep k2.wide).keep k3.wide) (p2.keep k3.wide)
    generalize upd H2 l3 (.lst (vs1 ++ vs2)) = H3 at k3 d3 p3 ⊢
    have k03 := (k1.trans k2).trans k3
    refine seq_asg ⟨_, rfl, gd_list (T := T) [(tDisp [(tC (.str "a"), tC (.int 1))], .dict [(.str "a", .int 1)]), (tDisp [(tC (.str "a"), tTup (tCons (tC (.str "text")) tNil))], .dict [(.str "a", .tuple [.str "text"])]), (tLst (tCons (tTup (tCons (tC (.str "a")) (tCons (tC (.str "b")) tNil))) tNil), .list [.tuple [.str "a", .str "b"]]), (tTup (tCons (tC (.str "map")) tNil), .tuple [.str "map"])] (gc (gd_d1 (gd_c (.int _))) (gc (gd_d1 (gd_tup [(tC (.str "text"), .str "text")] (gc (gd_c (.str _)) gn) (by decide))) (gc (gd_lst [(tTup (tCons (tC (.str "a")) (tCons (tC (.str "b")) tNil)), .tuple [.str "a", .str "b"])] (gc (gd_tup [(tC (.str "a"), .str "a"), (tC (.str "b"), .str "b")] (gc (gd_c (.str _)) (gc (gd_c (.str _)) gn)) (by decide)) gn) (by decide)) (gc (gd_tup [(tC (.str "map"), .str "map")] (gc (gd_c (.str _)) gn) (by decide)) gn)))) (by decide) (oc.keep k03) fun l4 vs4 H4 k4 d4 _ p4 => ?_⟩
    have p4 : Dds T H4 vs4 any3 := p4
    have n4 := dds_len p4
    refine ⟨l3, l4, _, vs4, rfl, rfl, k4.at0 d3, d4, (by rw [List.length_append, n1, n2, n4, PySem.sizeLine_eq]; decide), fun l5 hl5 => ?_⟩
    have k5 : Kp T0 H4 (upd H4 l5 (.lst ((vs1 ++ vs2) ++ vs4))) := (Kp.refl H4).new hl5
    have d5 : (upd H4 l5 (.lst ((vs1 ++ vs2) ++ vs4))) l5 = some (.lst ((vs1 ++ vs2) ++ vs4)) := upd_same
    have p5 := dds_app ((p3.keep k4.wide).keep k5.wide) (p4.keep k5.wide)
    generalize upd H4 l5 (.lst ((vs1 ++ vs2) ++ vs4)) = H5 at k5 d5 p5 ⊢
    have k05 := k03.trans (k4.trans k5)
    refine ⟨_, rfl, _, rfl, t, l5, _, rfl, ta.keep k05, SqL.of d5, (by rw [dds_len p5]; decide), (by rw [dds_len p5]; decide), fun H6 x k6 ta6 mx => ?_⟩
    obtain ⟨d, md, hd⟩ := dds_mem p5 x mx
    exact k H6 x d (k05.wide.trans k6) ta6 (hd.keep fun b o n e => k6 b o (fun z => n (by rw [show b = t from z]; exact tT)) e) md
theorem ok_lany {f fO : Addr} {fd : FuncData} (F : Fun K "_law_any" "_law_any" sLAny f fd) (DO : Df P w K mg base 2 fO "_law_one_of" ["tape", "items"] (spOneOf K)) : FnOk P w K mg base CX0 3 f fd ["tape"] spAny5 :=
  (ok_lanyL F DO).imp fun vs H Q E h => by
    obtain ⟨t, T, e, ta, tT, oc, k⟩ := h
    exact ⟨t, T, e, ta, tT, oc, fun H2 v d k2 ta2 hd md => k H2 v d k2 ta2 (val_of hd (List.all_eq_true.mp any_ok d md)) (few20_le (List.all_eq_true.mp any_20 d md))⟩
end
end Lw
namespace Lw
open PySem L2 Gk
abbrev sBent : Stmt := topS 49
structure TxtBe (mg : Str → Option Value) : Prop where
  z_isinstance : mg "isinstance" = none
  z_dict : mg "dict" = none
  z_str : mg "str" = none
  z_list : mg "list" = none
theorem boot_strB : bootBuiltins "str" = some (.type "str") := by decide +kernel
theorem boot_listB : bootBuiltins "list" = some (.type "list") := by decide +kernel
def valB (d : PyData) : Bool := wfD d && (decide (d.depth ≤ 4) && (d.showable && decide (d.shown.length ≤ 1000)))
theorem valB_of {d : PyData} (h : valB d = true) : wfD d = true ∧ d.depth ≤ 4 ∧ d.showable = true ∧ d.shown.length ≤ 1000 := by
  unfold valB at h
  simp only [Bool.and_eq_true, decide_eq_true_eq] at h
  exact ⟨h.1, h.2.1, h.2.2.1, h.2.2.2⟩
theorem valB_J {d : PyData} (h : valB d = true) : ValJ d := by
  obtain ⟨a, b, c, s⟩ := valB_of h
  exact ⟨a, by omega, c, by omega, by omega⟩
def bent1 (d : PyData) (x : Str) : List PyData := [.str x, .list [d], .str (repS "a" 12), .str (repS "a" 13), .int 1, .int 0, .bool true]
def bent2 (d : PyData) : List PyData := [.int (0 - 1), .int (10 ^ (50 : Int).toNat), .str "A", .dict [(.str "a", d)]]
def bentL (d : PyData) : List PyData := match strOf d with
  | some x => bent1 d x ++ bent2 d
  | none => []
theorem bent_ok : leaves.all (fun d => (strOf d).isSome && (bentL d).all valB) = true := by decide +kernel
def bentS : List PyData := [.str "a", .int 0, .bool false, .dict [], .dict [(.str "a", .str "b")], .dict [(.str "x", .str "a")], .none]
theorem bentS_ok : (bentS ++ (any1 ++ any2 ++ any3)).all valB = true := by decide +kernel
abbrev NMB : List L2.Key := [.inr "a", .inr "b", .inr "d", .inr "k", .inr "x", .inr "K", .inr "abcdefghi", .inl 5, .inr "m"]
def keyB (k : PyData) : Bool := (match k with
  | .str x => decide (x.length < 1000)
  | _ => true) && (decide (k.depth = 0) && (k.showable && decide (k.shown.length ≤ 82)))
theorem keyB_of {k : PyData} (h : keyB k = true) : KeyG k := by
  unfold keyB at h
  simp only [Bool.and_eq_true, decide_eq_true_eq] at h
  refine ⟨fun x e => ?_, h.2.1, h.2.2.1, h.2.2.2⟩
  subst e
  exact of_decide_eq_true h.1
theorem nmb_ok : (NMB.map dKey).all keyB = true := by decide +kernel
def spBent : Sp := fun vs H Q _ => ∃ (t : Addr) (T : Addr → Prop) (v : V) (d : PyData) (m : Nat), vs = [.ref t, v] ∧ TapeAt H t ∧ T t ∧ Occ T H ∧ Dd T H v d ∧ DrawnD m d ∧ m ≤ 5 ∧ ∀ H2 u e, Kp (At t) H H2 → TapeAt H2 t → Dd T H2 u e → ValJ e → Q u H2
section
variable {P : Program} {w : World} {K : PySem.W.Frag} {mg : Str → Option Value} {base : Heap}
abbrev NBe : List Str := ["tape", "value", "some", "found", "names", "name"]
theorem scBent : FnScope NBe ["tape", "value"] (defScope sBent) := ⟨rfl, rfl, rfl, by decide +kernel, rfl, by decide +kernel, by decide +kernel⟩
theorem ok_bent {f fO fA : Addr} {fd : FuncData} (F : Fun K "_law_bent" "_law_bent" sBent f fd) (T : TxtBe mg) (DO : Df P w K mg base 2 fO "_law_one_of" ["tape", "items"] (spOneOf K)) (DA : Df P w K mg base 3 fA "_law_any" ["tape"] spAnyL) : FnOk P w K mg base CX0 4 f fd ["tape", "value"] spBent := by
  refine F.ok scBent (fun vs H Q E h => ?_) (fun cdv A outer s H vs Q E hr h => ?_)
  · obtain ⟨_, _, _, _, _, rfl, _⟩ := h
    rfl
  · obtain ⟨t, TT, v, d, m, rfl, ta, tT, oc, dd, dr, m5, q⟩ := h
    have hu := hu_of hr
    have hz : (16777216 : Nat) = PySem.sizeLine := PySem.sizeLine_eq.symm
    have r2 : Room 2 _ := hr.mono (by decide)
    refine ⟨_, pss_cons (ps_if (pt_not (pt_val (pe_callB call_isi (by rfl) T.z_isinstance (by decide +kernel) (pa_cons (pv 1) (pa_cons (pe_bltn (v := .ty "dict") (by rfl) T.z_dict (by decide +kernel) rfl) pa_nil)))))
        (pss_cons (ps_set (i := 2) scBent.nd rfl (Or.inl rfl) (pe_lst (pa_cons (pe_callTy call_strV (by rfl) T.z_str boot_strB (pa_cons (pv 1) pa_nil)) (pa_cons (pe_lst (pa_cons (pv 1) pa_nil)) (pa_cons (pe_op op_mulS pe_str pe_int) (pa_cons (pe_op op_mulS pe_str pe_int) (pa_cons pe_int (pa_cons pe_int (pa_cons pe_bl pa_nil)))))))))
        (pss_one (ps_ret (pe_df DO r2 (by rfl) (pa_cons (pv 0) (pa_cons (pe_op op_cat (pv 2) (pe_lst (pa_cons (pe_op op_sub pe_int pe_int) (pa_cons (pe_op op_pow pe_int pe_int) (pa_cons pe_str (pa_cons (pe_disp (pps_cons pe_str (pv 1) pps_nil) (by rfl) (by rfl) (fun z => by cases z) (by decide)) pa_nil)))))) pa_nil)))))) pss_nil)
      (pss_cons (ps_par (i := 3) (j := 4) (by rfl) scBent.nd rfl rfl (by decide) rfl rfl (pa_cons (pe_callTy call_dictD (by rfl) T.z_dict boot_dict7 (pa_cons (pv 1) pa_nil)) (pa_cons (pe_lst (pa_cons pe_str (pa_cons pe_str (pa_cons pe_str (pa_cons pe_str (pa_cons pe_str (pa_cons pe_str (pa_cons pe_str (pa_cons pe_int (pa_cons pe_str pa_nil)))))))))) pa_nil)) (by rfl))
      (pss_cons (ps_set (i := 5) scBent.nd rfl (Or.inl rfl) (pe_df DO r2 (by rfl) (pa_cons (pv 0) (pa_cons (pe_op op_cat (pv 4) (pe_callTy (call_listD rfl) (by rfl) T.z_list boot_listB (pa_cons (pv 1) pa_nil))) pa_nil))))
      (pss_cons (ps_set (i := 2) scBent.nd rfl (Or.inl rfl) (pe_lst (pa_cons pe_str (pa_cons pe_int (pa_cons pe_bl (pa_cons pe_dnewK (pa_cons (pe_disp (pps_cons pe_str pe_str pps_nil) (by rfl) (by rfl) (fun z => by cases z) (by decide)) (pa_cons (pe_disp (pps_cons pe_str pe_str pps_nil) (by rfl) (by rfl) (fun z => by cases z) (by decide)) (pa_cons pe_non pa_nil)))))))))
      (pss_cons (ps_dput hu (pv 3) (pv 5) (pe_df DO r2 (by rfl) (pa_cons (pv 0) (pa_cons (pe_op op_cat (pv 2) (pe_lst (pa_cons (pe_df DA hr (by rfl) (pa_cons (pv 0) pa_nil)) pa_nil))) pa_nil))) rfl)
      (pss_one (ps_ret (pv 3))))))), ?_⟩
    obtain ⟨ty0, ty, kit⟩ := dd_isdict (K := K) dd
    refine ⟨_, rfl, _, _, _, _, isDict d, rfl, .ty "dict", ty, kit, isDict d, rfl, ?_⟩
    have kT : ∀ {Ha Hb : Hp}, Kp (At t) Ha Hb → Kp TT Ha Hb := fun k b o n e => k b o (fun z => n (by rw [show b = t from z]; exact tT)) e
    cases hd : isDict d with
    | false =>
      refine iteT ?_
      -- a scalar
      have ml : d ∈ leaves := by
        match m, dr with
        | m + 1, dr =>
          rcases dr with h | ⟨ds, e, _⟩
          · exact h
          · rw [e] at hd
            cases hd
      have sc : Sc v d := by
        cases dd with
        | sc s => exact s
        | lst n e r => simp [leaves] at ml
        | tup n e r => simp [leaves] at ml
        | dict n e r => cases hd
      have lg : ∀ i, d = .int i → i.natAbs.log2 < 1920 := fun i e => by
        subst e
        simp [leaves] at ml
        rcases ml with rfl | rfl | rfl <;> decide
      have bo := List.all_eq_true.mp bent_ok d ml
      rw [Bool.and_eq_true] at bo
      obtain ⟨x, ex⟩ := Option.isSome_iff_exists.mp bo.1
      have bL : bentL d = bent1 d x ++ bent2 d := by
        unfold bentL
        rw [ex]
      have bo2 := bo.2
      rw [bL] at bo2
      refine seq_asg (gd_list (T := TT) [(tCB (fun xs H Q => ∃ v d, xs = [v] ∧ Sc v d ∧ (∀ i, d = .int i → i.natAbs.log2 < 1920) ∧ ∃ x, strOf d = some x ∧ Q (.str x) H) (tCons (tVar 1) tNil), .str x), (tLst (tCons (tVar 1) tNil), .list [d]), (tOp rMulS (tC (.str "a")) (tC (.int 12)), .str (repS "a" 12)), (tOp rMulS (tC (.str "a")) (tC (.int 13)), .str (repS "a" 13)), (tC (.int 1), .int 1), (tC (.int 0), .int 0), (tC (.bl true), .bool true)]
        (gc (gd_of (.str _) fun H Q q => ⟨_, rfl, v, d, rfl, sc, lg, x, ex, q⟩) (gc (gd_lst [(tVar 1, d)] (gc (gd_of sc fun H Q q => ⟨_, rfl, q⟩) gn) (by show 1 ≤ 100; decide)) (gc (gd_of (.str _) fun H Q q => ⟨"a", 12, rfl, rfl, by decide, by decide, by decide, q⟩) (gc (gd_of (.str _) fun H Q q => ⟨"a", 13, rfl, rfl, by decide, by decide, by decide, q⟩) (gc (gd_c (.int _)) (gc (gd_c (.int _)) (gc (gd_c (.bl _)) gn))))))) (by show 7 ≤ 100; decide) oc fun l1 vs1 H1 k1 d1 n1 p1 => ?_)
      have p1 : Dds TT H1 vs1 (bent1 d x) := p1
      have n1 := dds_len p1
      have ta1 := ta.keep k1
      refine ⟨_, rfl, _, rfl, ?_⟩
      refine gd_list (T := TT) [(tOp (rI0 fun i j => .int (i - j)) (tC (.int 0)) (tC (.int 1)), .int (0 - 1)), (tOp (rI CPow fun i j => .int (i ^ j.toNat)) (tC (.int 10)) (tC (.int 50)), .int (10 ^ (50 : Int).toNat)), (tC (.str "A"), .str "A"), (tDisp [(tC (.str "a"), tVar 1)], .dict [(.str "a", d)])]
        (gc (gd_of (.int _) fun _ _ q => ⟨_, _, rfl, rfl, q⟩) (gc (gd_of (.int _) fun _ _ q => ⟨_, _, rfl, rfl, ⟨by decide, by decide, by decide⟩, q⟩) (gc (gd_c (.str _)) (gc (gd_d1 (gd_of sc fun H Q q => ⟨_, rfl, q⟩)) gn)))) (by show 4 ≤ 100; decide) (oc.keep k1) fun l2 vs2 H2 k2 d2 n2 p2 => ?_
      have p2 : Dds TT H2 vs2 (bent2 d) := p2
      have n2 := dds_len p2
      have l1' : vs1.length = 7 := n1
      have l2' : vs2.length = 4 := n2
      refine ⟨l1, l2, vs1, vs2, rfl, rfl, k2.at0 d1, d2, (by omega), fun l3 hl3 => ?_⟩
      have k3 : Kp T0 H2 (upd H2 l3 (.lst (vs1 ++ vs2))) := (Kp.refl H2).new hl3
      have d3 : (upd H2 l3 (.lst (vs1 ++ vs2))) l3 = some (.lst (vs1 ++ vs2)) := upd_same
      have p3 := dds_app ((p1.keep k2.wide).keep k3.wide) (p2.keep k3.wide)
      generalize upd H2 l3 (.lst (vs1 ++ vs2)) = H3 at k3 d3 p3 ⊢
      have k03 := (k1.trans k2).trans k3
      refine ⟨t, l3, _, rfl, ta.keep k03, SqL.of d3, (by rw [List.length_append]; omega), (by rw [List.length_append]; omega), fun H6 u k6 ta6 mx => ?_⟩
      obtain ⟨e, me, he⟩ := dds_mem p3 u mx
      exact q H6 u e (k03.wide.trans k6) ta6 (he.keep (kT k6)) (valB_J (List.all_eq_true.mp bo2 e me))
    | true =>
    refine iteF ?_
    cases d with
    | none => cases hd
    | bool b => cases hd
    | int i => cases hd
    | str x => cases hd
    | list xs => cases hd
    | tuple xs => cases hd
    | dict ds =>
    cases dd with
    | sc s => cases s
    | @dict a kvs _ nT ha r =>
    obtain ⟨m', rfl, few, each⟩ : ∃ m', m = m' + 1 ∧ ds.length ≤ 6 ∧ ∀ e ∈ ds, (∃ n, e.1 = .str n ∧ isNm n = true) ∧ DrawnD m' e.2 := by
      match m, dr with
      | m + 1, dr =>
        rcases dr with h | ⟨ds2, e, a, b⟩
        · simp [leaves] at h
        · cases e
          exact ⟨m, rfl, a, b⟩
    have ll : kvs.length = ds.length := ddk_len r
    -- found, names
    refine ⟨_, rfl, a, kvs, rfl, .inl ha, fun fo hfo => ?_⟩
    have g1 : Kp T0 H (upd H fo (.dK kvs)) := (Kp.refl H).new hfo
    have e1 : (upd H fo (.dK kvs)) fo = some (.dK kvs) := upd_same
    have nTf : ¬ TT fo := oc.new hfo
    have tfo : fo ≠ t := fun z => nTf (by rw [z]; exact tT)
    have oc1 := oc.keep g1
    generalize upd H fo (.dK kvs) = H1 at g1 e1 oc1 ⊢
    refine ⟨(by show 9 ≤ sizeLine; omega), fun ln hln => ⟨_, _, rfl, ?_⟩⟩
    have g2 : Kp T0 H1 (upd H1 ln (.lst (NMB.map kV))) := (Kp.refl H1).new hln
    have e2 : (upd H1 ln (.lst (NMB.map kV))) ln = some (.lst (NMB.map kV)) := upd_same
    have hln2 : H1 ln = none := hln
    show tSeq _ _ _ _ (upd H1 ln (.lst (NMB.map kV)))
    generalize upd H1 ln (.lst (NMB.map kV)) = H2 at g2 e2 ⊢
    have k02 := g1.trans g2
    -- name
    refine ⟨_, rfl, _, rfl, _, rfl, a, kvs, rfl, .inl (k02.at0 ha), fun lk hlk => ?_⟩
    have g3 : Kp T0 H2 (upd H2 lk (.lst (kvs.map fun kv => kV kv.1))) := (Kp.refl H2).new hlk
    have e3 : (upd H2 lk (.lst (kvs.map fun kv => kV kv.1))) lk = some (.lst (kvs.map fun kv => kV kv.1)) := upd_same
    generalize upd H2 lk (.lst (kvs.map fun kv => kV kv.1)) = H3 at g3 e3 ⊢
    refine ⟨ln, lk, _, _, rfl, rfl, g3.at0 e2, e3, (by rw [List.length_map, List.length_map]; show 9 + kvs.length ≤ _; omega), fun lc hlc => ?_⟩
    have g4 : Kp T0 H3 (upd H3 lc (.lst (NMB.map kV ++ kvs.map fun kv => kV kv.1))) := (Kp.refl H3).new hlc
    have e4 : (upd H3 lc (.lst (NMB.map kV ++ kvs.map fun kv => kV kv.1))) lc = some (.lst (NMB.map kV ++ kvs.map fun kv => kV kv.1)) := upd_same
    generalize upd H3 lc (.lst (NMB.map kV ++ kvs.map fun kv => kV kv.1)) = H4 at g4 e4 ⊢
    have k04 := (k02.trans g3).trans g4
    refine ⟨t, lc, _, rfl, ta.keep k04, SqL.of e4, (by rw [List.length_append, List.length_map]; show 1 ≤ 9 + _; omega), (by rw [List.length_append, List.length_map, List.length_map]; show 9 + _ ≤ _; omega), fun H5 nm k5 ta5 mnm => ?_⟩
    obtain ⟨key, rfl, kg⟩ : ∃ key, nm = kV key ∧ KeyG (dKey key) := by
      rcases List.mem_append.mp mnm with m | m
      · obtain ⟨k, mk, rfl⟩ := List.mem_map.mp m
        exact ⟨k, rfl, keyB_of (List.all_eq_true.mp nmb_ok _ (List.mem_map_of_mem mk))⟩
      · obtain ⟨kv, mk, rfl⟩ := List.mem_map.mp m
        obtain ⟨i, hi⟩ := List.mem_iff_getElem?.mp mk
        obtain ⟨d, hds, _⟩ := ddk_at r (k := kv.1) (v := kv.2) hi
        obtain ⟨⟨n, en, nn⟩, _⟩ := each _ (List.mem_of_getElem? hds)
        have en : dKey kv.1 = .str n := en
        refine ⟨kv.1, rfl, ?_⟩
        rw [en]
        have l8 : n.length < 1000 := by
          unfold isNm isLet at nn
          simp only [Bool.and_eq_true] at nn
          have := of_decide_eq_true nn.1.2
          omega
        exact key_nm l8 (nm_shown nn)
    have k05 : Kp (At t) H H5 := k04.wide.trans k5
    have oc5 : Occ TT H5 := fun b tb => by
      by_cases z : b = t
      · rw [z]
        exact occ_tape ta5 _ rfl
      · obtain ⟨o, ho⟩ := Option.ne_none_iff_exists'.mp (oc b tb)
        rw [k05 b o z ho]
        exact fun z => nomatch z
    have f5 : H5 fo = some (.dK kvs) := k5 fo _ tfo (((g2.trans g3).trans g4).at0 e1)
    have ocF : Occ (fun b => TT b ∨ b = fo) H5 := fun b tb => by
      rcases tb with tb | e
      · exact oc5 b tb
      · rw [e, f5]
        exact fun z => nomatch z
    have kF : ∀ {Ha Hb : Hp}, Kp (At t) Ha Hb → Kp (fun b => TT b ∨ b = fo) Ha Hb := fun k b o n e => k b o (fun z => n (.inl (by rw [show b = t from z]; exact tT))) e
    -- some
    refine seq_asg (gd_list (T := fun b => TT b ∨ b = fo) [(tC (.str "a"), .str "a"), (tC (.int 0), .int 0), (tC (.bl false), .bool false), (tDNewK, .dict []), (tDisp [(tC (.str "a"), tC (.str "b"))], .dict [(.str "a", .str "b")]), (tDisp [(tC (.str "x"), tC (.str "a"))], .dict [(.str "x", .str "a")]), (tC .non, .none)]
      (gc (gd_c (.str _)) (gc (gd_c (.int _)) (gc (gd_c (.bl _)) (gc gd_d0 (gc (gd_d1 (gd_c (.str _))) (gc (gd_d1 (gd_c (.str _))) (gc (gd_c .non) gn))))))) (by show 7 ≤ 100; decide) ocF fun l1 vs1 H6 k6 d1 n1 p1 => ?_)
    have p1 : Dds (fun b => TT b ∨ b = fo) H6 vs1 bentS := p1
    have l1' : vs1.length = 7 := dds_len p1
    have ta6 := ta5.keep k6
    -- found[name]
    refine ⟨_, rfl, _, rfl, _, rfl, t, fun b => TT b ∨ b = fo, rfl, ta6, .inl tT, ocF.keep k6, fun H7 va da k7 ta7 hda mda => ⟨(by show 1 ≤ sizeLine; omega), fun l2 hl2 => ?_⟩⟩
    have g8 : Kp T0 H7 (upd H7 l2 (.lst [va])) := (Kp.refl H7).new hl2
    have e8 : (upd H7 l2 (.lst [va])) l2 = some (.lst [va]) := upd_same
    have ta8 := ta7.keep g8
    have hda8 := hda.keep g8.wide
    generalize upd H7 l2 (.lst [va]) = H8 at g8 e8 ta8 hda8 ⊢
    have tl1 : ¬ At t l1 := tape_ne ta6 d1
    refine ⟨l1, l2, vs1, [va], rfl, rfl, g8.at0 (k7 l1 _ tl1 d1), e8, (by show vs1.length + 1 ≤ _; omega), fun l3 hl3 => ?_⟩
    have g9 : Kp T0 H8 (upd H8 l3 (.lst (vs1 ++ [va]))) := (Kp.refl H8).new hl3
    have e9 : (upd H8 l3 (.lst (vs1 ++ [va]))) l3 = some (.lst (vs1 ++ [va])) := upd_same
    have p9 : Dds (fun b => TT b ∨ b = fo) (upd H8 l3 (.lst (vs1 ++ [va]))) (vs1 ++ [va]) (bentS ++ [da]) := dds_app (((p1.keep (kF k7)).keep g8.wide).keep g9.wide) (.cons (hda8.keep g9.wide) .nil)
    have ta9 := ta8.keep g9
    generalize upd H8 l3 (.lst (vs1 ++ [va])) = H9 at g9 e9 p9 ta9 ⊢
    refine ⟨t, l3, _, rfl, ta9, SqL.of e9, (by rw [List.length_append]; omega), (by rw [List.length_append]; show vs1.length + 1 ≤ _; omega), fun H10 u k10 ta10 mu => ?_⟩
    obtain ⟨e, me, he⟩ := dds_mem p9 u mu
    have okE' : valB e = true := by
      rcases List.mem_append.mp me with h | h
      · exact List.all_eq_true.mp bentS_ok e (List.mem_append_left _ h)
      · rw [List.mem_singleton.mp h]
        exact List.all_eq_true.mp bentS_ok da (List.mem_append_right _ mda)
    have k510 : Kp (At t) H5 H10 := ((k6.wide.trans k7).trans (g8.trans g9).wide).trans k10
    have f10 : H10 fo = some (.dK kvs) := k510 fo _ tfo f5
    refine ⟨_, rfl, _, rfl, fo, _, rfl, .inl ⟨kvs, key, f10, rfl, by omega, rfl⟩, ?_⟩
    -- the copy
    have rH : DdK (fun b => TT b ∨ b = fo) H kvs ds := r.out fun b hb => hb.elim (fun x => .inl x) fun x => .inr (by rw [x]; exact hfo)
    have k010 : Kp (At t) H H10 := k05.trans k510
    have r10 := DdK.keep (kF k010) rH
    have he10 : Dd (fun b => TT b ∨ b = fo) H10 u e := he.keep (kF k10)
    obtain ⟨ds2, r2, mem2, len2⟩ := ddk_put (k := key) he10 r10
    have kP : Kp (fun b => TT b ∨ b = fo) H10 (upd H10 fo (.dK (putK kvs key u))) := (Kp.refl _).put (.inr rfl)
    refine ⟨_, rfl, q _ _ _ (k010.over hfo) (ta10.over tfo) (.dict nTf upd_same ((DdK.keep kP r2).out fun b h => .inl (.inl h))) ?_⟩
    have z4 : SZ 4 ≤ 140000 := by decide
    have m4 : m' ≤ 4 := by omega
    obtain ⟨a1, a2, a3, a4⟩ := dict_ok (m := 4) (s := 140000) (c := 7) (ds := ds2) (by omega) (by decide) fun x mx => by
      rcases mem2 x mx with h | h
      · obtain ⟨⟨n, en, nn⟩, dn⟩ := each x h
        have l8 : n.length < 1000 := by
          unfold isNm isLet at nn
          simp only [Bool.and_eq_true] at nn
          have := of_decide_eq_true nn.1.2
          omega
        obtain ⟨b1, b2, b3, b4⟩ := drawnD_ok m' dn
        exact ⟨by rw [en]; exact key_nm l8 (nm_shown nn), b1, Nat.le_trans b2 m4, b3, Nat.le_trans b4 (Nat.le_trans (SZ_mono m4) z4)⟩
      · subst h
        obtain ⟨b1, b2, b3, b4⟩ := valB_of okE'
        exact ⟨kg, b1, b2, b3, Nat.le_trans b4 (by decide)⟩
    exact ⟨a1, Nat.lt_of_le_of_lt a2 (by decide), a3, Nat.le_trans a2 (by decide), Nat.le_trans a4 (by decide)⟩
end
end Lw
namespace Lw
open PySem L2 Gk
/-- a schema may be made of messages and choices -/
structure MkS2 (P : Program) (w : World) (K : PySem.W.Frag) (mg : Str → Option Value) (base : Heap) (C : Addr) : Prop where
  ex : ∃ fI fd, Mk K C fI ∧ FnOk P w K mg base CX0 10 fI fd ["self", "messages", "choices"] (spSInit C) ∧ Binds K fd ["self", "messages", "choices"] []
/-- of messages alone -/
structure MkS1 (P : Program) (w : World) (K : PySem.W.Frag) (mg : Str → Option Value) (base : Heap) (C : Addr) : Prop where
  ex : ∃ fI fd, Mk K C fI ∧ FnOk P w K mg base CX0 10 fI fd ["self", "messages", "choices"] (spSInit C) ∧ Binds K fd ["self", "messages", "choices"] [.none]
theorem pe_sch2 {X : Cx} {C : Addr} {p pos : Pos} {e : Expr} {es : List Expr} {t : TA} (M : MkS2 X.prog X.w X.K X.mg X.base C) (hr : Room 11 X.A) (hg : Gl X "Schema") (hm : X.mg "Schema" = some (.ref C)) (ha : PA X (e :: es) t)
    (he : starEach (e :: es) X.env = (false, eval e X.env) :: starEach es X.env := by rfl) (hpl : (backTo pos (starEach es X.env)).any (·.1) = false := by rfl) : PE X (.Call (.Name "Schema" p) (e :: es) [] pos) (tMake C (spSInit C) [] E0 t) := by
  obtain ⟨fI, fd, M, F, b⟩ := M.ex
  exact pe_make M F hr hg hm b .nil pass0 ha (by decide) he hpl
theorem pe_sch1 {X : Cx} {C : Addr} {p pos : Pos} {e : Expr} {es : List Expr} {t : TA} (M : MkS1 X.prog X.w X.K X.mg X.base C) (hr : Room 11 X.A) (hg : Gl X "Schema") (hm : X.mg "Schema" = some (.ref C)) (ha : PA X (e :: es) t)
    (he : starEach (e :: es) X.env = (false, eval e X.env) :: starEach es X.env := by rfl) (hpl : (backTo pos (starEach es X.env)).any (·.1) = false := by rfl) : PE X (.Call (.Name "Schema" p) (e :: es) [] pos) (tMake C (spSInit C) [.non] E0 t) := by
  obtain ⟨fI, fd, M, F, b⟩ := M.ex
  exact pe_make M F hr hg hm b (.cons rfl .nil) pass0 ha (by decide) he hpl
/-- what is asked of the choices that are handed in -/
def ChV (H : Hp) (c : V) (cs : Cho) : Prop := (c = .non ∧ cs = []) ∨ ∃ b ck, c = .ref b ∧ H b = some (.dK ck) ∧ Paired (Ent (IsRs H)) ck cs
theorem ChV.keep0 {H H2 : Hp} {c : V} {cs : Cho} (h : ChV H c cs) (k : Kp T0 H H2) : ChV H2 c cs := by
  rcases h with h | ⟨b, ck, e, d, p⟩
  · exact .inl h
  · exact .inr ⟨b, ck, e, k.at0 d, ent_map p fun _ _ _ z => z.keep0 k⟩
theorem sch_new {C : Addr} {H : Hp} {a : Addr} {c : V} {mk : List (L2.Key × V)} {ms : Msgs} {cs : Cho} {R : Addr → Hp → Prop} {E : XK} (ha : H a = some (.dK mk)) (pm : Paired (Ent (IsF H)) mk ms) (hc : ChV H c cs) (S : Sch ms) (co : ChoOk cs) (ch : chosP ms cs = true)
    (h : ∀ H2 x ks, Kp T0 H H2 → IsS C H2 (.ref x) ms ks → KeptOf cs ks → R x H2) :
    ∀ x dx, H x = none → H dx = none → dx ≠ x → spSInit C [.ref x, .ref a, c] (upd (upd H dx (.own x)) x (.ins C dx [])) (fun v H2 => v = .non ∧ R x H2) E := by
  intro x dx nx nd ne
  have k1 : Kp T0 H (upd (upd H dx (.own x)) x (.ins C dx [])) := Kp.mk nx nd
  exact ⟨x, dx, a, mk, c, ms, cs, rfl, upd_same, k1.at0 ha, ent_map pm fun _ _ _ z => z.keep0 k1, hc.keep0 k1, S.mok, co, S.am, ch, fun H2 ks k is kept => ⟨rfl, h H2 x ks (Kp.made nx nd k) is kept⟩⟩
/-- the same messages, their names and fields falling -/
def twM : Nat → Msgs
  | 0 => [("top", [("x", ["text"]), ("f", ["flag"]), ("ab", ["text"]), ("a", ["text"])])]
  | 1 => [("top", [("q", ["map", "flag"]), ("n", ["number"]), ("h", ["flag"]), ("g", ["flag"]), ("f", ["flag"])])]
  | 2 => [("top", [("s", ["text"]), ("n", ["message", "one"]), ("m", ["message", "one"])]), ("one", [("k", ["map", "number"]), ("b", ["text"]), ("a", ["text"])])]
  | _ => [("two", [("x", ["text"])]), ("top", [("z", ["number"]), ("q", ["map", "text"]), ("m", ["message", "one"]), ("a", ["text"])]), ("one", [("d", ["message", "two"]), ("c", ["flag"]), ("a", ["text"])])]
def fallsB (ys : List Str) : Bool := match ys with
  | [] => true
  | x :: r => (r.all fun y => !(decide (x.cps.toList < y.cps.toList))) && fallsB r
theorem falls_of : ∀ {ys : List Str}, fallsB ys = true → Falls ys
  | [], _ => .nil
  | x :: ys, h => by
    have h : ((ys.all fun y => !(decide (x.cps.toList < y.cps.toList))) && fallsB ys) = true := h
    rw [Bool.and_eq_true] at h
    exact List.pairwise_cons.mpr ⟨fun y m => by simpa using List.all_eq_true.mp h.1 y m, falls_of h.2⟩
/-- the twin of a schema's messages -/
def twinB (ms tw : Msgs) : Bool := fallsB (tw.map (·.1)) && ((tw.map (·.1)).isPerm (ms.map (·.1)) && tw.all fun m => (ms.lookup m.1).isSome && (fallsB (m.2.map (·.1)) && ((m.2.map (·.1)).isPerm ((fldsOf ms m.1).map (·.1)) && m.2.all fun f => decide ((fldsOf ms m.1).lookup f.1 = some f.2))))
theorem tw_ok : ∀ i < 4, twinB (fmM i) (twM i) = true ∧ Sch (twM i) ∧ chosP (twM i) (fmC i) = true
  | 0, _ => ⟨by decide +kernel, ⟨msgOk_of (by decide +kernel), by decide +kernel⟩, by decide +kernel⟩
  | 1, _ => ⟨by decide +kernel, ⟨msgOk_of (by decide +kernel), by decide +kernel⟩, by decide +kernel⟩
  | 2, _ => ⟨by decide +kernel, ⟨msgOk_of (by decide +kernel), by decide +kernel⟩, by decide +kernel⟩
  | 3, _ => ⟨by decide +kernel, ⟨msgOk_of (by decide +kernel), by decide +kernel⟩, by decide +kernel⟩
structure Twin (ms tw : Msgs) : Prop where
  names : ∀ {ys : List Str}, ys.Perm (ms.map (·.1)) → Falls ys → ys = tw.map (·.1)
  there : ∀ m ∈ tw, (ms.lookup m.1).isSome = true
  flds : ∀ m ∈ tw, ∀ {ys : List Str}, ys.Perm ((fldsOf ms m.1).map (·.1)) → Falls ys → ys = m.2.map (·.1)
  kinds : ∀ m ∈ tw, ∀ f ∈ m.2, (fldsOf ms m.1).lookup f.1 = some f.2
theorem twin_of {ms tw : Msgs} (h : twinB ms tw = true) : Twin ms tw := by
  unfold twinB at h
  simp only [Bool.and_eq_true, List.all_eq_true] at h
  obtain ⟨h1, h2, h3⟩ := h
  exact ⟨fun p f => falls_one (p.trans (List.isPerm_iff.mp h2).symm) f (falls_of h1), fun m mm => (h3 m mm).1, fun m mm ys p f => falls_one (p.trans (List.isPerm_iff.mp (h3 m mm).2.2.1).symm) f (falls_of (h3 m mm).2.1), fun m mm f mf => of_decide_eq_true ((h3 m mm).2.2.2 f mf)⟩
end Lw
/-! Gk36: defs, instances and properties while an exception is handled; nothing is raised there. -/
namespace Gk
open PySem PySem.Spec PyProof.Rows L2 L2H HotX
theorem roomH_in1 {k : Nat} {A : Around} (r : RoomH (k + 1) A) : RoomH k A.in1 := ⟨by have := r.dp; show A.depth + 3 * k + 5 < _; omega, by have := r.un; show A.units + 1 + 16 * k + 200 < _; omega⟩
section
variable {P : Program} {w : World} {K : PySem.W.Frag} {mg : Str → Option Value} {base : Heap}
theorem fun_okH {x qual : Str} {st : Stmt} {f : Addr} {fd : FuncData} {N ps : List Str} {k : Nat} {sp : Sp} (F : Fun K x qual st f fd) (S : FnScope N ps (defScope st)) (len : ∀ vs H Q E, sp vs H Q E → vs.length = ps.length)
    (body : ∀ (cdv : Value) (A : Around) (outer : List Env) (s : Shared) (H : Hp) (vs : List V) (Q : VK) (E : XK) (p : Addr × Obj), HotC (cxH CX0 P w K mg base N qual (defScope st) f cdv A outer s H E p).nox → RoomH k (A.deeper (envOfC qual (defScope st) s.heap.objs.size f cdv)) → sp vs H Q E →
      ∃ t, PSs (cxH CX0 P w K mg base N qual (defScope st) f cdv A outer s H E p).nox (defBody st) t ∧ t { nx := fun _ H' => Q .non H', rt := Q } (start N vs) H) : FnH P w K mg base CX0 (k + 1) f fd ps sp := by
  obtain ⟨oc, od, kV, doc, pm, an, cdv, ct, osl, rfl, lk, hcd⟩ := F.ex
  refine fn_ofH lk hcd S len fun A outer s H vs Q E p hot hr hsp => ?_
  obtain ⟨t, h, q⟩ := body cdv A outer s H vs Q E p ⟨p, ⟨hot.1, hot.2⟩, List.mem_singleton.mpr rfl⟩ hr hsp
  exact ⟨t, h.nox, q⟩
theorem fund_okH {x qual : Str} {params : Arguments} {bd : List Stmt} {sc : Scope} {dvs : List V} {kws : List (Str × V)} {f : Addr} {fd : FuncData} {N ps : List Str} {k : Nat} {sp : Sp} (F : FunD K x qual params bd sc dvs kws f fd) (S : FnScope N ps sc) (len : ∀ vs H Q E, sp vs H Q E → vs.length = ps.length)
    (body : ∀ (cdv : Value) (A : Around) (outer : List Env) (s : Shared) (H : Hp) (vs : List V) (Q : VK) (E : XK) (p : Addr × Obj), HotC (cxH CX0 P w K mg base N qual sc f cdv A outer s H E p).nox → RoomH k (A.deeper (envOfC qual sc s.heap.objs.size f cdv)) → sp vs H Q E →
      ∃ t, PSs (cxH CX0 P w K mg base N qual sc f cdv A outer s H E p).nox bd t ∧ t { nx := fun _ H' => Q .non H', rt := Q } (start N vs) H) : FnH P w K mg base CX0 (k + 1) f fd ps sp := by
  obtain ⟨oc, od, dV, kV, doc, pm, an, cdv, ct, osl, rfl, lk, hcd, _, _⟩ := F.ex
  refine fn_ofH lk hcd S len fun A outer s H vs Q E p hot hr hsp => ?_
  obtain ⟨t, h, q⟩ := body cdv A outer s H vs Q E p ⟨p, ⟨hot.1, hot.2⟩, List.mem_singleton.mpr rfl⟩ hr hsp
  exact ⟨t, h.nox, q⟩
/-- a def of the module that may be called there -/
structure DfH (P : Program) (w : World) (K : PySem.W.Frag) (mg : Str → Option Value) (base : Heap) (k : Nat) (x : Str) (ps : List Str) (sp : Sp) : Prop where
  ex : ∃ f fd, FnH P w K mg base CX0 k f fd ps sp ∧ mg x = some (.ref f) ∧ PySem.W.keepIn K (.ref f) = true ∧ Binds K fd ps []
end
section
variable {X : Cx} {C : Addr} {k : Nat} {x : Str} {ps : List Str} {sp : Sp} {e : Expr} {es : List Expr} {t : TA} {p pos : Pos}
theorem passAt0 {σ : L2.St} {E : XK} : PassesAt CX0 X σ E := fun _ _ _ _ _ _ h => h.elim
theorem pe_dfH (D : DfH X.prog X.w X.K X.mg X.base k x ps sp) (hr : RoomH k X.A) (hc : HotC X) (hg : Gl X x) (ha : PA X (e :: es) t) (hdb : (x == ("__debug__" : Str)) = false := by decide)
    (he : starEach (e :: es) X.env = (false, eval e X.env) :: starEach es X.env := by rfl) (hpl : (backTo pos (starEach es X.env)).any (·.1) = false := by rfl) : PE X (.Call (.Name x p) (e :: es) [] pos) (tCallS sp (fun _ => E0) t) := by
  obtain ⟨f, fd, F, hm, hk, hb⟩ := D.ex
  exact pe_callH F hr hc hg hm hk hb (fun _ => passAt0) ha hdb he hpl
/-- C(..) there -/
theorem run_makeH {ps2 : List (Addr × Obj)} {σ : L2.St} {H : Hp} {s : Shared} {Q : VK} {us : List Value} {vs : List V} {f : Addr} {fd : FuncData} {dvs : List V} {ds : List Value} {E : XK} (M : Mk X.K C f) (F : FnH X.prog X.w X.K X.mg X.base CX0 k f fd ps sp) (hr : RoomH (k + 1) X.A) (hc : HotC X)
    (hb : Binds X.K fd ps ds) (hd : Vals dvs ds) (I : Inv X ps2 σ H s) (r : Vals vs us)
    (h : ∀ x dx, H x = none → H dx = none → dx ≠ x → sp (.ref x :: (vs ++ dvs)) (upd (upd H dx (.own x)) x (.ins C dx [])) (fun v H2 => v = .non ∧ Q (.ref x) H2) E) : wpAny (model X.prog X.w) X.A (call (.ref C) us) (EP X ps2 σ Q) X.xe s := by
  have n1 := I.hok.fresh (Nat.le_refl s.heap.objs.size)
  have n2 := I.hok.fresh (Nat.le_succ s.heap.objs.size)
  have want := h _ _ n2 n1 (Nat.ne_of_lt (Nat.lt_succ_self _))
  have J := Inv.made (C := C) I
  have vv : Vals (V.ref (s.heap.objs.size + 1) :: (vs ++ dvs)) (Value.ref (s.heap.objs.size + 1) :: (us ++ ds)) := .cons rfl (r.append hd)
  have ll : (Value.ref (s.heap.objs.size + 1) :: us ++ ds).length = ps.length := (show (Value.ref (s.heap.objs.size + 1) :: (us ++ ds)).length = ps.length from vv.length ▸ F.len _ _ _ _ want)
  obtain ⟨p0, hot, hp⟩ := hc
  have P1 := J.pin p0 (List.mem_append_left _ hp)
  have pin : PinOk X.stack _ _ p0 := ⟨P1.1, P1.2.1, fun hm => (List.mem_cons.mp (J.stkSub p0.1 hm)).elim P1.2.2.1 P1.2.2.2.1, P1.2.2.2.2⟩
  have go := F.run (X.A.under (.builtin "type.__call__" ⟨.ref C :: us, []⟩)) X.stack _ _ ⟨Value.ref (s.heap.objs.size + 1) :: us, []⟩ (Value.ref (s.heap.objs.size + 1) :: (us ++ ds)) _ _ E p0 (hr.make C us []) ⟨hot.1, hot.2⟩ pin (J.env0.make C us []) (hb _ (Value.ref (s.heap.objs.size + 1) :: us) J.kIn ll) vv want
  refine wpAny_call (make_map (f := f) I.kIn M.makes M.init (beq_iff_eq.mp M.fn) (codeAny_mono go fun r s' hq => ?_))
  match r, hq with
  | .ok (.ret u), hq =>
    obtain ⟨v, H', I3, rv, rfl, q3⟩ := J.after hq
    exact ⟨rv, V.ref (s.heap.objs.size + 1), H', I3, rfl, q3⟩
  | .ok .next, hq => exact False.elim hq
  | .ok .brk, hq => exact False.elim hq
  | .ok .cont, hq => exact False.elim hq
  | .error e, hq => exact False.elim hq
theorem pe_makeH {f : Addr} {fd : FuncData} {dvs : List V} {ds : List Value} (M : Mk X.K C f) (F : FnH X.prog X.w X.K X.mg X.base CX0 k f fd ps sp) (hr : RoomH (k + 1) X.A) (hc : HotC X) (hg : Gl X x) (hm : X.mg x = some (.ref C)) (hb : Binds X.K fd ps ds) (hd : Vals dvs ds)
    (ha : PA X (e :: es) t) (hdb : (x == ("__debug__" : Str)) = false := by decide) (he : starEach (e :: es) X.env = (false, eval e X.env) :: starEach es X.env := by rfl) (hpl : (backTo pos (starEach es X.env)).any (·.1) = false := by rfl) :
    PE X (.Call (.Name x p) (e :: es) [] pos) (tMake C sp dvs E0 t) := by
  refine ⟨fun ps2 s σ H Q I h => wpAny_Call_Name_kw (ld_glob I hg hm ?_ hdb)⟩
  exact PySem.W.callWith_K (h₀ := X.base) I.ok.mod.kin M.kp (thn (ha.run pos ps2 s σ H _ I h) fun us s1 ⟨vs, H1, I1, r, q⟩ => ⟨I1.kIn, run_makeH M F hr hc hb hd I1 r q⟩) he hpl
theorem pe_makeH0 {f : Addr} {fd : FuncData} {dvs : List V} {ds : List Value} (M : Mk X.K C f) (F : FnH X.prog X.w X.K X.mg X.base CX0 k f fd ps sp) (hr : RoomH (k + 1) X.A) (hc : HotC X) (hg : Gl X x) (hm : X.mg x = some (.ref C)) (hb : Binds X.K fd ps ds) (hd : Vals dvs ds)
    (hdb : (x == ("__debug__" : Str)) = false := by decide) : PE X (.Call (.Name x p) [] [] pos) (tMake C sp dvs E0 tNil) :=
  ⟨fun ps2 s σ H Q I h => wpAny_Call_Name_kw (ld_glob I hg hm (PySem.W.callWith_K0 I.kIn M.kp (run_makeH (us := []) M F hr hc hb hd I .nil h)) hdb)⟩
/-- e.m there, m a property -/
theorem pe_propH {g pa : Addr} {fd : FuncData} {m : Str} {ta : TE} (he : PE X e ta) (c : Cls X.K C) (hp : PropOf X.K C m pa g) (F : FnH X.prog X.w X.K X.mg X.base CX0 k g fd ["self"] sp) (hr : RoomH (k + 1) X.A) (hc : HotC X) (hb : Binds X.K fd ["self"] [])
    (hab : attributeBase e m X.env (eval e X.env) = eval e X.env := by rfl) : PE X (.Attribute e m pos) (tProp C sp [] E0 ta) := by
  refine ⟨fun ps2 s σ H Q I h => attr_of hab (thn (he.run ps2 s σ H _ I h) fun u s1 q1 => ?_)⟩
  obtain ⟨x, H1, I1, rx, a, dx, fs, rfl, ea, q⟩ := q1
  obtain rfl : u = Value.ref a := rx
  obtain ⟨mA, O, _, _, _, _⟩ := ins_get I1.hok ea
  obtain ⟨od, J, _⟩ := O.look
  obtain ⟨rest, hrec⟩ := hp.rec_
  have I2 := I1.tok (s1.toks + 1)
  have some_ : (PySem.W.clsIn X.K C).isSome = true := by
    obtain ⟨cd, z, _⟩ := PySem.W.any_some c.hd
    rw [z]
    rfl
  obtain ⟨p0, hot, hp0⟩ := hc
  have P1 := I2.pin p0 (List.mem_append_left _ hp0)
  have pin : PinOk X.stack _ _ p0 := ⟨P1.1, P1.2.1, fun hm => (List.mem_cons.mp (I2.stkSub p0.1 hm)).elim P1.2.2.1 P1.2.2.2.1, P1.2.2.2.2⟩
  have bd := hb { s1 with toks := s1.toks + 1 } [.ref a] I2.kIn rfl
  have go := F.run X.A.in1 X.stack { s1 with toks := s1.toks + 1 } H1 ⟨[.ref a], []⟩ [.ref a] [.ref a] Q E0 p0 (roomH_in1 hr) ⟨hot.1, hot.2⟩ pin I2.env0.in1 bd (.cons rfl .nil) q
  refine PySem.W.get_bind I1.kIn J (PySem.W.plainGet_of (c.get m)).1 (PySem.W.findObj_data some_ hp.at_ hp.get hp.tak) (PySem.W.plainGet_of (c.get m)).2 (wpAny_call (PySem.W.prop_get (s := { s1 with toks := s1.toks + 1 }) I1.kIn hrec (codeAny_mono go fun r s' hq => ?_)))
  match r, hq with
  | .ok (.ret u), hq =>
    obtain ⟨v, H', I3, rv, q3⟩ := I2.after hq
    show wpAny _ _ (handedOut u) _ _ _
    rw [PySem.W.handedOut_of (handed_of rv)]
    exact wpAny_pure ⟨v, H', I3, rv, q3⟩
  | .ok .next, hq => exact False.elim hq
  | .ok .brk, hq => exact False.elim hq
  | .ok .cont, hq => exact False.elim hq
  | .error e, hq => exact False.elim hq
end
end Gk
/-! Gk66: repr of any data. -/
namespace Gk
open PySem PySem.Spec PyProof.Rows L2
section
variable {X : Cx}
def rReprV : List V → Hp → VK → Prop := fun xs H Q => ∃ (v : V) (d : PyData) (T : Addr → Prop), xs = [v] ∧ Dd T H v d ∧ d.showable = true ∧ d.depth ≤ 60 ∧ d.shown.length ≤ sizeLine ∧ Q (.str d.shown) H
theorem call_reprV (hf : Free X.A) (hu : X.A.units + 70 < cLine) : CallR X (.builtin "repr") rReprV := by
  intro pins s σ H zs us Q I r0 h
  obtain ⟨v, d, T, rfl, dd, sw, dp, sz, q⟩ := h
  obtain ⟨u, rfl, ru⟩ := vals1 r0
  have fin : ∀ (h2 : Heap) (t : Tok) (tk : Nat), (∀ b o, s.heap.get? b = some o → h2.get? b = some o) → EP X pins σ Q (.str d.shown t) { s with heap := h2, toks := tk } := fun h2 t tk hk => ⟨.str d.shown, H, I.kept hk, ⟨t, rfl⟩, q⟩
  have rs := Dd.rs I u dd ru
  cases rs with
  | none => exact PySem.P.repr_of_none (fin s.heap _ _ fun _ _ e => e)
  | bool b => exact PySem.P.repr_of_bool (fin s.heap _ _ fun _ _ e => e)
  | int i t => exact PySem.P.repr_of_int (of_decide_eq_true sw) (fin s.heap _ _ fun _ _ e => e)
  | str x t => exact PySem.P.repr_of_str (fin s.heap _ _ fun _ _ e => e) sz
  | @list a o vs n xs e1 e2 e3 r =>
    have sz2 : (listText (PyData.shownAll xs)).length ≤ sizeLine := by simpa only [PyData.shown] using sz
    obtain ⟨bs, hb, hk⟩ := RSs.repr (P := X.prog) (w := X.w) r (by simpa [PyData.showable] using sw) fun t ht => Nat.le_trans (listText_mem_le ht) sz2
    obtain ⟨as, rd⟩ := RS.reads (.list e1 e2 e3 r)
    have na : a ∉ bs := not_mem_of_deeper rd (by simp only [PyData.depth]; omega) hb
    have dp2 : PyData.depthAll xs + 1 ≤ 60 := by simpa only [PyData.depth] using dp
    refine call_repr_slot (by omega) (⟨_, e1, e2⟩ : s.TypeIs (.ref a) "list") F.slot_list_repr.toG ?_
    simp only [PyData.shown] at fin
    obtain ⟨l⟩ := vs
    cases l with
    | nil =>
      cases (show RSs s.heap [] xs from r)
      simp only [PyData.shownAll, listText_nil] at fin
      exact call_list_repr_empty ⟨_, e1, e2⟩ e1 e3 ⟨_, _, rfl, fin s.heap _ _ fun _ _ e => e⟩
    | cons x l =>
      exact call_list_reprK e1 e2 e3 na (by simpa using hk.length_eq) (fun i y e => hk.item i y (by simpa using e)) (g := []) hf (fun b _ => Clear.nil b) (by show X.A.units + 1 + _ < cLine; omega) (fun _ _ e => e) (fun h2 u tk hk2 => ⟨_, _, rfl, fin h2 u tk hk2⟩) sz2
  | @tuple a o vs n xs e1 e2 e3 r =>
    have sz2 : (tupleText (PyData.shownAll xs)).length ≤ sizeLine := by simpa only [PyData.shown] using sz
    obtain ⟨bs, hb, hk⟩ := RSs.repr (P := X.prog) (w := X.w) r (by simpa [PyData.showable] using sw) fun t ht => Nat.le_trans (tupleText_mem_le ht) sz2
    obtain ⟨as, rd⟩ := RS.reads (.tuple e1 e2 e3 r)
    have na : a ∉ bs := not_mem_of_deeper rd (by simp only [PyData.depth]; omega) hb
    have dp2 : PyData.depthAll xs + 1 ≤ 60 := by simpa only [PyData.depth] using dp
    refine call_repr_slot (by omega) (⟨_, e1, e2⟩ : s.TypeIs (.ref a) "tuple") F.slot_tuple_repr ?_
    simp only [PyData.shown] at fin
    exact call_tuple_reprK e1 e2 e3 na hk (g := []) hf (fun b _ => Clear.nil b) (by show X.A.units + 1 + _ < cLine; omega) (fun _ _ e => e) (fun h2 u tk hk2 => ⟨_, _, rfl, fin h2 u tk hk2⟩) sz2
  | @dict a o es n kvs e1 e2 e3 sy r1 r2 =>
    have sz2 : (dictText (PyData.shownKv kvs)).length ≤ sizeLine := by simpa only [PyData.shown] using sz
    obtain ⟨hs1, hs2⟩ := PyData.showableKv_split kvs (by simpa [PyData.showable] using sw)
    obtain ⟨b1, hb1, k1⟩ := RSs.repr (P := X.prog) (w := X.w) r1 hs1 fun t ht => let ⟨p, hp, hl⟩ := PyData.shownKv_key_le kvs t ht; Nat.le_trans hl (Nat.le_trans (dictText_mem_le hp) sz2)
    obtain ⟨b2, hb2, k2⟩ := RSs.repr (P := X.prog) (w := X.w) r2 hs2 fun t ht => let ⟨p, hp, hl⟩ := PyData.shownKv_val_le kvs t ht; Nat.le_trans hl (Nat.le_trans (dictText_mem_le hp) sz2)
    obtain ⟨as, rd⟩ := RS.reads (.dict e1 e2 e3 sy r1 r2)
    have hb : ReadAtMost s.heap (PyData.depthKv kvs) (b1 ++ b2) := (hb1.mono (PyData.depthAll_keys_le kvs)).append (hb2.mono (PyData.depthAll_vals_le kvs))
    have na : a ∉ b1 ++ b2 := not_mem_of_deeper rd (by simp only [PyData.depth]; omega) hb
    have dp2 : PyData.depthKv kvs + 1 ≤ 60 := by simpa only [PyData.depth] using dp
    refine call_repr_slot (by omega) (⟨_, e1, e2⟩ : s.TypeIs (.ref a) "dict") F.slot_dict_repr ?_
    simp only [PyData.shown, PyData.shownKv_eq] at fin
    refine call_dict_reprK e1 e2 e3 sy na (ReprEntriesK.of_two es.toList _ _ (k1.more_le (fun b m => List.mem_append_left _ m) (PyData.depthAll_keys_le kvs)) (k2.more_le (fun b m => List.mem_append_right _ m) (PyData.depthAll_vals_le kvs))) (g := []) hf (fun b _ => Clear.nil b) (by show X.A.units + 1 + _ < cLine; omega) (fun _ _ e => e) (fun h2 u tk hk2 => ⟨_, _, rfl, fin h2 u tk hk2⟩) ?_
    rw [PyData.shownKv_eq] at sz2
    exact sz2
end
end Gk
namespace Lw
open PySem L2 Gk
abbrev sLaw : Stmt := topS 50
abbrev NL : List Str := ["script", "start", "tape", "forms", "schema", "path", "kind", "some", "look", "value", "kept", "due", "caught", "error"]
structure TxtL (mg : Str → Option Value) : Prop where
  z_range : mg "range" = none
  z_max : mg "max" = none
  z_min : mg "min" = none
  z_len : mg "len" = none
  z_repr : mg "repr" = none
theorem boot_max6 : bootBuiltins "max" = some (.builtin "max") := by decide +kernel
theorem boot_min6 : bootBuiltins "min" = some (.builtin "min") := by decide +kernel
theorem boot_repr6 : bootBuiltins "repr" = some (.builtin "repr") := by decide +kernel
theorem scLaw : FnScope NL ["script"] (defScope sLaw) := ⟨rfl, rfl, rfl, by decide +kernel, rfl, by decide +kernel, by decide +kernel⟩
def forBody : Stmt → List Stmt
  | .For _ _ b _ _ => b
  | _ => []
def hdFor : List Stmt → List Stmt
  | s :: _ => forBody s
  | [] => []
abbrev LB : List Stmt := hdFor (defBody sLaw)
theorem pss_weak {X : Cx} {ss : List Stmt} {t1 t2 : TS} (h : PSs X ss t1) (i : ∀ D st H, t2 D st H → t1 D st H) : PSs X ss t2 := ⟨fun pins s st H D I q => h.run pins s st H D I (i D st H q)⟩
theorem takes0D {X : Cx} : L2N.Takes X (fun _ _ _ _ => False) := fun _ _ x => by
  obtain ⟨_, _, _, _, _, _, _, _, _, _, _, _, _, _, _, _, z⟩ := x
  exact False.elim z
/-- below a path there is less need -/
theorem need_walk {ms : Msgs} (S : Sch ms) : ∀ {p : Pth} {k k2 : Gk.Kind} {n : Nat}, KindOk ms k → Need ms n k → walkP ms k p = some k2 → p.length ≤ n ∧ Need ms (n - p.length) k2
  | [], k, k2, n, _, h, e => by
    cases Option.some.inj e
    exact ⟨Nat.zero_le _, h⟩
  | x :: p, k, k2, n, kok, h, e => by
    have e : (match stepP ms k x with
      | some k2 => walkP ms k2 p
      | none => none) = some k2 := e
    cases es : stepP ms k x with
    | none =>
      rw [es] at e
      cases e
    | some k1 =>
      rw [es] at e
      have kok1 := step_ok S kok es
      have st : 1 ≤ n ∧ Need ms (n - 1) k1 := by
        rcases kinds_are kok.1 with rfl | rfl | rfl | ⟨y, rfl⟩ | ⟨y, rfl, kx⟩
        · cases es
        · cases es
        · cases es
        · have h3 : 3 ≤ n ∧ _ := h
          obtain ⟨n', rfl⟩ : ∃ n', n = n' + 1 := ⟨n - 1, by omega⟩
          rw [step_msg] at es
          exact ⟨by omega, need_field S rfl h (f := (x, k1)) (lookup_mem es)⟩
        · rw [step_map] at es
          cases Option.some.inj es
          have h : 2 ≤ n ∨ (1 ≤ n ∧ [("map" : Str), y].length = 1) := h
          have h2 : 2 ≤ n := by
            rcases h with h | h
            · exact h
            · exact absurd h.2 (by simp)
          exact ⟨by omega, .inr ⟨by omega, rfl⟩⟩
      obtain ⟨a, b⟩ := need_walk S kok1 st.2 e
      refine ⟨by rw [List.length_cons]; omega, ?_⟩
      rw [List.length_cons]
      have : n - (p.length + 1) = n - 1 - p.length := by omega
      rw [this]
      exact b
theorem need6 : ∀ i < 4, Need (fmM i) 6 topK
  | 0, _ => ⟨by decide, by decide +kernel⟩
  | 1, _ => ⟨by decide, by decide +kernel⟩
  | 2, _ => ⟨by decide, by decide +kernel⟩
  | 3, _ => ⟨by decide, by decide +kernel⟩
theorem kp_del {H : Hp} {t : Addr} : Kp (At t) H (del H t) := fun b o n e => by
  rw [del_ne n]
  exact e
theorem kp_base {H H2 : Hp} {t : Addr} (k : Kp (At t) H H2) : Kp T0 (del H t) H2 := fun b o _ e => by
  by_cases z : b = t
  · rw [z, del_same] at e
    cases e
  · rw [del_ne z] at e
    exact k b o z e
theorem dd_base {H H2 : Hp} {t : Addr} {v : V} {d : PyData} (h : Dd (Oc H) H2 v d) : Dd (Oc (del H t)) H2 v d := h.out fun b ob => .inl fun e => ob (by
  by_cases z : b = t
  · rw [z]
    exact del_same
  · rw [del_ne z]
    exact e)
/-- a value that is judged -/
def VJ (T : Addr → Prop) (H : Hp) (v : V) : Prop := ∃ d, Dd T H v d ∧ ValJ d
theorem VJ.keep {T : Addr → Prop} {H H2 : Hp} {v : V} (h : VJ T H v) (k : Kp T H H2) : VJ T H2 v := by
  obtain ⟨d, a, b⟩ := h
  exact ⟨d, a.keep k, b⟩
/-- the loop over the paths -/
def t6P (C : Addr) : TS := fun D st H => ∃ (a t : Addr) (f s : V) (i : Nat) (ks : Cho) (o1 o5 o6 o7 o8 o9 o10 o11 o12 o13 : Option V),
  st = [some (.ref a), o1, some (.ref t), some f, some s, o5, o6, o7, o8, o9, o10, o11, o12, o13] ∧ TapeAt H t ∧ i < 4 ∧ ForIs H f (fmM i) (fmC i) ∧ IsS C H s (fmM i) ks ∧ KeptOf (fmC i) ks ∧
  ∀ H2 (p1 p5 p6 p7 p8 p9 p10 p11 p12 p13 : Option V), Kp (At t) H H2 → TapeAt H2 t → D.nx [some (.ref a), p1, some (.ref t), some f, some s, p5, p6, p7, p8, p9, p10, p11, p12, p13] H2
section
variable {P : Program} {w : World} {K : PySem.W.Frag} {mg : Str → Option Value} {base : Heap} {C CB f : Addr} {cdv : Value} {A : Around} {outer : List Env} {s : Shared} {H : Hp} {E : XK}
theorem p6P {fK fL fV fB fA fW fS : Addr} (TL : TxtL mg) (T : TxtS K mg C) (hf : Free A) (hr : Room 30 (A.deeper (PyProof.Rows.envOfC "law" (defScope sLaw) s.heap.objs.size f cdv)))
    (DL : Df P w K mg base 8 fL "_law_paths" ["forms", "path", "names"] (spLPaths 6)) (DK : Df P w K mg base 1 fK "_law_kind" ["forms", "path"] spLKind) (DV : Df P w K mg base 15 fV "_law_value" ["tape", "forms", "path"] (spLVal 6)) (DB : Df P w K mg base 4 fB "_law_bent" ["tape", "value"] spBent)
    (DA : Df P w K mg base 3 fA "_law_any" ["tape"] spAnyL) (DW : Df P w K mg base 27 fW "_law_is_worth" ["forms", "kind", "value"] (spLWor 12)) (DS : DmX P w K mg base C 29 "is_value" fS ["self", "path", "value"] (spIsVal K C CB)) {t2 : TS} (h5 : PSs (cxOf CX0 P w K mg base NL "law" (defScope sLaw) f cdv A outer s H E).nox (LB.drop 4) t2) :
    PSs (cxOf CX0 P w K mg base NL "law" (defScope sLaw) f cdv A outer s H E).nox (LB.drop 3) (fun D => t6P C { D with nx := t2 D }) := by
  have hu70 : (A.deeper (PyProof.Rows.envOfC "law" (defScope sLaw) s.heap.objs.size f cdv)).units + 70 < cLine := by
    have := hr.un
    omega
  have r29 : Room 29 _ := hr.mono (by decide)
  have r27 : Room 27 _ := hr.mono (by decide)
  have r15 : Room 15 _ := hr.mono (by decide)
  have r8 : Room 8 _ := hr.mono (by decide)
  have r4 : Room 4 _ := hr.mono (by decide)
  have r3 : Room 3 _ := hr.mono (by decide)
  have r1 : Room 1 _ := hr.mono (by decide)
  have rep : CallR (cxOf CX0 P w K mg base NL "law" (defScope sLaw) f cdv A outer s H E).nox (.builtin "repr") rReprV := call_reprV (hf.deeper _) hu70
  refine pss_weak (pss_cons (ps_for PassesOwn.never rfl (pi_list (pe_df DL r8 (by rfl) (pa_cons (pv 3) (pa_cons (pe_tup pa_nil) (pa_cons (pe_lst (pa_cons pe_str pa_nil)) pa_nil))))) (pg_name (i := 5) scLaw.nd rfl (Or.inr rfl))
    (pss_cons (ps_set (i := 6) scLaw.nd rfl (Or.inl rfl) (pe_df DK r1 (by rfl) (pa_cons (pv 3) (pa_cons (pv 5) pa_nil))))
    (pss_cons (ps_setLc (i := 7) (te := tCall (spLVal 6) [] E0 (tCons (tVar 2) (tCons (tVar 3) (tCons (tVar 5) tNil)))) (own := [("look", 8)]) (g := gName 8) (tt := tYes) rfl scLaw.nd rfl rfl (sw_true rfl rfl rfl (by decide +kernel)) (pi_range1 (by rfl) TL.z_range (pa_cons pe_int pa_nil)) (blkOk_by (N := NL) (sc := defScope sLaw) (by decide +kernel)) (fun _ _ _ _ _ => (pg_name (i := 8) scLaw.nd rfl (Or.inl rfl))) (fun _ _ _ _ _ => pts_nil) (fun _ _ _ _ _ => (pe_df DV r15 (by rfl) (pa_cons (pv 2) (pa_cons (pv 3) (pa_cons (pv 5) pa_nil))))))
    (pss_cons (ps_set (i := 7) scLaw.nd rfl (Or.inl rfl) (pe_op op_cat (pv 7) (pe_lc (te := tCall spBent [] E0 (tCons (tVar 2) (tCons (tVar 9) tNil))) (own := [("value", 9)]) (g := gName 9) (tt := tYes) rfl scLaw.nd (pi_list (pv 7)) (blkOk_by (N := NL) (sc := defScope sLaw) (by decide +kernel)) (fun _ _ _ _ _ => (pg_name (i := 9) scLaw.nd rfl (Or.inl rfl))) (fun _ _ _ _ _ => pts_nil) (fun _ _ _ _ _ => (pe_df DB r4 (by rfl) (pa_cons (pv 2) (pa_cons (pv 9) pa_nil)))))))
    (pss_one (ps_for PassesOwn.never rfl (pi_list (pe_op op_cat (pv 7) (pe_lst (pa_cons pe_dnewK (pa_cons pe_str (pa_cons (pe_df DA r3 (by rfl) (pa_cons (pv 2) pa_nil)) (pa_cons (pe_df DA r3 (by rfl) (pa_cons (pv 2) pa_nil)) pa_nil))))))) (pg_name (i := 9) scLaw.nd rfl (Or.inl rfl))
      (pss_cons (ps_par (i := 10) (j := 11) (by rfl) scLaw.nd rfl rfl (by decide) rfl rfl (pa_cons (pe_callB (r := rReprV) rep (by rfl) TL.z_repr boot_repr6 (pa_cons (pv 9) pa_nil)) (pa_cons (pe_df DW r27 (by rfl) (pa_cons (pv 3) (pa_cons (pv 6) (pa_cons (pv 9) pa_nil)))) pa_nil)) (by rfl))
      (pss_cons (ps_if (pt_cmpR op_ne (pe_callB call_repr_bool (by rfl) TL.z_repr boot_repr6 (pa_cons (pe_dmX (pv 4) T.cl DS r29 (fun σ => L2N.passAt takes0D σ) (pa_cons (pv 5) (pa_cons (pv 9) pa_nil))) pa_nil)) (pe_callB call_repr_bool (by rfl) TL.z_repr boot_repr6 (pa_cons (pv 11) pa_nil)) (nomark _)) (pss_one (ps_ret pe_bl)) pss_nil)
      (pss_one (ps_if (pt_cmpR op_ne (pe_callB (r := rReprV) rep (by rfl) TL.z_repr boot_repr6 (pa_cons (pv 9) pa_nil)) (pv 10) (nomark _)) (pss_one (ps_ret pe_bl)) pss_nil)))))))))) h5) (fun D st H0 h => ?_)
  obtain ⟨a, t, fv, sv, i, ks, o1, o5, o6, o7, o8, o9, o10, o11, o12, o13, rfl, ta, hi, fm, is, kept, fin⟩ := h
  have hz : (16777216 : Nat) = PySem.sizeLine := PySem.sizeLine_eq.symm
  have l1 : 1 ≤ PySem.sizeLine := by omega
  obtain ⟨S, co, ch⟩ := fm_sch i hi
  have kcs := cho_ks co
  have kks := kept_ks co kept
  have fmB := fm.tape (kp_del (t := t)) ta
  have isB := is.tape (kp_del (t := t)) ta
  have perm : ∀ n, (Gk.rowsOf ks n).Perm (Gk.rowsOf (fmC i) n) := fun n => kept_rows kept co.2.1 n
  have kT : ∀ {Ha Hb : Hp}, Kp (At t) Ha Hb → Kp (Oc H0) Ha Hb := fun k b o n e => k b o (fun z => n (by rw [show b = t from z]; exact occ_tape ta _ rfl)) e
  have ocT : ∀ {Hb : Hp}, Kp (At t) H0 Hb → TapeAt Hb t → Occ (Oc H0) Hb := fun k tb b ob => occ_later k tb ob
  -- the paths
  refine ⟨_, rfl, Nat.zero_le _, fun a0 h0 => ?_⟩
  have g1 : Kp T0 H0 (upd H0 a0 (.tup [])) := (Kp.refl H0).new h0
  have e1 : (upd H0 a0 (.tup [])) a0 = some (.tup []) := upd_same
  generalize upd H0 a0 (.tup []) = H1 at g1 e1 ⊢
  refine ⟨l1, fun nl hnl => ?_⟩
  have g2 : Kp T0 H1 (upd H1 nl (.lst [.str "k"])) := (Kp.refl H1).new hnl
  have e2 : (upd H1 nl (.lst [.str "k"])) nl = some (.lst [.str "k"]) := upd_same
  generalize upd H1 nl (.lst [.str "k"]) = H2 at g2 e2 ⊢
  have k02 := g1.trans g2
  refine ⟨fv, .ref a0, nl, ["k"], fmM i, fmC i, [], topK, rfl, fm.keep0 k02, S, ⟨a0, rfl, g2.at0 e1⟩, (fun _ m => nomatch m), (by decide), (by decide), e2, (by decide), List.all_eq_true.mp (by decide +kernel), rfl, need6 i hi, fun H3 r ys ps k3 nr dr hps told lys => ?_⟩
  have k03 := k02.trans k3
  have ta3 := ta.keep k03
  have tr : ¬ At t r := tape_ne ta3 dr
  refine ⟨r, rfl, ⟨_, SqL.of dr⟩, ?_⟩
  refine for_it (walk_list (a := r) (xs := ys)) (fun j st H4 => Kp (At t) H3 H4 ∧ TapeAt H4 t ∧ ∃ (o5 o6 o7 o8 o9 o10 o11 : Option V), st = [some (.ref a), o1, some (.ref t), some fv, some sv, o5, o6, o7, o8, o9, o10, o11, o12, o13])
    ⟨Kp.refl H3, ta3, _, _, _, _, _, _, _, rfl⟩ (fun j st H4 _ p => SqL.of (p.1 r _ tr dr)) (fun j x st H4 H5 hj p y => ?_) (fun st H4 p => ?_)
  rotate_left
  · obtain ⟨k4, ta4, o5, o6, o7, o8, o9, o10, o11, rfl⟩ := p
    exact fin H4 _ _ _ _ _ _ _ _ _ _ (k03.wide.trans k4) ta4
  obtain ⟨k4, ta4, o5, o6, o7, o8, o9, o10, o11, rfl⟩ := p
  obtain ⟨rfl, sx⟩ := y
  obtain ⟨p, hp, ip⟩ := Ps.get hps sx
  obtain ⟨okn, pne, pl, wks⟩ := told p (List.mem_of_getElem? hp)
  have pl : p.length ≤ 6 := pl
  obtain ⟨k, wk⟩ := Option.isSome_iff_exists.mp wks
  obtain ⟨nl1, need⟩ := need_walk S (top_ok S) (need6 i hi) wk
  have p1 : 1 ≤ p.length := by
    cases p with
    | nil => exact absurd rfl pne
    | cons x p => simp
  have m5 : 6 - p.length ≤ 5 := by omega
  generalize hm : 6 - p.length = m at need m5
  have okk : KindOk (fmM i) k := walk_ok S (top_ok S) wk
  have ekk : (some p).bind (kindAt (fmM i)) = some k := by
    show kindAt (fmM i) p = some k
    unfold kindAt
    rw [if_neg pne]
    exact wk
  have K4 : Kp (At t) H0 H5 := k03.wide.trans k4
  have ip4 := ip.tape k4 ta3
  -- kind
  refine ⟨_, rfl, _, rfl, fv, x, fmM i, fmC i, p, rfl, fm.tape K4 ta, S, ip4, by omega, fun y my => (isNm_ok (okn y my)).2, fun H6 kv k6 kvo => ?_⟩
  rw [wk] at kvo
  have ikv : IsP H6 kv k := kvo
  have K6 : Kp (At t) H0 H6 := K4.trans k6.wide
  have ta6 := ta4.keep k6
  have ip6 := ip4.keep0 k6
  -- some, drawn
  refine ⟨_, rfl, (by decide), (by decide), fun D1 hD1 => ?_⟩
  have tD1 : ¬ At t D1 := tape_fresh ta6 hD1
  refine lc_kp (T := At t) walk_range (i0 := 8) (fun i v => v = .int (0 + (i : Int))) (fun i us H7 => TapeAt H7 t ∧ us.length ≤ i ∧ ∀ x ∈ us, ∃ d, Dd (fun b => Oc H0 b ∨ b = D1) H7 x d ∧ DrawnD m d)
    (fun i H6 v H7 _ y => y) hD1 tD1 (by rw [PySem.sizeLine_eq]; decide) (wipe1 _ 8) (fun _ _ => True.intro) ⟨ta6.new hD1, Nat.le_refl _, fun r hr => nomatch hr⟩ (fun j u us H7 Ky Kn hj sx7 k7 d7 q ky _ => ?_) (fun us H7 k7 d7 lu q => ?_)
  · obtain ⟨ta7, lu, vu⟩ := q
    refine yes_ ?_
    have kF : ∀ {Ha Hb : Hp}, Kp (At t) Ha Hb → Kp (fun b => Oc H0 b ∨ b = D1) Ha Hb := fun k b o n e => k b o (fun z => n (.inl (by rw [show b = t from z]; exact occ_tape ta _ rfl))) e
    refine ⟨_, rfl, _, rfl, _, rfl, t, fv, x, fmM i, fmC i, p, k, m, rfl, ta7, fm.tape (K6.trans k7) ta, S, kcs, ip6.tape k7 ta6, okn, by omega, wk, by omega, need, fun H8 v d k8 ta8 dd dr8 _ => ?_⟩
    have dd2 : Dd (fun b => Oc H0 b ∨ b = D1) H8 v d := dd.out fun b h => .inl (by
      rcases h with h | h
      · exact occ_later (K6.trans k7) ta7 h
      · unfold Oc
        rw [h, d7]
        exact fun z => nomatch z)
    have kk : Kp (fun b => Oc H0 b ∨ b = D1) H8 (upd H8 D1 (.lst (us ++ [v]))) := (Kp.refl _).put (.inr rfl)
    refine ky _ _ k8 ⟨ta8.over tD1, by rw [List.length_append, List.length_singleton]; omega, fun z mz => ?_⟩
    rcases List.mem_append.mp mz with h | h
    · obtain ⟨d2, h1, h2⟩ := vu z h
      exact ⟨d2, (h1.keep (kF k8)).keep kk, h2⟩
    · rw [List.mem_singleton.mp h]
      exact ⟨d, dd2.keep kk, dr8⟩
  obtain ⟨ta7, lu', vu⟩ := q
  have vu7 : ∀ x ∈ us, ∃ d, Dd (Oc H0) H7 x d ∧ DrawnD m d := fun z mz => by
    obtain ⟨d, h1, h2⟩ := vu z mz
    exact ⟨d, h1.out fun b h => .inl (.inl h), h2⟩
  clear vu
  have K7 : Kp (At t) H0 H7 := K6.trans k7
  have ip7 := ip6.tape k7 ta6
  have ikv7 := ikv.tape k7 ta6
  -- some, bent
  refine ⟨_, rfl, _, rfl, D1, rfl, ⟨_, SqL.of d7⟩, fun D2 hD2 => ?_⟩
  have tD2 : ¬ At t D2 := tape_fresh ta7 hD2
  have nD12 : D1 ≠ D2 := fun z => by
    rw [z, hD2] at d7
    cases d7
  refine lc_kp (T := At t) (walk_list (xs := us)) (i0 := 9) (fun i v => us[i]? = some v) (fun i ws H8 => TapeAt H8 t ∧ ws.length ≤ i ∧ ∀ x ∈ ws, VJ (fun b => Oc H0 b ∨ b = D2) H8 x)
    (fun i H6 v H7 _ y => y) hD2 tD2 (by omega) (wipe1 _ 9) (fun H8 k8 => SqL.of (k8 D1 _ (tape_ne ta7 d7) d7)) ⟨ta7.new hD2, Nat.le_refl _, fun r hr => nomatch hr⟩ (fun j u ws H8 Ky Kn hj sx8 k8 d8 q ky _ => ?_) (fun ws H8 k8 d8 lw q => ?_)
  · obtain ⟨ta8, lw, vw⟩ := q
    refine yes_ ?_
    have kF : ∀ {Ha Hb : Hp}, Kp (At t) Ha Hb → Kp (fun b => Oc H0 b ∨ b = D2) Ha Hb := fun k b o n e => k b o (fun z => n (.inl (by rw [show b = t from z]; exact occ_tape ta _ rfl))) e
    obtain ⟨d, hd, hdr⟩ := vu7 u (List.mem_of_getElem? sx8)
    have hd8 : Dd (fun b => Oc H0 b ∨ b = D2) H8 u d := (hd.out fun b h => h.elim .inl fun h => .inr (by rw [h]; exact hD2) : Dd (fun b => Oc H0 b ∨ b = D2) H7 u d).keep (kF k8)
    have oc8 : Occ (fun b => Oc H0 b ∨ b = D2) H8 := fun b h => by
      rcases h with h | h
      · exact occ_later (K7.trans k8) ta8 h
      · rw [h, d8]
        exact fun z => nomatch z
    refine ⟨_, rfl, _, rfl, t, fun b => Oc H0 b ∨ b = D2, u, d, m, rfl, ta8, .inl (occ_tape ta _ rfl), oc8, hd8, hdr, m5, fun H9 v e k9 ta9 he hv => ?_⟩
    have kk : Kp (fun b => Oc H0 b ∨ b = D2) H9 (upd H9 D2 (.lst (ws ++ [v]))) := (Kp.refl _).put (.inr rfl)
    refine ky _ _ k9 ⟨ta9.over tD2, by rw [List.length_append, List.length_singleton]; omega, fun z mz => ?_⟩
    rcases List.mem_append.mp mz with h | h
    · exact ((vw z h).keep (kF k9)).keep kk
    · rw [List.mem_singleton.mp h]
      exact ⟨e, he.keep kk, hv⟩
  obtain ⟨ta8, lw', vw⟩ := q
  have d78 : H8 D1 = some (.lst us) := k8 D1 _ (tape_ne ta7 d7) d7
  refine ⟨D1, D2, us, ws, rfl, rfl, d78, d8, (by omega), fun l3 hl3 => ?_⟩
  have g9 : Kp T0 H8 (upd H8 l3 (.lst (us ++ ws))) := (Kp.refl H8).new hl3
  have e9 : (upd H8 l3 (.lst (us ++ ws))) l3 = some (.lst (us ++ ws)) := upd_same
  have vs9 : ∀ z ∈ us ++ ws, VJ (Oc H0) (upd H8 l3 (.lst (us ++ ws))) z := fun z mz => by
    rcases List.mem_append.mp mz with h | h
    · obtain ⟨d, h1, h2⟩ := vu7 z h
      exact ⟨d, (h1.keep (kT k8)).keep g9.wide, drawnJ m5 h2⟩
    · obtain ⟨d, h1, h2⟩ := vw z h
      exact ⟨d, (h1.out fun b h => .inl (.inl h) : Dd (Oc H0) H8 z d).keep g9.wide, h2⟩
  have l9 : (us ++ ws).length ≤ 100 := by rw [List.length_append]; omega
  have ta9 := ta8.keep g9
  have K9 : Kp (At t) H0 (upd H8 l3 (.lst (us ++ ws))) := (K7.trans k8).trans g9.wide
  have ip9 := (ip7.tape k8 ta7).keep0 g9
  have ikv9 := (ikv7.tape k8 ta7).keep0 g9
  have k59 : Kp (At t) H5 (upd H8 l3 (.lst (us ++ ws))) := ((k6.wide.trans k7).trans k8).trans g9.wide
  generalize upd H8 l3 (.lst (us ++ ws)) = H9 at g9 e9 vs9 ta9 K9 ip9 ikv9 k59 ⊢
  generalize us ++ ws = vs at e9 vs9 l9
  clear vu7 vw k8 k7 d8 d7 d78 ta8 ta7 ip7 ikv7 hD1 hD2
  -- some + [{}, "", _law_any(tape), _law_any(tape)]
  refine ⟨_, rfl, fun b1 hb1 => ?_⟩
  have g10 : Kp T0 H9 (upd H9 b1 (.dK [])) := (Kp.refl H9).new hb1
  have v1 : VJ (Oc H0) (upd H9 b1 (.dK [])) (.ref b1) := ⟨.dict [], .dict ((ocT K9 ta9).new hb1) upd_same .nil, valB_J (by decide +kernel)⟩
  have ta10 := ta9.keep g10
  have K10 := K9.trans g10.wide
  generalize upd H9 b1 (.dK []) = H10 at g10 v1 ta10 K10 ⊢
  have anyJ : ∀ {d : PyData}, d ∈ any1 ++ any2 ++ any3 → ValJ d := fun md => valB_J (List.all_eq_true.mp bentS_ok _ (List.mem_append_right _ md))
  refine ⟨_, rfl, t, Oc H0, rfl, ta10, occ_tape ta _ rfl, ocT K10 ta10, fun H11 v2 d2 k11 ta11 hd2 md2 => ?_⟩
  have K11 := K10.trans k11
  refine ⟨_, rfl, t, Oc H0, rfl, ta11, occ_tape ta _ rfl, ocT K11 ta11, fun H12 v3 d3 k12 ta12 hd3 md3 => ⟨(by show 4 ≤ sizeLine; omega), fun l4 hl4 => ?_⟩⟩
  have K12 := K11.trans k12
  have g13 : Kp T0 H12 (upd H12 l4 (.lst [.ref b1, .str "", v2, v3])) := (Kp.refl H12).new hl4
  have e13 : (upd H12 l4 (.lst [.ref b1, .str "", v2, v3])) l4 = some (.lst [.ref b1, .str "", v2, v3]) := upd_same
  generalize upd H12 l4 (.lst [.ref b1, .str "", v2, v3]) = H13 at g13 e13 ⊢
  have k912 : Kp (At t) H9 H13 := ((g10.wide.trans k11).trans k12).trans g13.wide
  refine ⟨l3, l4, vs, _, rfl, rfl, k912 l3 _ (tape_ne ta9 e9) e9, e13, (by show vs.length + 4 ≤ _; omega), fun l5 hl5 => ?_⟩
  have g14 : Kp T0 H13 (upd H13 l5 (.lst (vs ++ [.ref b1, .str "", v2, v3]))) := (Kp.refl H13).new hl5
  have e14 : (upd H13 l5 (.lst (vs ++ [.ref b1, .str "", v2, v3]))) l5 = some (.lst (vs ++ [.ref b1, .str "", v2, v3])) := upd_same
  have ta14 := (ta12.keep g13).keep g14
  have k914 := k912.trans g14.wide
  have vs14 : ∀ z ∈ vs ++ [.ref b1, .str "", v2, v3], VJ (Oc H0) (upd H13 l5 (.lst (vs ++ [.ref b1, .str "", v2, v3]))) z := fun z mz => by
    rcases List.mem_append.mp mz with h | h
    · exact (vs9 z h).keep (kT k914)
    · simp only [List.mem_cons, List.not_mem_nil, or_false] at h
      rcases h with rfl | rfl | rfl | rfl
      · exact v1.keep (kT (((k11.trans k12).trans g13.wide).trans g14.wide))
      · exact ⟨.str "", .sc (.str _), valB_J (by decide +kernel)⟩
      · exact VJ.keep (H := H11) ⟨d2, hd2, anyJ md2⟩ (kT ((k12.trans g13.wide).trans g14.wide))
      · exact VJ.keep (H := H12) ⟨d3, hd3, anyJ md3⟩ (kT (g13.trans g14).wide)
  generalize upd H13 l5 (.lst (vs ++ [.ref b1, .str "", v2, v3])) = H14 at g14 e14 ta14 k914 vs14 ⊢
  generalize vs ++ [.ref b1, .str "", v2, v3] = vals at e14 vs14 ⊢
  have K14 : Kp (At t) H0 H14 := K9.trans k914
  have ip14 := ip9.tape k914 ta9
  have ikv14 := ikv9.tape k914 ta9
  have k514 := k59.trans k914
  refine ⟨l5, rfl, ⟨_, SqL.of e14⟩, ?_⟩
  refine for_it (walk_list (a := l5) (xs := vals)) (fun j st H15 => Kp T0 H14 H15 ∧ ∃ (o8 o9 o10 o11 : Option V), st = [some (.ref a), o1, some (.ref t), some fv, some sv, some x, some kv, some (.ref l3), o8, o9, o10, o11, o12, o13])
    ⟨Kp.refl H14, _, _, _, _, rfl⟩ (fun j st H15 _ p => SqL.of (p.1.at0 e14)) (fun j z st H15 H16 hj pp y => ?_) (fun st H15 pp => ?_)
  rotate_left
  · obtain ⟨k15, o8, o9, o10, o11, rfl⟩ := pp
    exact ⟨k4.trans (k514.trans k15.wide), ta14.keep k15, _, _, _, _, _, _, _, rfl⟩
  obtain ⟨k15, o8, o9, o10, o11, rfl⟩ := pp
  obtain ⟨rfl, sz⟩ := y
  obtain ⟨d, hd, vj⟩ := (vs14 z (List.mem_of_getElem? sz)).keep k15.wide
  have K15 : Kp (At t) H0 H16 := K14.trans k15.wide
  -- kept, due
  have hd60 : d.depth ≤ 60 := Nat.le_of_lt (Nat.lt_trans vj.dep (by decide))
  have hsz : d.shown.length ≤ PySem.sizeLine := Nat.le_trans vj.ok.sz (by omega)
  refine ⟨_, rfl, z, d, _, rfl, hd, vj.ok.sw, hd60, hsz, ?_⟩
  refine ⟨_, rfl, _, rfl, _, rfl, fv, kv, z, del H0 t, fmM i, fmC i, k, d, rfl, fmB, kp_base K15, S, kcs, ikv14.keep0 k15, okk, dd_base hd, vj.wf, vj.dep, fun H17 k17 => ⟨_, _, rfl, ?_⟩⟩
  have K17 : Kp (At t) H0 H17 := K15.trans k17.wide
  obtain ⟨xa, dx, fvv, esv, hxa, _⟩ := id is
  have xt : ¬ At t xa := fun q => by
    obtain ⟨_, _, et, _⟩ := ta
    rw [show xa = t from q, et] at hxa
    cases hxa
  refine ⟨_, rfl, xa, dx, _, esv, K17 xa _ xt hxa, rfl, _, rfl, _, rfl, sv, x, z, del H0 t, fmM i, ks, some p, d, rfl, isB, kp_base K17, S, kks, .inl ⟨p, rfl, (ip14.keep0 k15).keep0 k17, okn, by omega⟩, dd_base (hd.keep k17.wide), vj.wf, vj.dep, fun k2 ek2 H18 k18 => ?_, fun e => ?_⟩
  rotate_left
  · rw [ekk] at e
    cases e
  rw [ekk] at ek2
  cases Option.some.inj ek2
  refine ⟨_, rfl, ?_⟩
  refine ⟨_, rfl, _, rfl, rfl, _, rfl, ?_⟩
  rw [okK_perm perm, decide_eq_true rfl]
  refine iteF ?_
  refine ⟨_, rfl, z, d, _, rfl, (hd.keep k17.wide).keep k18.wide, vj.ok.sw, hd60, hsz, ?_⟩
  refine ⟨_, rfl, rfl, _, rfl, ?_⟩
  rw [decide_eq_true rfl]
  exact iteF ⟨(k15.trans k17).trans k18, _, _, _, _, rfl⟩
end
end Lw
namespace Lw
open PySem L2 Gk
/-- a value that is no path -/
def NoPath (K : PySem.W.Frag) (i : Nat) (H : Hp) (v : V) : Prop := ∃ d o, Dp K H v d ∧ PV K H v o ∧ o.bind (kindAt (fmM i)) = none ∧ PySem.SeqAt.shaped (.list [d]) = true ∧ PyData.eqv (.list [d]) (.list [d]) = true
theorem NoPath.keep0 {K : PySem.W.Frag} {i : Nat} {H H2 : Hp} {v : V} (h : NoPath K i H v) (k : Kp T0 H H2) : NoPath K i H2 v := by
  obtain ⟨d, o, a, b, c⟩ := h
  exact ⟨d, o, dp_keep k a, b.keep0 k, c⟩
theorem no_kinds : ∀ i < 4, kindAt (fmM i) [] = none ∧ kindAt (fmM i) ["zz"] = none ∧ kindAt (fmM i) ["a", "a", "a"] = none
  | 0, _ => by decide +kernel
  | 1, _ => by decide +kernel
  | 2, _ => by decide +kernel
  | 3, _ => by decide +kernel
/-- the suite: the error's value kept -/
def tSu6 (CB a : Addr) (cls : Value) (d : Option Addr) : TS := fun D σ H => ∃ (lo dd : Addr) (v : V), σ[12]? = some (some (.ref lo)) ∧ σ[13]? = some (some (.ref a)) ∧ H lo = some (.lst []) ∧ cls = .ref CB ∧ d = some dd ∧ H dd = some (.xd [("value", v)]) ∧ D.nx σ (upd H lo (.lst [v]))
/-- the loop over what is no path -/
def t6V (C : Addr) : TS := fun D st H => ∃ (a t : Addr) (f s : V) (i : Nat) (ks : Cho) (o1 o5 o6 o7 o8 o9 o10 o11 o12 o13 : Option V),
  st = [some (.ref a), o1, some (.ref t), some f, some s, o5, o6, o7, o8, o9, o10, o11, o12, o13] ∧ i < 4 ∧ IsS C H s (fmM i) ks ∧ KsOk ks ∧
  ∀ H2 (p1 p2 p3 p4 p5 p6 p7 p8 p9 p10 p11 p12 p13 : Option V), Kp T0 H H2 → D.nx [some (.ref a), p1, p2, p3, p4, p5, p6, p7, p8, p9, p10, p11, p12, p13] H2
section
variable {P : Program} {w : World} {K : PySem.W.Frag} {mg : Str → Option Value} {base : Heap} {C CB f : Addr} {cdv : Value} {A : Around} {outer : List Env} {s : Shared} {H : Hp} {E : XK}
theorem p6V {fS : Addr} (T : TxtS K mg C) (gB : mg "BadPath" = some (.ref CB)) (xf : XfC K CB) (noV : PySem.W.findIn K (.ref CB) "value" = some none) (ex1 : PySem.W.exmOne K (.ref CB) (.ref CB) = some true) (hr : Room 30 (A.deeper (PyProof.Rows.envOfC "law" (defScope sLaw) s.heap.objs.size f cdv)))
    (DS : DmX P w K mg base C 29 "is_value" fS ["self", "path", "value"] (spIsVal K C CB)) : PSs (cxOf CX0 P w K mg base NL "law" (defScope sLaw) f cdv A outer s H E).nox (LB.drop 4) (t6V C) := by
  have r29 : Room 29 _ := hr.mono (by decide)
  have un : (A.deeper (PyProof.Rows.envOfC "law" (defScope sLaw) s.heap.objs.size f cdv)).units + 64 < cLine := hr.units
  refine pss_weak (pss_one (ps_for PassesOwn.never rfl (pi_list (pe_lst (pa_cons (pe_tup pa_nil) (pa_cons (pe_tup (pa_cons pe_str pa_nil)) (pa_cons pe_non (pa_cons pe_str (pa_cons (pe_lst (pa_cons pe_str pa_nil)) (pa_cons (pe_tup (pa_cons pe_str (pa_cons pe_str (pa_cons pe_str pa_nil)))) pa_nil)))))))) (pg_name (i := 9) scLaw.nd rfl (Or.inl rfl))
    (pss_cons (ps_set (i := 12) scLaw.nd rfl (Or.inl rfl) (pe_lst pa_nil))
    (pss_cons (L2N.ps_try_as (ts := fun a cls d => tSu6 CB a cls d) rfl rfl scLaw.nd (i := 13) rfl rfl (⟨by rfl, by decide, .inl gB⟩ : Names _ "BadPath" (.ref CB)) takes0D
      (fun W pn xe tk ps => pss_one (ps_expr (pe_dmX (pv 4) T.cl DS r29 (fun σ => L2N.passAt tk σ) (pa_cons (pv 9) (pa_cons pe_str pa_nil)))))
      (fun a oe cls d pn hz hff => pss_weak (pss_one (ps_expr (pe_bm (r := rAppend) PySem.F.plainAttrs_list PySem.F.slot_list_append PySem.F.type_list_append mt_append (pv 12) (pa_cons (pe_xf xf noV hz.zc hff (pv 13)) pa_nil)))) (fun D σ H q => by
        obtain ⟨lo, dd, v, h12, h13, hl, rfl, rfl, hd, q⟩ := q
        exact ⟨_, h12, .inl ⟨rfl, _, SqL.of hl⟩, _, h13, rfl, rfl, dd, _, v, rfl, hd, rfl, lo, [], v, rfl, rfl, hl, by rw [PySem.sizeLine_eq]; decide, q⟩)))
    (pss_one (ps_if (pt_cmpR (op_neD un) (pv 12) (pe_lst (pa_cons (pv 9) pa_nil)) (nomark _)) (pss_one (ps_ret pe_bl)) pss_nil)))))) (fun D st H0 h => ?_)
  obtain ⟨a, t, fv, sv, i, ks, o1, o5, o6, o7, o8, o9, o10, o11, o12, o13, rfl, hi, is, kks, fin⟩ := h
  have hz : (16777216 : Nat) = PySem.sizeLine := PySem.sizeLine_eq.symm
  have l1 : 1 ≤ PySem.sizeLine := by omega
  obtain ⟨S, co, ch⟩ := fm_sch i hi
  obtain ⟨n1, n2, n3⟩ := no_kinds i hi
  refine ⟨Nat.zero_le _, fun b1 hb1 => ?_⟩
  have g1 : Kp T0 H0 (upd H0 b1 (.tup [])) := (Kp.refl H0).new hb1
  have e1 : (upd H0 b1 (.tup [])) b1 = some (.tup []) := upd_same
  generalize upd H0 b1 (.tup []) = H1 at g1 e1 ⊢
  refine ⟨l1, fun b2 hb2 => ?_⟩
  have g2 : Kp T0 H1 (upd H1 b2 (.tup [.str "zz"])) := (Kp.refl H1).new hb2
  have e2 : (upd H1 b2 (.tup [.str "zz"])) b2 = some (.tup [.str "zz"]) := upd_same
  generalize upd H1 b2 (.tup [.str "zz"]) = H2 at g2 e2 ⊢
  refine ⟨l1, fun b3 hb3 => ?_⟩
  have g3 : Kp T0 H2 (upd H2 b3 (.lst [.str "a"])) := (Kp.refl H2).new hb3
  have e3 : (upd H2 b3 (.lst [.str "a"])) b3 = some (.lst [.str "a"]) := upd_same
  generalize upd H2 b3 (.lst [.str "a"]) = H3 at g3 e3 ⊢
  refine ⟨(by show 3 ≤ sizeLine; omega), fun b4 hb4 => ?_⟩
  have g4 : Kp T0 H3 (upd H3 b4 (.tup [.str "a", .str "a", .str "a"])) := (Kp.refl H3).new hb4
  have e4 : (upd H3 b4 (.tup [.str "a", .str "a", .str "a"])) b4 = some (.tup [.str "a", .str "a", .str "a"]) := upd_same
  generalize upd H3 b4 (.tup [.str "a", .str "a", .str "a"]) = H4 at g4 e4 ⊢
  refine ⟨(by show 6 ≤ sizeLine; omega), fun b5 hb5 => ?_⟩
  have g5 : Kp T0 H4 (upd H4 b5 (.lst [.ref b1, .ref b2, .non, .str "a", .ref b3, .ref b4])) := (Kp.refl H4).new hb5
  have e5 : (upd H4 b5 (.lst [.ref b1, .ref b2, .non, .str "a", .ref b3, .ref b4])) b5 = some (.lst [.ref b1, .ref b2, .non, .str "a", .ref b3, .ref b4]) := upd_same
  generalize upd H4 b5 (.lst [.ref b1, .ref b2, .non, .str "a", .ref b3, .ref b4]) = H5 at g5 e5 ⊢
  have h1 := (g2.trans (g3.trans (g4.trans g5))).at0 e1
  have h2 := (g3.trans (g4.trans g5)).at0 e2
  have h3 := (g4.trans g5).at0 e3
  have h4 := g5.at0 e4
  have k05 := g1.trans (g2.trans (g3.trans (g4.trans g5)))
  have each : ∀ v ∈ [V.ref b1, .ref b2, .non, .str "a", .ref b3, .ref b4], NoPath K i H5 v := fun v mv => by
    simp only [List.mem_cons, List.not_mem_nil, or_false] at mv
    rcases mv with rfl | rfl | rfl | rfl | rfl | rfl
    · exact ⟨.tuple [], some [], .tup (SqT.of h1) .nil, .inl ⟨[], rfl, ⟨b1, rfl, h1⟩, (fun _ m => nomatch m), by show 0 < sizeLine; omega⟩, n1, by decide +kernel, by decide +kernel⟩
    · exact ⟨.tuple [.str "zz"], some ["zz"], .tup (SqT.of h2) (.cons (.str _) .nil), .inl ⟨["zz"], rfl, ⟨b2, rfl, h2⟩, List.all_eq_true.mp (by decide +kernel), by show 1 < sizeLine; omega⟩, n2, by decide +kernel, by decide +kernel⟩
    · exact ⟨.none, none, .non, .inr ⟨rfl, .inr .non⟩, rfl, by decide +kernel, by decide +kernel⟩
    · exact ⟨.str "a", none, .str _, .inr ⟨rfl, .inr (.str _)⟩, rfl, by decide +kernel, by decide +kernel⟩
    · exact ⟨.list [.str "a"], none, .lst (SqL.of h3) (.cons (.str _) .nil), .inr ⟨rfl, .inr (.lst h3)⟩, rfl, by decide +kernel, by decide +kernel⟩
    · exact ⟨.tuple [.str "a", .str "a", .str "a"], some ["a", "a", "a"], .tup (SqT.of h4) (.cons (.str _) (.cons (.str _) (.cons (.str _) .nil))), .inl ⟨["a", "a", "a"], rfl, ⟨b4, rfl, h4⟩, List.all_eq_true.mp (by decide +kernel), by show 3 < sizeLine; omega⟩, n3, by decide +kernel, by decide +kernel⟩
  generalize [V.ref b1, .ref b2, .non, .str "a", .ref b3, .ref b4] = vals at e5 each ⊢
  refine ⟨b5, rfl, ⟨_, SqL.of e5⟩, ?_⟩
  refine for_it (walk_list (a := b5) (xs := vals)) (fun j st H6 => Kp T0 H5 H6 ∧ ∃ (o9 o12 o13 : Option V), st = [some (.ref a), o1, some (.ref t), some fv, some sv, o5, o6, o7, o8, o9, o10, o11, o12, o13])
    ⟨Kp.refl H5, _, _, _, rfl⟩ (fun j st H6 _ p => SqL.of (p.1.at0 e5)) (fun j v st H6 H7 hj p y => ?_) (fun st H6 p => ?_)
  rotate_left
  · obtain ⟨k6, o9, o12, o13, rfl⟩ := p
    exact fin H6 _ _ _ _ _ _ _ _ _ _ _ _ _ (k05.trans k6)
  obtain ⟨k6, o9, o12, o13, rfl⟩ := p
  obtain ⟨rfl, sx⟩ := y
  obtain ⟨d, o, dp5, pv5, no, sh, eq⟩ := each v (List.mem_of_getElem? sx)
  refine ⟨Nat.zero_le _, fun lc hlc => ?_⟩
  have nlc : H5 lc = none := k6.free hlc
  have g7 : Kp T0 H7 (upd H7 lc (.lst [])) := (Kp.refl H7).new hlc
  have e7 : (upd H7 lc (.lst [])) lc = some (.lst []) := upd_same
  have pv_ := (pv5.keep0 k6).keep0 g7
  have is7 := is.keep0 ((k05.trans k6).trans g7)
  generalize upd H7 lc (.lst []) = H8 at g7 e7 pv_ is7 ⊢
  obtain ⟨xa, dx, fvv, esv, hxa, _⟩ := id is7
  refine ⟨_, rfl, xa, dx, _, esv, hxa, rfl, _, rfl, sv, v, .str "a", H8, fmM i, ks, o, .str "a", rfl, is7, Kp.refl H8, S, kks, pv_, .sc (.str _), by decide, by decide, fun k2 ek2 => ?_, fun eb H9 d9 k9 hd9 => ?_⟩
  · rw [no] at ek2
    cases ek2
  refine ⟨true, ex1, fun _ a2 ha2 => ?_, fun z => nomatch z⟩
  have e9 := k9.at0 e7
  refine ⟨lc, d9, v, rfl, rfl, e9, rfl, rfl, hd9, ?_⟩
  have kv : Kp T0 H5 (upd H9 lc (.lst [v])) := ((k6.trans g7).trans k9).over nlc
  have dpv : Dp K (upd H9 lc (.lst [v])) v d := dp_keep kv dp5
  refine ⟨_, rfl, _, rfl, l1, fun b10 hb10 => ?_⟩
  have g10 := (Kp.refl (T := T0) (upd H9 lc (.lst [v]))).new (o := .lst [v]) hb10
  refine ⟨.list [d], .list [d], .lst (SqL.of (g10.at0 upd_same)) (.cons (dp_keep g10 dpv) .nil), .lst (SqL.of upd_same) (.cons (dp_keep g10 dpv) .nil), sh, sh, ?_⟩
  rw [eq]
  exact ⟨_, rfl, iteF ⟨kv.trans g10, _, _, _, rfl⟩⟩
end
end Lw
namespace Lw
open PySem L2 Gk
/-- a turn's start -/
def t6 (K : PySem.W.Frag) : TS := fun D st H => ∃ (a : Addr) (ns : List Int) (start : Int) (o2 o3 o4 o5 o6 o7 o8 o9 o10 o11 o12 o13 : Option V),
  st = [some (.ref a), some (.int start), o2, o3, o4, o5, o6, o7, o8, o9, o10, o11, o12, o13] ∧ SqL K H a (ns.map V.int) ∧ ns.length ≤ 63 ∧ (∀ z ∈ ns, nbits z ≤ 1048576) ∧ 0 ≤ start ∧ start ≤ 63 ∧
  ∀ H2 (p1 p2 p3 p4 p5 p6 p7 p8 p9 p10 p11 p12 p13 : Option V), Kp T0 H H2 → D.nx [some (.ref a), p1, p2, p3, p4, p5, p6, p7, p8, p9, p10, p11, p12, p13] H2
section
variable {P : Program} {w : World} {K : PySem.W.Frag} {mg : Str → Option Value} {base : Heap} {C CB : Addr}
theorem ok_law {f fT fF fL fK fV fB fA fW fS : Addr} {fd : FuncData} (F : Fun K "law" "law" sLaw f fd) (TL : TxtL mg) (T : TxtS K mg C) (mgC : mg "Schema" = some (.ref C)) (M2 : MkS2 P w K mg base C) (gB : mg "BadPath" = some (.ref CB)) (xf : XfC K CB) (noV : PySem.W.findIn K (.ref CB) "value" = some none) (ex1 : PySem.W.exmOne K (.ref CB) (.ref CB) = some true)
    (DT : Df P w K mg base 1 fT "_law_tape" ["script", "start"] (spTape K)) (DF : Df P w K mg base 2 fF "_law_forms" ["tape"] spForms)
    (DL : Df P w K mg base 8 fL "_law_paths" ["forms", "path", "names"] (spLPaths 6)) (DK : Df P w K mg base 1 fK "_law_kind" ["forms", "path"] spLKind) (DV : Df P w K mg base 15 fV "_law_value" ["tape", "forms", "path"] (spLVal 6)) (DB : Df P w K mg base 4 fB "_law_bent" ["tape", "value"] spBent)
    (DA : Df P w K mg base 3 fA "_law_any" ["tape"] spAnyL) (DW : Df P w K mg base 27 fW "_law_is_worth" ["forms", "kind", "value"] (spLWor 12)) (DS : DmX P w K mg base C 29 "is_value" fS ["self", "path", "value"] (spIsVal K C CB)) : FnG P w K mg base 31 f fd ["script"] (spLaw K) := by
  refine fnG_by F scLaw (fun vs H Q E h => ?_) (fun cdv A outer s H vs Q E hf hr h => ?_)
  · obtain ⟨a, ns, rfl, _⟩ := h
    rfl
  · obtain ⟨a, ns, rfl, hs, hl, hb, k⟩ := h
    have r11 : Room 11 _ := hr.mono (by decide)
    have r2 : Room 2 _ := hr.mono (by decide)
    have r1 : Room 1 _ := hr.mono (by decide)
    refine ⟨_, pss_cons (ps_for PassesOwn.never rfl (pi_range1 (by rfl) TL.z_range (pa_cons (pe_callB (call_max2 rfl) (by rfl) TL.z_max boot_max6 (pa_cons pe_int (pa_cons (pe_callB (call_min2 rfl) (by rfl) TL.z_min boot_min6 (pa_cons pe_int (pa_cons (pe_callB call_len (by rfl) TL.z_len PySem.boot_len (pa_cons (pv 0) pa_nil)) pa_nil))) pa_nil))) pa_nil)) (pg_name (i := 1) scLaw.nd rfl (Or.inl rfl))
      (pss_weak (t2 := t6 K) (pss_cons (ps_set (i := 2) scLaw.nd rfl (Or.inr rfl) (pe_df DT r1 (by rfl) (pa_cons (pv 0) (pa_cons (pv 1) pa_nil))))
        (pss_cons (ps_set (i := 3) scLaw.nd rfl (Or.inr rfl) (pe_df DF r2 (by rfl) (pa_cons (pv 2) pa_nil)))
        (pss_cons (ps_set (i := 4) scLaw.nd rfl (Or.inl rfl) (pe_sch2 M2 r11 (by rfl) mgC (pa_cons (pe_ix (r := rIx K) ix_seq (pv 3) pe_int (fun _ _ => rfl)) (pa_cons (pe_ix (r := rIx K) ix_seq (pv 3) pe_int (fun _ _ => rfl)) pa_nil))))
          (p6P (f := f) (cdv := cdv) (A := A) (outer := outer) (s := s) (H := H) (E := E) TL T hf hr DL DK DV DB DA DW DS (p6V T gB xf noV ex1 hr DS))))) (fun D st H0 h => ?_)))
      (pss_one (ps_ret pe_bl)), ?_⟩
    · obtain ⟨a, ns, start, o2, o3, o4, o5, o6, o7, o8, o9, o10, o11, o12, o13, rfl, hs, hl, hb, s0, s63, fin⟩ := h
      refine ⟨_, rfl, _, rfl, a, ns, _, rfl, hs, hl, hb, s0, s63, fun t d m nt ok => ?_⟩
      have ta : TapeAt (upd H0 t (.dK (tapeL d m))) t := TapeAt.put ok
      have kz : ∀ {H9 : Hp}, Kp (At t) (upd H0 t (.dK (tapeL d m))) H9 → Kp T0 H0 H9 := fun k9 => Kp.tape (o := .dK (tapeL d m)) nt k9
      generalize upd H0 t (.dK (tapeL d m)) = H1 at ta kz ⊢
      refine ⟨_, rfl, t, rfl, ta, fun H2 fv i hi k2 ta2 fm => ?_⟩
      obtain ⟨S, co, ch⟩ := fm_sch i hi
      obtain ⟨ft, mv, cv, efv, hft, ⟨ma, mk, emv, hma, pm⟩, ⟨ca, ck, ecv, hca, pc⟩⟩ := id fm
      subst efv emv ecv
      refine ⟨_, rfl, .inr (.inl ⟨ft, _, 0, .ref ma, rfl, rfl, SqT.of hft, at_0 _ _, ?_⟩)⟩
      refine ⟨_, rfl, .inr (.inl ⟨ft, _, 1, .ref ca, rfl, rfl, SqT.of hft, at_1 _ _ _, ?_⟩)⟩
      refine sch_new hma pm (.inr ⟨ca, ck, rfl, hca, pc⟩) S co ch fun H3 x ks k3 is kept => ?_
      have ta3 := ta2.keep k3
      refine ⟨a, t, _, _, i, ks, _, _, _, _, _, _, _, _, _, _, rfl, ta3, hi, fm.keep0 k3, is, kept, fun H4 q1 q5 q6 q7 q8 q9 q10 q11 q12 q13 k4 ta4 => ?_⟩
      exact ⟨a, t, _, _, i, ks, _, _, _, _, _, _, _, _, _, _, rfl, hi, is.tape k4 ta3, kept_ks co kept, fun H5 r1 r2 r3 r4 r5 r6 r7 r8 r9 r10 r11 r12 r13 k5 => fin H5 r1 r2 r3 r4 r5 r6 r7 r8 r9 r10 r11 r12 r13 (kz (((k2.trans k3.wide).trans k4).trans k5.wide))⟩
    have em := clamp (lo := 2) (hi := 4) (by decide) ns.length
    refine ⟨_, rfl, _, ns.length, rfl, .inl ⟨_, hs, by rw [List.length_map]⟩, _, _, rfl, _, _, rfl, _, rfl, ?_, ?_, ?_⟩
    · omega
    · omega
    revert em
    generalize (if (if (ns.length : Int) < 4 then (ns.length : Int) else 4) > 2 then (if (ns.length : Int) < 4 then (ns.length : Int) else 4) else 2) = top
    intro em
    refine for_range (lo := 0) (n := top.toNat) (fun _ st H1 => Kp T0 H H1 ∧ ∃ o1 o2 o3 o4 o5 o6 o7 o8 o9 o10 o11 o12 o13 : Option V, st = [some (.ref a), o1, o2, o3, o4, o5, o6, o7, o8, o9, o10, o11, o12, o13])
      ⟨Kp.refl H, none, none, none, none, none, none, none, none, none, none, none, none, none, rfl⟩ (fun i st H1 hi p => ?_) (fun st H1 p => ?_)
    · obtain ⟨k1, o1, o2, o3, o4, o5, o6, o7, o8, o9, o10, o11, o12, o13, rfl⟩ := p
      exact ⟨a, ns, _, _, _, _, _, _, _, _, _, _, _, _, _, rfl, sqL_at hs k1 id, hl, hb, by omega, by omega, fun H2 p1 p2 p3 p4 p5 p6 p7 p8 p9 p10 p11 p12 p13 k2 => ⟨k1.trans k2, _, _, _, _, _, _, _, _, _, _, _, _, _, rfl⟩⟩
    · exact k _
end
end Lw
namespace Lw
open PySem L2 Gk
abbrev sIB : Stmt := inClass (topS 4) 0
section
variable {P : Program} {w : World} {K : PySem.W.Frag} {mg : Str → Option Value} {base : Heap} {f cc C cda : Addr} {dV kV doc pm ct oc : Value} {an od : Option Addr} {osl ccs csl : Array (Option Value)} {ccl cl : Value} {cdd cld : Option Addr} {vs : Array Value} {tf : Tok} {file : Str}
theorem ok_errB (lk : K.lookup f = some ⟨oc, od, .func (PySem.W.ksFn "__init__" "BadPath.__init__" (defArgs sIB) (defBody sIB) (defScope sIB) dV kV doc pm an (.ref cda) ct cc), osl⟩) (hcd : PySem.W.codeIn K (.ref cda) "BadPath.__init__" = true)
    (hcode : K.lookup cda = some ⟨ccl, cdd, .fields vs, ccs⟩) (hvs : vs[2]? = some (.str file tf)) (hfile : ((P.main.file : Str) == file) = true)
    (htop : (P.main.scope.names.lookup ("super" : Str)).isSome = false) (hcell : K.lookup cc = some ⟨cl, cld, .cell (some (.ref C)), csl⟩) (hsup : mg "super" = none) (hop : PySem.W.nsIn K cStatics "thirdparty.any" = some none)
    (hsi : PySem.W.ks_superIn K C C "__init__" = some (some (.builtin "ValueError.__init__"))) (T : OexC K C) (hno : PySem.W.findIn K (.ref C) "value" = some none) :
    FnOk P w K mg base CX0 1 f (PySem.W.ksFn "__init__" "BadPath.__init__" (defArgs sIB) (defBody sIB) (defScope sIB) dV kV doc pm an (.ref cda) ct cc) ["self", "value"] (spErr C "value") :=
  fn_sup lk hcd ⟨rfl, rfl, rfl, rfl, rfl, rfl, rfl, by decide +kernel, by decide +kernel, by decide⟩ rfl rfl hcode hvs hfile htop hcell hsup hop hsi T hno rfl ⟨fun _ _ _ _ => rfl, fun _ _ _ _ => rfl, fun _ _ _ _ => ⟨_, rfl⟩, fun _ _ _ _ => rfl, fun _ _ _ _ => rfl⟩ (by decide) (by decide)
end
end Lw
namespace Lw
open PySem L2 Gk
theorem all_mk {l : PySem.W.OpenLaw} {w : World} {K : PySem.W.Frag} {h : Heap} {mg : Str → Option Value} {fa fIl fIn fTx fNu fFg fIk fFo fInn fLv fPb fAm fCh fCs fKi fTa fPi fOo fFm fLK fLM fLP fLA fLL fBe fOk fVi fLV fLW fCt fLC fLR fLaw C fIni TIni fNe fIV : Addr} {otIni : Value} {dtIni : Option Addr} {ntIni : Nat} {stIni : Array (Option Value)} {tLE tMO tMF tMM tML tMP tMT : Tok} {CM CB fIB cdaB ccB nsB : Addr} {nmB qnB fiB : Str} {bsB subB : List Value} {snB : List Str} {abB : Bool} {colB : Option Bool} {ddB odB anB cddB cldB : Option Addr} {kaB kbB kcB kdB keB : Option Value} {ocB kVB dcB pmB ctB cclB clB : Value} {slB ccsB cslB : Array (Option Value)} {vsB : Array Value} {tfB : Tok} {odIl anIl odIn anIn odTx anTx odNu anNu odFg anFg odIk anIk odFo anFo odInn anInn odLv anLv odPb anPb odAm anAm odCh anCh odCs anCs odKi anKi odTa anTa odPi anPi odOo anOo odFm anFm odLK anLK odLM anLM odLP anLP odLA anLA odLL anLL odBe anBe odOk anOk odVi anVi odLV anLV odLW anLW odCt anCt odLC anLC odLR anLR odLaw anLaw odIni anIni odNe anNe odIV anIV : Option Addr} {slIl slIn slTx slNu slFg slIk slFo slInn slLv slPb slAm slCh slCs slKi slTa slPi slOo slFm slLK slLM slLP slLA slLL slBe slOk slVi slLV slLW slCt slLC slLR slLaw slIni slNe slIV : Array (Option Value)} {ocIl kVIl dcIl pmIl cdIl ctIl ocIn kVIn dcIn pmIn cdIn ctIn ocTx kVTx dcTx pmTx cdTx ctTx ocNu kVNu dcNu pmNu cdNu ctNu ocFg kVFg dcFg pmFg cdFg ctFg ocIk kVIk dcIk pmIk cdIk ctIk ocFo kVFo dcFo pmFo cdFo ctFo ocInn kVInn dcInn pmInn cdInn ctInn ocLv kVLv dcLv pmLv cdLv ctLv ocPb kVPb dcPb pmPb cdPb ctPb ocAm kVAm dcAm pmAm cdAm ctAm ocCh kVCh dcCh pmCh cdCh ctCh ocCs kVCs dcCs pmCs cdCs ctCs ocKi kVKi dcKi pmKi cdKi ctKi ocTa kVTa dcTa pmTa cdTa ctTa ocPi kVPi dcPi pmPi cdPi ctPi ocOo kVOo dcOo pmOo cdOo ctOo ocFm kVFm dcFm pmFm cdFm ctFm ocLK kVLK dcLK pmLK cdLK ctLK ocLM kVLM dcLM pmLM cdLM ctLM ocLP kVLP dcLP pmLP cdLP ctLP ocLA kVLA dcLA pmLA cdLA ctLA ocLL kVLL dcLL pmLL cdLL ctLL ocBe kVBe dcBe pmBe cdBe ctBe ocOk kVOk dcOk pmOk cdOk ctOk ocVi kVVi dcVi pmVi cdVi ctVi ocLV kVLV dcLV pmLV cdLV ctLV ocLW kVLW dcLW pmLW cdLW ctLW ocCt kVCt dcCt pmCt cdCt ctCt ocLC kVLC dcLC pmLC cdLC ctLC ocLR kVLR dcLR pmLR cdLR ctLR ocLaw kVLaw dcLaw pmLaw cdLaw ctLaw ocIni kVIni dcIni pmIni cdIni ctIni ocNe kVNe dcNe pmNe cdNe ctNe ocIV kVIV dcIV pmIV cdIV ctIV : Value} (X : K.In h) (G : h.Ns mainGlobals mg) (hfa : mg "law" = some (.ref fa))
    (aIl : PySem.W.nsIn K mainGlobals "is_letters" = some (some (.ref fIl)))
    (lIl : K.lookup fIl = some ⟨ocIl, odIl, .func (PySem.W.fnOf "is_letters" "is_letters" (defArgs sIsLetters) (defBody sIsLetters) (defScope sIsLetters) .none kVIl dcIl pmIl anIl cdIl ctIl), slIl⟩)
    (cIl : PySem.W.codeIn K cdIl "is_letters" = true)
    (kIl : PySem.W.keepIn K (.ref fIl) = true)
    (aIn : PySem.W.nsIn K mainGlobals "is_name" = some (some (.ref fIn)))
    (lIn : K.lookup fIn = some ⟨ocIn, odIn, .func (PySem.W.fnOf "is_name" "is_name" (defArgs sIsName) (defBody sIsName) (defScope sIsName) .none kVIn dcIn pmIn anIn cdIn ctIn), slIn⟩)
    (cIn : PySem.W.codeIn K cdIn "is_name" = true)
    (kIn : PySem.W.keepIn K (.ref fIn) = true)
    (aTx : PySem.W.nsIn K mainGlobals "is_text" = some (some (.ref fTx)))
    (lTx : K.lookup fTx = some ⟨ocTx, odTx, .func (PySem.W.fnOf "is_text" "is_text" (defArgs sIsText) (defBody sIsText) (defScope sIsText) .none kVTx dcTx pmTx anTx cdTx ctTx), slTx⟩)
    (cTx : PySem.W.codeIn K cdTx "is_text" = true)
    (kTx : PySem.W.keepIn K (.ref fTx) = true)
    (aNu : PySem.W.nsIn K mainGlobals "is_number" = some (some (.ref fNu)))
    (lNu : K.lookup fNu = some ⟨ocNu, odNu, .func (PySem.W.fnOf "is_number" "is_number" (defArgs sIsNumber) (defBody sIsNumber) (defScope sIsNumber) .none kVNu dcNu pmNu anNu cdNu ctNu), slNu⟩)
    (cNu : PySem.W.codeIn K cdNu "is_number" = true)
    (kNu : PySem.W.keepIn K (.ref fNu) = true)
    (aFg : PySem.W.nsIn K mainGlobals "is_flag" = some (some (.ref fFg)))
    (lFg : K.lookup fFg = some ⟨ocFg, odFg, .func (PySem.W.fnOf "is_flag" "is_flag" (defArgs sIsFlag) (defBody sIsFlag) (defScope sIsFlag) .none kVFg dcFg pmFg anFg cdFg ctFg), slFg⟩)
    (cFg : PySem.W.codeIn K cdFg "is_flag" = true)
    (kFg : PySem.W.keepIn K (.ref fFg) = true)
    (aIk : PySem.W.nsIn K mainGlobals "is_kind" = some (some (.ref fIk)))
    (lIk : K.lookup fIk = some ⟨ocIk, odIk, .func (PySem.W.fnOf "is_kind" "is_kind" (defArgs sIsKind) (defBody sIsKind) (defScope sIsKind) .none kVIk dcIk pmIk anIk cdIk ctIk), slIk⟩)
    (cIk : PySem.W.codeIn K cdIk "is_kind" = true)
    (kIk : PySem.W.keepIn K (.ref fIk) = true)
    (aFo : PySem.W.nsIn K mainGlobals "is_message_form" = some (some (.ref fFo)))
    (lFo : K.lookup fFo = some ⟨ocFo, odFo, .func (PySem.W.fnOf "is_message_form" "is_message_form" (defArgs sForm) (defBody sForm) (defScope sForm) .none kVFo dcFo pmFo anFo cdFo ctFo), slFo⟩)
    (cFo : PySem.W.codeIn K cdFo "is_message_form" = true)
    (kFo : PySem.W.keepIn K (.ref fFo) = true)
    (aInn : PySem.W.nsIn K mainGlobals "inner_names" = some (some (.ref fInn)))
    (lInn : K.lookup fInn = some ⟨ocInn, odInn, .func (PySem.W.fnOf "inner_names" "inner_names" (defArgs sInner) (defBody sInner) (defScope sInner) .none kVInn dcInn pmInn anInn cdInn ctInn), slInn⟩)
    (cInn : PySem.W.codeIn K cdInn "inner_names" = true)
    (kInn : PySem.W.keepIn K (.ref fInn) = true)
    (aLv : PySem.W.nsIn K mainGlobals "levels" = some (some (.ref fLv)))
    (lLv : K.lookup fLv = some ⟨ocLv, odLv, .func (PySem.W.fnOf "levels" "levels" (defArgs sLevels) (defBody sLevels) (defScope sLevels) .none kVLv dcLv pmLv anLv cdLv ctLv), slLv⟩)
    (cLv : PySem.W.codeIn K cdLv "levels" = true)
    (kLv : PySem.W.keepIn K (.ref fLv) = true)
    (aPb : PySem.W.nsIn K mainGlobals "paths_below" = some (some (.ref fPb)))
    (lPb : K.lookup fPb = some ⟨ocPb, odPb, .func (PySem.W.fnOf "paths_below" "paths_below" (defArgs sBelow) (defBody sBelow) (defScope sBelow) .none kVPb dcPb pmPb anPb cdPb ctPb), slPb⟩)
    (cPb : PySem.W.codeIn K cdPb "paths_below" = true)
    (kPb : PySem.W.keepIn K (.ref fPb) = true)
    (aAm : PySem.W.nsIn K mainGlobals "are_messages" = some (some (.ref fAm)))
    (lAm : K.lookup fAm = some ⟨ocAm, odAm, .func (PySem.W.fnOf "are_messages" "are_messages" (defArgs sAreM) (defBody sAreM) (defScope sAreM) .none kVAm dcAm pmAm anAm cdAm ctAm), slAm⟩)
    (cAm : PySem.W.codeIn K cdAm "are_messages" = true)
    (kAm : PySem.W.keepIn K (.ref fAm) = true)
    (aCh : PySem.W.nsIn K mainGlobals "is_choice" = some (some (.ref fCh)))
    (lCh : K.lookup fCh = some ⟨ocCh, odCh, .func (PySem.W.fnOf "is_choice" "is_choice" (defArgs sChoice) (defBody sChoice) (defScope sChoice) .none kVCh dcCh pmCh anCh cdCh ctCh), slCh⟩)
    (cCh : PySem.W.codeIn K cdCh "is_choice" = true)
    (kCh : PySem.W.keepIn K (.ref fCh) = true)
    (aCs : PySem.W.nsIn K mainGlobals "are_choices" = some (some (.ref fCs)))
    (lCs : K.lookup fCs = some ⟨ocCs, odCs, .func (PySem.W.fnOf "are_choices" "are_choices" (defArgs sChoices) (defBody sChoices) (defScope sChoices) .none kVCs dcCs pmCs anCs cdCs ctCs), slCs⟩)
    (cCs : PySem.W.codeIn K cdCs "are_choices" = true)
    (kCs : PySem.W.keepIn K (.ref fCs) = true)
    (aKi : PySem.W.nsIn K mainGlobals "kind_in" = some (some (.ref fKi)))
    (lKi : K.lookup fKi = some ⟨ocKi, odKi, .func (PySem.W.fnOf "kind_in" "kind_in" (defArgs sKindIn) (defBody sKindIn) (defScope sKindIn) .none kVKi dcKi pmKi anKi cdKi ctKi), slKi⟩)
    (cKi : PySem.W.codeIn K cdKi "kind_in" = true)
    (kKi : PySem.W.keepIn K (.ref fKi) = true)
    (aTa : PySem.W.nsIn K mainGlobals "_law_tape" = some (some (.ref fTa)))
    (lTa : K.lookup fTa = some ⟨ocTa, odTa, .func (PySem.W.fnOf "_law_tape" "_law_tape" (defArgs sTape) (defBody sTape) (defScope sTape) .none kVTa dcTa pmTa anTa cdTa ctTa), slTa⟩)
    (cTa : PySem.W.codeIn K cdTa "_law_tape" = true)
    (kTa : PySem.W.keepIn K (.ref fTa) = true)
    (aPi : PySem.W.nsIn K mainGlobals "_law_pick" = some (some (.ref fPi)))
    (lPi : K.lookup fPi = some ⟨ocPi, odPi, .func (PySem.W.fnOf "_law_pick" "_law_pick" (defArgs sPick) (defBody sPick) (defScope sPick) .none kVPi dcPi pmPi anPi cdPi ctPi), slPi⟩)
    (cPi : PySem.W.codeIn K cdPi "_law_pick" = true)
    (kPi : PySem.W.keepIn K (.ref fPi) = true)
    (aOo : PySem.W.nsIn K mainGlobals "_law_one_of" = some (some (.ref fOo)))
    (lOo : K.lookup fOo = some ⟨ocOo, odOo, .func (PySem.W.fnOf "_law_one_of" "_law_one_of" (defArgs sOneOf) (defBody sOneOf) (defScope sOneOf) .none kVOo dcOo pmOo anOo cdOo ctOo), slOo⟩)
    (cOo : PySem.W.codeIn K cdOo "_law_one_of" = true)
    (kOo : PySem.W.keepIn K (.ref fOo) = true)
    (aFm : PySem.W.nsIn K mainGlobals "_law_forms" = some (some (.ref fFm)))
    (lFm : K.lookup fFm = some ⟨ocFm, odFm, .func (PySem.W.fnOf "_law_forms" "_law_forms" (defArgs sForms) (defBody sForms) (defScope sForms) .none kVFm dcFm pmFm anFm cdFm ctFm), slFm⟩)
    (cFm : PySem.W.codeIn K cdFm "_law_forms" = true)
    (kFm : PySem.W.keepIn K (.ref fFm) = true)
    (aLK : PySem.W.nsIn K mainGlobals "_law_kind" = some (some (.ref fLK)))
    (lLK : K.lookup fLK = some ⟨ocLK, odLK, .func (PySem.W.fnOf "_law_kind" "_law_kind" (defArgs sLKind) (defBody sLKind) (defScope sLKind) .none kVLK dcLK pmLK anLK cdLK ctLK), slLK⟩)
    (cLK : PySem.W.codeIn K cdLK "_law_kind" = true)
    (kLK : PySem.W.keepIn K (.ref fLK) = true)
    (aLM : PySem.W.nsIn K mainGlobals "_law_mates" = some (some (.ref fLM)))
    (lLM : K.lookup fLM = some ⟨ocLM, odLM, .func (PySem.W.fnOf "_law_mates" "_law_mates" (defArgs sLMates) (defBody sLMates) (defScope sLMates) .none kVLM dcLM pmLM anLM cdLM ctLM), slLM⟩)
    (cLM : PySem.W.codeIn K cdLM "_law_mates" = true)
    (kLM : PySem.W.keepIn K (.ref fLM) = true)
    (aLP : PySem.W.nsIn K mainGlobals "_law_paths" = some (some (.ref fLP)))
    (lLP : K.lookup fLP = some ⟨ocLP, odLP, .func (PySem.W.fnOf "_law_paths" "_law_paths" (defArgs sLPaths) (defBody sLPaths) (defScope sLPaths) .none kVLP dcLP pmLP anLP cdLP ctLP), slLP⟩)
    (cLP : PySem.W.codeIn K cdLP "_law_paths" = true)
    (kLP : PySem.W.keepIn K (.ref fLP) = true)
    (aLA : PySem.W.nsIn K mainGlobals "_law_any" = some (some (.ref fLA)))
    (lLA : K.lookup fLA = some ⟨ocLA, odLA, .func (PySem.W.fnOf "_law_any" "_law_any" (defArgs sLAny) (defBody sLAny) (defScope sLAny) .none kVLA dcLA pmLA anLA cdLA ctLA), slLA⟩)
    (cLA : PySem.W.codeIn K cdLA "_law_any" = true)
    (kLA : PySem.W.keepIn K (.ref fLA) = true)
    (aLL : PySem.W.nsIn K mainGlobals "_law_is_letters" = some (some (.ref fLL)))
    (lLL : K.lookup fLL = some ⟨ocLL, odLL, .func (PySem.W.fnOf "_law_is_letters" "_law_is_letters" (defArgs sLLet) (defBody sLLet) (defScope sLLet) .none kVLL dcLL pmLL anLL cdLL ctLL), slLL⟩)
    (cLL : PySem.W.codeIn K cdLL "_law_is_letters" = true)
    (kLL : PySem.W.keepIn K (.ref fLL) = true)
    (aBe : PySem.W.nsIn K mainGlobals "_law_bent" = some (some (.ref fBe)))
    (lBe : K.lookup fBe = some ⟨ocBe, odBe, .func (PySem.W.fnOf "_law_bent" "_law_bent" (defArgs sBent) (defBody sBent) (defScope sBent) .none kVBe dcBe pmBe anBe cdBe ctBe), slBe⟩)
    (cBe : PySem.W.codeIn K cdBe "_law_bent" = true)
    (kBe : PySem.W.keepIn K (.ref fBe) = true)
    (aOk : PySem.W.nsIn K mainGlobals "is_of_kind" = some (some (.ref fOk)))
    (lOk : K.lookup fOk = some ⟨ocOk, odOk, .func (PySem.W.fnOf "is_of_kind" "is_of_kind" (defArgs sOfKind) (defBody sOfKind) (defScope sOfKind) .none kVOk dcOk pmOk anOk cdOk ctOk), slOk⟩)
    (cOk : PySem.W.codeIn K cdOk "is_of_kind" = true)
    (kOk : PySem.W.keepIn K (.ref fOk) = true)
    (aVi : PySem.W.nsIn K mainGlobals "is_value_in" = some (some (.ref fVi)))
    (lVi : K.lookup fVi = some ⟨ocVi, odVi, .func (PySem.W.fnOf "is_value_in" "is_value_in" (defArgs sValueIn) (defBody sValueIn) (defScope sValueIn) .none kVVi dcVi pmVi anVi cdVi ctVi), slVi⟩)
    (cVi : PySem.W.codeIn K cdVi "is_value_in" = true)
    (kVi : PySem.W.keepIn K (.ref fVi) = true)
    (aLV : PySem.W.nsIn K mainGlobals "_law_value" = some (some (.ref fLV)))
    (lLV : K.lookup fLV = some ⟨ocLV, odLV, .func (PySem.W.fnOf "_law_value" "_law_value" (defArgs sLVal) (defBody sLVal) (defScope sLVal) .none kVLV dcLV pmLV anLV cdLV ctLV), slLV⟩)
    (cLV : PySem.W.codeIn K cdLV "_law_value" = true)
    (kLV : PySem.W.keepIn K (.ref fLV) = true)
    (aLW : PySem.W.nsIn K mainGlobals "_law_is_worth" = some (some (.ref fLW)))
    (lLW : K.lookup fLW = some ⟨ocLW, odLW, .func (PySem.W.fnOf "_law_is_worth" "_law_is_worth" (defArgs sLWor) (defBody sLWor) (defScope sLWor) .none kVLW dcLW pmLW anLW cdLW ctLW), slLW⟩)
    (cLW : PySem.W.codeIn K cdLW "_law_is_worth" = true)
    (kLW : PySem.W.keepIn K (.ref fLW) = true)
    (aCt : PySem.W.nsIn K mainGlobals "is_content_in" = some (some (.ref fCt)))
    (lCt : K.lookup fCt = some ⟨ocCt, odCt, .func (PySem.W.fnOf "is_content_in" "is_content_in" (defArgs sContent) (defBody sContent) (defScope sContent) .none kVCt dcCt pmCt anCt cdCt ctCt), slCt⟩)
    (cCt : PySem.W.codeIn K cdCt "is_content_in" = true)
    (kCt : PySem.W.keepIn K (.ref fCt) = true)
    (aLC : PySem.W.nsIn K mainGlobals "_law_content" = some (some (.ref fLC)))
    (lLC : K.lookup fLC = some ⟨ocLC, odLC, .func (PySem.W.fnOf "_law_content" "_law_content" (defArgs sLCont) (defBody sLCont) (defScope sLCont) .none kVLC dcLC pmLC anLC cdLC ctLC), slLC⟩)
    (cLC : PySem.W.codeIn K cdLC "_law_content" = true)
    (kLC : PySem.W.keepIn K (.ref fLC) = true)
    (aLR : PySem.W.nsIn K mainGlobals "_law_are_worths" = some (some (.ref fLR)))
    (lLR : K.lookup fLR = some ⟨ocLR, odLR, .func (PySem.W.fnOf "_law_are_worths" "_law_are_worths" (defArgs sLAre) (defBody sLAre) (defScope sLAre) .none kVLR dcLR pmLR anLR cdLR ctLR), slLR⟩)
    (cLR : PySem.W.codeIn K cdLR "_law_are_worths" = true)
    (kLR : PySem.W.keepIn K (.ref fLR) = true)
    (aLaw : PySem.W.nsIn K mainGlobals "law" = some (some (.ref fLaw)))
    (lLaw : K.lookup fLaw = some ⟨ocLaw, odLaw, .func (PySem.W.fnOf "law" "law" (defArgs sLaw) (defBody sLaw) (defScope sLaw) .none kVLaw dcLaw pmLaw anLaw cdLaw ctLaw), slLaw⟩)
    (cLaw : PySem.W.codeIn K cdLaw "law" = true)
    (kLaw : PySem.W.keepIn K (.ref fLaw) = true)
    (aC : PySem.W.nsIn K mainGlobals "Schema" = some (some (.ref C)))
    (aIni : PySem.W.findIn K (.ref C) "__init__" = some (some (.ref fIni)))
    (iIni : PySem.W.isFn K (.ref fIni) = true)
    (lIni : K.lookup fIni = some ⟨ocIni, odIni, .func (PySem.W.fnOf "__init__" "Schema.__init__" (defArgs sSInit) (defBody sSInit) (defScope sSInit) (.ref TIni) kVIni dcIni pmIni anIni cdIni ctIni), slIni⟩)
    (cIni : PySem.W.codeIn K cdIni "Schema.__init__" = true)
    (kIni : PySem.W.keepIn K (.ref fIni) = true)
    (lTIni : K.lookup TIni = some ⟨otIni, dtIni, .seq #[.none] ntIni, stIni⟩)
    (aNe : PySem.W.findIn K (.ref C) "need_path" = some (some (.ref fNe)))
    (iNe : PySem.W.isFn K (.ref fNe) = true)
    (lNe : K.lookup fNe = some ⟨ocNe, odNe, .func (PySem.W.fnOf "need_path" "Schema.need_path" (defArgs sNeed) (defBody sNeed) (defScope sNeed) .none kVNe dcNe pmNe anNe cdNe ctNe), slNe⟩)
    (cNe : PySem.W.codeIn K cdNe "Schema.need_path" = true)
    (kNe : PySem.W.keepIn K (.ref fNe) = true)
    (aIV : PySem.W.findIn K (.ref C) "is_value" = some (some (.ref fIV)))
    (iIV : PySem.W.isFn K (.ref fIV) = true)
    (lIV : K.lookup fIV = some ⟨ocIV, odIV, .func (PySem.W.fnOf "is_value" "Schema.is_value" (defArgs sIsVal) (defBody sIsVal) (defScope sIsVal) .none kVIV dcIV pmIV anIV cdIV ctIV), slIV⟩)
    (cIV : PySem.W.codeIn K cdIV "Schema.is_value" = true)
    (kIV : PySem.W.keepIn K (.ref fIV) = true)
    (pgC : PySem.W.plainGet K C Str.empty = true)
    (hdC : PySem.W.hasDictIn K C = true)
    (poC : PySem.W.plainOver K C = true)
    (saC : PySem.W.findIn K (.ref C) "__setattr__" = some (some (.builtin "object.__setattr__")))
    (mkC : PySem.W.makesIn K C = true)
    (kcC : PySem.W.keepIn K (.ref C) = true)
    (nformsC : PySem.W.findIn K (.ref C) "forms" = some none)
    (z_isinstance : PySem.W.nsIn K mainGlobals "isinstance" = some none)
    (z_str : PySem.W.nsIn K mainGlobals "str" = some none)
    (z_len : PySem.W.nsIn K mainGlobals "len" = some none)
    (z_all : PySem.W.nsIn K mainGlobals "all" = some none)
    (z_any : PySem.W.nsIn K mainGlobals "any" = some none)
    (z_tuple : PySem.W.nsIn K mainGlobals "tuple" = some none)
    (z_sorted : PySem.W.nsIn K mainGlobals "sorted" = some none)
    (z_int : PySem.W.nsIn K mainGlobals "int" = some none)
    (z_range : PySem.W.nsIn K mainGlobals "range" = some none)
    (z_max : PySem.W.nsIn K mainGlobals "max" = some none)
    (z_min : PySem.W.nsIn K mainGlobals "min" = some none)
    (z_repr : PySem.W.nsIn K mainGlobals "repr" = some none)
    (z_list : PySem.W.nsIn K mainGlobals "list" = some none)
    (z_set : PySem.W.nsIn K mainGlobals "set" = some none)
    (z_dict : PySem.W.nsIn K mainGlobals "dict" = some none)
    (z_zip : PySem.W.nsIn K mainGlobals "zip" = some none)
    (z_bool : PySem.W.nsIn K mainGlobals "bool" = some none)
    (z_super : PySem.W.nsIn K mainGlobals "super" = some none)
    (vLETTERS : PySem.W.nsIn K mainGlobals "LETTERS" = some (some (.str "abcdefghijklmnopqrstuvwxyz" tLE)))
    (vMOST : PySem.W.nsIn K mainGlobals "MOST_NAME" = some (some (.int 8 tMO)))
    (vMF : PySem.W.nsIn K mainGlobals "MOST_FIELDS" = some (some (.int 6 tMF)))
    (vMM : PySem.W.nsIn K mainGlobals "MOST_MESSAGES" = some (some (.int 6 tMM)))
    (vML : PySem.W.nsIn K mainGlobals "MOST_LEVELS" = some (some (.int 4 tML)))
    (vMP : PySem.W.nsIn K mainGlobals "MOST_PATHS" = some (some (.int 40 tMP)))
    (vMT : PySem.W.nsIn K mainGlobals "MOST_TEXT" = some (some (.int 12 tMT)))
    (hop : PySem.W.nsIn K cStatics "thirdparty.any" = some none)
    (htop : (l.prog.main.scope.names.lookup ("super" : Str)).isSome = false)
    (aCB : PySem.W.nsIn K mainGlobals "BadPath" = some (some (.ref CB)))
    (oCB : K.lookup CB = some (excClassObj nmB qnB CB nsB bsB (.ref CM :: PySem.HandSPX.veTail) true snB subB abB colB ddB kaB kbB kcB kdB keB "ValueError.__new__"))
    (saB : PySem.W.findIn K (.ref CB) "__setattr__" = some (some (.builtin "object.__setattr__")))
    (exB : PySem.W.subIn K (.ref CB) (.type "BaseException") = some true)
    (tyB : PySem.W.typeIn K (.ref CB) = some (.type "type"))
    (kCB : PySem.W.keepIn K (.ref CB) = true)
    (gaB : PySem.W.findIn K (.ref CB) "__getattribute__" = some (some (.builtin "BaseException.__getattribute__")))
    (ggB : PySem.W.findIn K (.ref CB) "__getattr__" = some none)
    (hdB : PySem.W.hasDictIn K CB = true)
    (noB : PySem.W.findIn K (.ref CB) "value" = some none)
    (suB : PySem.W.subIn K (.ref CB) (.ref CB) = some true)
    (aIB : PySem.W.findIn K (.ref CB) "__init__" = some (some (.ref fIB)))
    (tIB : PySem.W.typeIn K (.ref fIB) = some (.type "function"))
    (lIB : K.lookup fIB = some ⟨ocB, odB, .func (PySem.W.ksFn "__init__" "BadPath.__init__" (defArgs sIB) (defBody sIB) (defScope sIB) .none kVB dcB pmB anB (.ref cdaB) ctB ccB), slB⟩)
    (cIB : PySem.W.codeIn K (.ref cdaB) "BadPath.__init__" = true)
    (hcB : K.lookup cdaB = some ⟨cclB, cddB, .fields vsB, ccsB⟩)
    (hvB : vsB[2]? = some (.str fiB tfB))
    (hfB : ((l.prog.main.file : Str) == fiB) = true)
    (hlB : K.lookup ccB = some ⟨clB, cldB, .cell (some (.ref CB)), cslB⟩)
    (hsB : PySem.W.ks_superIn K CB CB "__init__" = some (some (.builtin "ValueError.__init__")))
    : ∃ fd : FuncData, (∀ (s : Shared) (v : Value), BindsTo s fd ⟨[v], []⟩ [("script", v)]) ∧ ∀ base : Heap, K.In base → base.Ns mainGlobals mg → FnG l.prog w K mg base 31 fa fd ["script"] (spLaw K) := by
  have e0 := hfa.symm.trans (PySem.W.mg_of X G aLaw)
  cases e0
  refine ⟨PySem.W.fnOf "law" "law" (defArgs sLaw) (defBody sLaw) (defScope sLaw) .none kVLaw dcLaw pmLaw anLaw cdLaw ctLaw, fun s v => .of_eq rfl, fun base _ _ => ?_⟩
  have m_isinstance := PySem.W.mg_none_of X G z_isinstance
  have m_str := PySem.W.mg_none_of X G z_str
  have m_len := PySem.W.mg_none_of X G z_len
  have m_all := PySem.W.mg_none_of X G z_all
  have m_any := PySem.W.mg_none_of X G z_any
  have m_tuple := PySem.W.mg_none_of X G z_tuple
  have m_sorted := PySem.W.mg_none_of X G z_sorted
  have m_int := PySem.W.mg_none_of X G z_int
  have m_range := PySem.W.mg_none_of X G z_range
  have m_max := PySem.W.mg_none_of X G z_max
  have m_min := PySem.W.mg_none_of X G z_min
  have m_repr := PySem.W.mg_none_of X G z_repr
  have m_list := PySem.W.mg_none_of X G z_list
  have m_set := PySem.W.mg_none_of X G z_set
  have m_dict := PySem.W.mg_none_of X G z_dict
  have m_zip := PySem.W.mg_none_of X G z_zip
  have m_bool := PySem.W.mg_none_of X G z_bool
  have m_super := PySem.W.mg_none_of X G z_super
  have m_vLETTERS := PySem.W.mg_of X G vLETTERS
  have m_vMOST := PySem.W.mg_of X G vMOST
  have m_vMF := PySem.W.mg_of X G vMF
  have m_vMM := PySem.W.mg_of X G vMM
  have m_vML := PySem.W.mg_of X G vML
  have m_vMP := PySem.W.mg_of X G vMP
  have m_vMT := PySem.W.mg_of X G vMT
  have m_C := PySem.W.mg_of X G aC
  have FIl := fun_mk (st := sIsLetters) lIl cIl kIl
  have bIl := FIl.binds (ps := ["value", "least", "most"]) fun _ _ _ _ _ _ us hl => match us, hl with | [_, _, _], _ => rfl
  have FIn := fun_mk (st := sIsName) lIn cIn kIn
  have bIn := FIn.binds (ps := ["value"]) fun _ _ _ _ _ _ us hl => match us, hl with | [_], _ => rfl
  have FTx := fun_mk (st := sIsText) lTx cTx kTx
  have bTx := FTx.binds (ps := ["value"]) fun _ _ _ _ _ _ us hl => match us, hl with | [_], _ => rfl
  have FNu := fun_mk (st := sIsNumber) lNu cNu kNu
  have bNu := FNu.binds (ps := ["value"]) fun _ _ _ _ _ _ us hl => match us, hl with | [_], _ => rfl
  have FFg := fun_mk (st := sIsFlag) lFg cFg kFg
  have bFg := FFg.binds (ps := ["value"]) fun _ _ _ _ _ _ us hl => match us, hl with | [_], _ => rfl
  have FIk := fun_mk (st := sIsKind) lIk cIk kIk
  have bIk := FIk.binds (ps := ["value"]) fun _ _ _ _ _ _ us hl => match us, hl with | [_], _ => rfl
  have FFo := fun_mk (st := sForm) lFo cFo kFo
  have bFo := FFo.binds (ps := ["value"]) fun _ _ _ _ _ _ us hl => match us, hl with | [_], _ => rfl
  have FInn := fun_mk (st := sInner) lInn cInn kInn
  have bInn := FInn.binds (ps := ["fields"]) fun _ _ _ _ _ _ us hl => match us, hl with | [_], _ => rfl
  have FLv := fun_mk (st := sLevels) lLv cLv kLv
  have bLv := FLv.binds (ps := ["messages", "name", "most"]) fun _ _ _ _ _ _ us hl => match us, hl with | [_, _, _], _ => rfl
  have FPb := fun_mk (st := sBelow) lPb cPb kPb
  have bPb := FPb.binds (ps := ["messages", "name", "front"]) fun _ _ _ _ _ _ us hl => match us, hl with | [_, _, _], _ => rfl
  have FAm := fun_mk (st := sAreM) lAm cAm kAm
  have bAm := FAm.binds (ps := ["value"]) fun _ _ _ _ _ _ us hl => match us, hl with | [_], _ => rfl
  have FCh := fun_mk (st := sChoice) lCh cCh kCh
  have bCh := FCh.binds (ps := ["fields", "value"]) fun _ _ _ _ _ _ us hl => match us, hl with | [_, _], _ => rfl
  have FCs := fun_mk (st := sChoices) lCs cCs kCs
  have bCs := FCs.binds (ps := ["messages", "value"]) fun _ _ _ _ _ _ us hl => match us, hl with | [_, _], _ => rfl
  have FKi := fun_mk (st := sKindIn) lKi cKi kKi
  have bKi := FKi.binds (ps := ["forms", "path"]) fun _ _ _ _ _ _ us hl => match us, hl with | [_, _], _ => rfl
  have FTa := fun_mk (st := sTape) lTa cTa kTa
  have bTa := FTa.binds (ps := ["script", "start"]) fun _ _ _ _ _ _ us hl => match us, hl with | [_, _], _ => rfl
  have FPi := fun_mk (st := sPick) lPi cPi kPi
  have bPi := FPi.binds (ps := ["tape", "many"]) fun _ _ _ _ _ _ us hl => match us, hl with | [_, _], _ => rfl
  have FOo := fun_mk (st := sOneOf) lOo cOo kOo
  have bOo := FOo.binds (ps := ["tape", "items"]) fun _ _ _ _ _ _ us hl => match us, hl with | [_, _], _ => rfl
  have FFm := fun_mk (st := sForms) lFm cFm kFm
  have bFm := FFm.binds (ps := ["tape"]) fun _ _ _ _ _ _ us hl => match us, hl with | [_], _ => rfl
  have FLK := fun_mk (st := sLKind) lLK cLK kLK
  have bLK := FLK.binds (ps := ["forms", "path"]) fun _ _ _ _ _ _ us hl => match us, hl with | [_, _], _ => rfl
  have FLM := fun_mk (st := sLMates) lLM cLM kLM
  have bLM := FLM.binds (ps := ["forms", "path"]) fun _ _ _ _ _ _ us hl => match us, hl with | [_, _], _ => rfl
  have FLP := fun_mk (st := sLPaths) lLP cLP kLP
  have bLP := FLP.binds (ps := ["forms", "path", "names"]) fun _ _ _ _ _ _ us hl => match us, hl with | [_, _, _], _ => rfl
  have FLA := fun_mk (st := sLAny) lLA cLA kLA
  have bLA := FLA.binds (ps := ["tape"]) fun _ _ _ _ _ _ us hl => match us, hl with | [_], _ => rfl
  have FLL := fun_mk (st := sLLet) lLL cLL kLL
  have bLL := FLL.binds (ps := ["value", "low", "high"]) fun _ _ _ _ _ _ us hl => match us, hl with | [_, _, _], _ => rfl
  have FBe := fun_mk (st := sBent) lBe cBe kBe
  have bBe := FBe.binds (ps := ["tape", "value"]) fun _ _ _ _ _ _ us hl => match us, hl with | [_, _], _ => rfl
  have FOk := fun_mk (st := sOfKind) lOk cOk kOk
  have bOk := FOk.binds (ps := ["forms", "kind", "value"]) fun _ _ _ _ _ _ us hl => match us, hl with | [_, _, _], _ => rfl
  have FVi := fun_mk (st := sValueIn) lVi cVi kVi
  have bVi := FVi.binds (ps := ["forms", "path", "value"]) fun _ _ _ _ _ _ us hl => match us, hl with | [_, _, _], _ => rfl
  have FLV := fun_mk (st := sLVal) lLV cLV kLV
  have bLV := FLV.binds (ps := ["tape", "forms", "path"]) fun _ _ _ _ _ _ us hl => match us, hl with | [_, _, _], _ => rfl
  have FLW := fun_mk (st := sLWor) lLW cLW kLW
  have bLW := FLW.binds (ps := ["forms", "kind", "value"]) fun _ _ _ _ _ _ us hl => match us, hl with | [_, _, _], _ => rfl
  have FCt := fun_mk (st := sContent) lCt cCt kCt
  have bCt := FCt.binds (ps := ["forms", "name", "value"]) fun _ _ _ _ _ _ us hl => match us, hl with | [_, _, _], _ => rfl
  have FLC := fun_mk (st := sLCont) lLC cLC kLC
  have bLC := FLC.binds (ps := ["tape", "forms", "path"]) fun _ _ _ _ _ _ us hl => match us, hl with | [_, _, _], _ => rfl
  have FLR := fun_mk (st := sLAre) lLR cLR kLR
  have bLR := FLR.binds (ps := ["forms", "kinds", "value"]) fun _ _ _ _ _ _ us hl => match us, hl with | [_, _, _], _ => rfl
  have FLaw := fun_mk (st := sLaw) lLaw cLaw kLaw
  have FIni : FunD K "__init__" "Schema.__init__" (defArgs sSInit) (defBody sSInit) (defScope sSInit) [V.non] [] fIni _ := ⟨⟨_, _, _, _, _, _, _, _, _, _, rfl, lIni, cIni, .inr ⟨(fun z => nomatch z), TIni, _, [.none], _, rfl, lTIni, rfl, .cons rfl .nil⟩, .inl rfl⟩, kIni⟩
  have FNe := fun_mk (st := sNeed) lNe cNe kNe
  have bNe := FNe.binds (ps := ["self", "value"]) fun _ _ _ _ _ _ us hl => match us, hl with | [_, _], _ => rfl
  have FIV := fun_mk (st := sIsVal) lIV cIV kIV
  have bIV := FIV.binds (ps := ["self", "path", "value"]) fun _ _ _ _ _ _ us hl => match us, hl with | [_, _, _], _ => rfl
  have TN : TxtN K mg := ⟨m_isinstance, m_str, m_len, m_all, ⟨_, m_vLETTERS⟩, ⟨_, m_vMOST⟩⟩
  have TT : TxtT mg := ⟨m_int, m_len, m_range, m_tuple⟩
  have TC : TxtC K mg := ⟨m_isinstance, m_tuple, m_list, m_dict, m_len, m_all, m_zip, m_set⟩
  have TV : TxtV mg := ⟨m_isinstance, m_str, m_int, m_bool, m_len, ⟨_, m_vMT⟩⟩
  have TO : TxtO mg := ⟨m_isinstance, m_dict, m_all, m_len⟩
  have T : TxtS K mg C := ⟨m_dict, m_len, m_sorted, ⟨pgC, hdC, poC, saC⟩, nformsC⟩
  have DIl : Df l.prog w K mg base 1 fIl "is_letters" ["value", "least", "most"] (spIsLetters K) := ⟨⟨_, ok_is_letters FIl TN, bIl⟩, PySem.W.mg_of X G aIl, kIl⟩
  have DIn : Df l.prog w K mg base 2 fIn "is_name" ["value"] (spIsName K) := ⟨⟨_, ok_is_name FIn TN DIl, bIn⟩, PySem.W.mg_of X G aIn, kIn⟩
  have DTx : Df l.prog w K mg base 2 fTx "is_text" ["value"] (spKd K textK) := ⟨⟨_, ok_is_text FTx TV DIl, bTx⟩, PySem.W.mg_of X G aTx, kTx⟩
  have DNu : Df l.prog w K mg base 1 fNu "is_number" ["value"] (spKd K numK) := ⟨⟨_, ok_is_number FNu TV, bNu⟩, PySem.W.mg_of X G aNu, kNu⟩
  have DFg : Df l.prog w K mg base 1 fFg "is_flag" ["value"] (spKd K flagK) := ⟨⟨_, ok_is_flag FFg TV, bFg⟩, PySem.W.mg_of X G aFg, kFg⟩
  have DIk : Df l.prog w K mg base 3 fIk "is_kind" ["value"] (spIsKind) := ⟨⟨_, ok_is_kind FIk ⟨m_isinstance, m_tuple⟩ DIn, bIk⟩, PySem.W.mg_of X G aIk, kIk⟩
  have DFo : Df l.prog w K mg base 4 fFo "is_message_form" ["value"] (spForm) := ⟨⟨_, ok_form FFo ⟨m_isinstance, m_dict, m_len, m_all, ⟨_, m_vMF⟩⟩ DIn DIk, bFo⟩, PySem.W.mg_of X G aFo, kFo⟩
  have DInn : Df l.prog w K mg base 1 fInn "inner_names" ["fields"] (spInner) := ⟨⟨_, ok_inner FInn, bInn⟩, PySem.W.mg_of X G aInn, kInn⟩
  have DLv : Df l.prog w K mg base 8 fLv "levels" ["messages", "name", "most"] (spLevels 7) := ⟨⟨_, ok_levels FLv m_max bLv (PySem.W.mg_of X G aLv) kLv DInn 7, bLv⟩, PySem.W.mg_of X G aLv, kLv⟩
  have DPb : Df l.prog w K mg base 5 fPb "paths_below" ["messages", "name", "front"] (spBelow 4) := ⟨⟨_, ok_below FPb m_sorted bPb (PySem.W.mg_of X G aPb) kPb 4, bPb⟩, PySem.W.mg_of X G aPb, kPb⟩
  have DAm : Df l.prog w K mg base 9 fAm "are_messages" ["value"] (spAreMsgs) := ⟨⟨_, ok_areM FAm ⟨m_isinstance, m_dict, m_len, m_all, m_any, ⟨_, m_vMM⟩, ⟨_, m_vML⟩, ⟨_, m_vMP⟩⟩ DIn DFo DInn DLv DPb, bAm⟩, PySem.W.mg_of X G aAm, kAm⟩
  have DCh : Df l.prog w K mg base 3 fCh "is_choice" ["fields", "value"] (spChoice) := ⟨⟨_, ok_choice FCh TC DIn, bCh⟩, PySem.W.mg_of X G aCh, kCh⟩
  have DCs : Df l.prog w K mg base 4 fCs "are_choices" ["messages", "value"] (spChoices) := ⟨⟨_, ok_choices FCs TC DIn DCh, bCs⟩, PySem.W.mg_of X G aCs, kCs⟩
  have DKi : Df l.prog w K mg base 3 fKi "kind_in" ["forms", "path"] (spKindIn K) := ⟨⟨_, ok_kindIn FKi ⟨m_isinstance, m_tuple, m_all⟩ DIn, bKi⟩, PySem.W.mg_of X G aKi, kKi⟩
  have DTa : Df l.prog w K mg base 1 fTa "_law_tape" ["script", "start"] (spTape K) := ⟨⟨_, ok_tape FTa TT, bTa⟩, PySem.W.mg_of X G aTa, kTa⟩
  have DPi : Df l.prog w K mg base 1 fPi "_law_pick" ["tape", "many"] (spPick) := ⟨⟨_, ok_pick FPi TT, bPi⟩, PySem.W.mg_of X G aPi, kPi⟩
  have DOo : Df l.prog w K mg base 2 fOo "_law_one_of" ["tape", "items"] (spOneOf K) := ⟨⟨_, ok_one_of FOo TT DPi, bOo⟩, PySem.W.mg_of X G aOo, kOo⟩
  have DFm : Df l.prog w K mg base 2 fFm "_law_forms" ["tape"] (spForms) := ⟨⟨_, ok_forms FFm DPi, bFm⟩, PySem.W.mg_of X G aFm, kFm⟩
  have DLK : Df l.prog w K mg base 1 fLK "_law_kind" ["forms", "path"] (spLKind) := ⟨⟨_, ok_lkind FLK, bLK⟩, PySem.W.mg_of X G aLK, kLK⟩
  have DLM : Df l.prog w K mg base 2 fLM "_law_mates" ["forms", "path"] (spLMates) := ⟨⟨_, ok_lmates FLM DLK, bLM⟩, PySem.W.mg_of X G aLM, kLM⟩
  have DLP : Df l.prog w K mg base 8 fLP "_law_paths" ["forms", "path", "names"] (spLPaths 6) := ⟨⟨_, ok_lpaths FLP m_sorted bLP (PySem.W.mg_of X G aLP) kLP DLK 6, bLP⟩, PySem.W.mg_of X G aLP, kLP⟩
  have DLA : Df l.prog w K mg base 3 fLA "_law_any" ["tape"] (spAnyL) := ⟨⟨_, ok_lanyL FLA DOo, bLA⟩, PySem.W.mg_of X G aLA, kLA⟩
  have DLL : Df l.prog w K mg base 1 fLL "_law_is_letters" ["value", "low", "high"] (spLLet K) := ⟨⟨_, ok_llet FLL ⟨m_isinstance, m_str, m_len⟩, bLL⟩, PySem.W.mg_of X G aLL, kLL⟩
  have DBe : Df l.prog w K mg base 4 fBe "_law_bent" ["tape", "value"] (spBent) := ⟨⟨_, ok_bent FBe ⟨m_isinstance, m_dict, m_str, m_list⟩ DOo DLA, bBe⟩, PySem.W.mg_of X G aBe, kBe⟩
  have DOk : Df l.prog w K mg base 27 fOk "is_of_kind" ["forms", "kind", "value"] (spOfKind 12) := ⟨⟨_, (ok_kinds FOk FCt TO DIn DTx DNu DFg bOk (PySem.W.mg_of X G aOk) kOk bCt (PySem.W.mg_of X G aCt) kCt 12).1, bOk⟩, PySem.W.mg_of X G aOk, kOk⟩
  have DVi : Df l.prog w K mg base 28 fVi "is_value_in" ["forms", "path", "value"] (spValIn K) := ⟨⟨_, ok_valIn FVi DKi DOk, bVi⟩, PySem.W.mg_of X G aVi, kVi⟩
  have DLV : Df l.prog w K mg base 15 fLV "_law_value" ["tape", "forms", "path"] (spLVal 6) := ⟨⟨_, (ok_lvals FLV FLC m_sorted DLK DOo DLM DPi bLV (PySem.W.mg_of X G aLV) kLV bLC (PySem.W.mg_of X G aLC) kLC 6).1, bLV⟩, PySem.W.mg_of X G aLV, kLV⟩
  have DLW : Df l.prog w K mg base 27 fLW "_law_is_worth" ["forms", "kind", "value"] (spLWor 12) := ⟨⟨_, (ok_lwors FLW FLR ⟨m_isinstance, m_int, m_bool, m_dict, m_len⟩ DLL bLW (PySem.W.mg_of X G aLW) kLW bLR (PySem.W.mg_of X G aLR) kLR 12).1, bLW⟩, PySem.W.mg_of X G aLW, kLW⟩
  obtain ⟨dz3, vz3, bz3⟩ := FIni.binds1 (ps := ["self", "messages", "choices"]) 3 1 (fun z => nomatch z) rfl (fun _ _ _ _ _ _ _ us its h1 h2 => match us, its, h1, h2 with | [_, _, _], [_], _, _ => ⟨_, rfl, rfl⟩)
  cases vz3
  obtain ⟨dz2, vz2, bz2⟩ := FIni.binds1 (ps := ["self", "messages", "choices"]) 2 0 (fun z => nomatch z) rfl (fun _ _ _ _ _ _ _ us its h1 h2 => match us, its, h1, h2 with | [_, _], [_], _, _ => ⟨_, rfl, rfl⟩)
  have ez2 : dz2 = [.none] := by
    match dz2, vz2 with
    | [_], .cons r .nil =>
      cases r
      rfl
  subst ez2
  have oI := ok_sinit (P := l.prog) (w := w) (mg := mg) (base := base) FIni T DAm DCs
  have mkI : Mk K C fIni := ⟨mkC, aIni, iIni, kcC⟩
  have M2 : MkS2 l.prog w K mg base C := ⟨⟨_, _, mkI, oI, bz3⟩⟩
  have M1 : MkS1 l.prog w K mg base C := ⟨⟨_, _, mkI, oI, bz2⟩⟩
  have gB := PySem.W.mg_of X G aCB
  have TB : OexC K CB := ⟨⟨_, _, _, _, _, _, _, _, _, _, _, _, _, _, _,  oCB, rfl⟩, saB, exB, tyB, kCB⟩
  have TX : ErC l.prog w K mg base 1 "BadPath" CB "value" "value" := ⟨TB, gB, fIB, _, aIB, tIB, ok_errB lIB cIB hcB hvB hfB htop hlB m_super hop hsB TB noB, fun _ _ _ => .of_eq rfl, fun _ _ _ => .of_eq rfl⟩
  have ex1 : PySem.W.exmOne K (.ref CB) (.ref CB) = some true := PySem.W.exm_ref exB hdB tyB suB
  have xf : XfC K CB := ⟨gaB, ggB, exB, hdB⟩
  have DmNe : DmX l.prog w K mg base C 4 "need_path" fNe ["self", "value"] (spNeed K C CB) := ⟨⟨_, ok_need FNe T TX DKi, bNe⟩, ⟨aNe, iNe, kNe⟩⟩
  have DmIV : DmX l.prog w K mg base C 29 "is_value" fIV ["self", "path", "value"] (spIsVal K C CB) := ⟨⟨_, ok_isVal FIV T DVi DmNe, bIV⟩, ⟨aIV, iIV, kIV⟩⟩
  exact ok_law FLaw ⟨m_range, m_max, m_min, m_len, m_repr⟩ T m_C M2 gB xf noB ex1 DTa DFm DLP DLK DLV DBe DLA DLW DmIV
theorem walk {l : PySem.W.OpenLaw} {q : Program} {loose : List Str} {XP : (Str → Option Value) → Heap → Prop} {YP : World → Heap → Prop} {d : DefRec} {K : Params → PySem.W.Frag} (hn : l.most = some 63) (hdf : d.params.defaults = [])
    (hY : ∀ (w : World) (h : Heap), YP w h → (K w.params).In h)
    (F : ∀ (w : World) (mg : Str → Option Value) (fa : Addr) (h : Heap), (K w.params).In h → h.Ns mainGlobals mg → mg d.name = some (.ref fa) →
      ∃ fd : FuncData, (∀ (s : Shared) (u : Value), BindsTo s fd ⟨[u], []⟩ [("script", u)]) ∧ ∀ base : Heap, (K w.params).In base → base.Ns mainGlobals mg → FnG l.prog w (K w.params) mg base 31 fa fd ["script"] (spLaw (K w.params))) :
    PySem.W.WalkO q loose XP YP l.row.toRowW d [] (fun f vs => PySem.call f vs) :=
  walkG (n := 63) (k := 31) (x := "script") (sp := fun w => spLaw (K w.params)) hn (by decide) hdf ⟨rfl, by decide, by decide⟩ hY F (fun _ _ a ns hl hb _ hS => ⟨a, ns, rfl, hS, hl, hb, fun _ => rfl⟩)
end Lw

open PySem PySem.W PyProof.Rows in
set_option maxRecDepth 100000 in
set_option maxHeartbeats 0 in
theorem PySem.Challenge.cw_maskwrites_k06_values_of_paths_holds : PySem.Challenge.rw_maskwrites_k06_values_of_paths.Holds := by
  w_on; o_law; k_head; (case hw => w_witness2)
  k_fill
  refine Lw.walk (l := PySem.Challenge.rw_maskwrites_k06_values_of_paths) rfl rfl (fun w h Y => PySem.W.kIn_of Y) ?F
  case F =>
    intro w mg fa h KX G hmg
    refine' Lw.all_mk KX G hmg ?aIl ?lIl ?cIl ?kIl ?aIn ?lIn ?cIn ?kIn ?aTx ?lTx ?cTx ?kTx ?aNu ?lNu ?cNu ?kNu ?aFg ?lFg ?cFg ?kFg ?aIk ?lIk ?cIk ?kIk ?aFo ?lFo ?cFo ?kFo ?aInn ?lInn ?cInn ?kInn ?aLv ?lLv ?cLv ?kLv ?aPb ?lPb ?cPb ?kPb ?aAm ?lAm ?cAm ?kAm ?aCh ?lCh ?cCh ?kCh ?aCs ?lCs ?cCs ?kCs ?aKi ?lKi ?cKi ?kKi ?aTa ?lTa ?cTa ?kTa ?aPi ?lPi ?cPi ?kPi ?aOo ?lOo ?cOo ?kOo ?aFm ?lFm ?cFm ?kFm ?aLK ?lLK ?cLK ?kLK ?aLM ?lLM ?cLM ?kLM ?aLP ?lLP ?cLP ?kLP ?aLA ?lLA ?cLA ?kLA ?aLL ?lLL ?cLL ?kLL ?aBe ?lBe ?cBe ?kBe ?aOk ?lOk ?cOk ?kOk ?aVi ?lVi ?cVi ?kVi ?aLV ?lLV ?cLV ?kLV ?aLW ?lLW ?cLW ?kLW ?aCt ?lCt ?cCt ?kCt ?aLC ?lLC ?cLC ?kLC ?aLR ?lLR ?cLR ?kLR ?aLaw ?lLaw ?cLaw ?kLaw ?aC ?aIni ?iIni ?lIni ?cIni ?kIni ?lTIni ?aNe ?iNe ?lNe ?cNe ?kNe ?aIV ?iIV ?lIV ?cIV ?kIV ?pgC ?hdC ?poC ?saC ?mkC ?kcC ?nformsC ?z_isinstance ?z_str ?z_len ?z_all ?z_any ?z_tuple ?z_sorted ?z_int ?z_range ?z_max ?z_min ?z_repr ?z_list ?z_set ?z_dict ?z_zip ?z_bool ?z_super ?vLETTERS ?vMOST ?vMF ?vMM ?vML ?vMP ?vMT ?hop ?htop ?aCB ?oCB ?saB ?exB ?tyB ?kCB ?gaB ?ggB ?hdB ?noB ?suB ?aIB ?tIB ?lIB ?cIB ?hcB ?hvB ?hfB ?hlB ?hsB
    (case aIl => k_is)
    (case lIl => k_is)
    (case cIl => k_is)
    (case kIl => k_is)
    (case aIn => k_is)
    (case lIn => k_is)
    (case cIn => k_is)
    (case kIn => k_is)
    (case aTx => k_is)
    (case lTx => k_is)
    (case cTx => k_is)
    (case kTx => k_is)
    (case aNu => k_is)
    (case lNu => k_is)
    (case cNu => k_is)
    (case kNu => k_is)
    (case aFg => k_is)
    (case lFg => k_is)
    (case cFg => k_is)
    (case kFg => k_is)
    (case aIk => k_is)
    (case lIk => k_is)
    (case cIk => k_is)
    (case kIk => k_is)
    (case aFo => k_is)
    (case lFo => k_is)
    (case cFo => k_is)
    (case kFo => k_is)
    (case aInn => k_is)
    (case lInn => k_is)
    (case cInn => k_is)
    (case kInn => k_is)
    (case aLv => k_is)
    (case lLv => k_is)
    (case cLv => k_is)
    (case kLv => k_is)
    (case aPb => k_is)
    (case lPb => k_is)
    (case cPb => k_is)
    (case kPb => k_is)
    (case aAm => k_is)
    (case lAm => k_is)
    (case cAm => k_is)
    (case kAm => k_is)
    (case aCh => k_is)
    (case lCh => k_is)
    (case cCh => k_is)
    (case kCh => k_is)
    (case aCs => k_is)
    (case lCs => k_is)
    (case cCs => k_is)
    (case kCs => k_is)
    (case aKi => k_is)
    (case lKi => k_is)
    (case cKi => k_is)
    (case kKi => k_is)
    (case aTa => k_is)
    (case lTa => k_is)
    (case cTa => k_is)
    (case kTa => k_is)
    (case aPi => k_is)
    (case lPi => k_is)
    (case cPi => k_is)
    (case kPi => k_is)
    (case aOo => k_is)
    (case lOo => k_is)
    (case cOo => k_is)
    (case kOo => k_is)
    (case aFm => k_is)
    (case lFm => k_is)
    (case cFm => k_is)
    (case kFm => k_is)
    (case aLK => k_is)
    (case lLK => k_is)
    (case cLK => k_is)
    (case kLK => k_is)
    (case aLM => k_is)
    (case lLM => k_is)
    (case cLM => k_is)
    (case kLM => k_is)
    (case aLP => k_is)
    (case lLP => k_is)
    (case cLP => k_is)
    (case kLP => k_is)
    (case aLA => k_is)
    (case lLA => k_is)
    (case cLA => k_is)
    (case kLA => k_is)
    (case aLL => k_is)
    (case lLL => k_is)
    (case cLL => k_is)
    (case kLL => k_is)
    (case aBe => k_is)
    (case lBe => k_is)
    (case cBe => k_is)
    (case kBe => k_is)
    (case aOk => k_is)
    (case lOk => k_is)
    (case cOk => k_is)
    (case kOk => k_is)
    (case aVi => k_is)
    (case lVi => k_is)
    (case cVi => k_is)
    (case kVi => k_is)
    (case aLV => k_is)
    (case lLV => k_is)
    (case cLV => k_is)
    (case kLV => k_is)
    (case aLW => k_is)
    (case lLW => k_is)
    (case cLW => k_is)
    (case kLW => k_is)
    (case aCt => k_is)
    (case lCt => k_is)
    (case cCt => k_is)
    (case kCt => k_is)
    (case aLC => k_is)
    (case lLC => k_is)
    (case cLC => k_is)
    (case kLC => k_is)
    (case aLR => k_is)
    (case lLR => k_is)
    (case cLR => k_is)
    (case kLR => k_is)
    (case aLaw => k_is)
    (case lLaw => k_is)
    (case cLaw => k_is)
    (case kLaw => k_is)
    (case aC => k_is)
    (case aIni => k_is)
    (case iIni => k_is)
    (case lIni => k_is)
    (case cIni => k_is)
    (case kIni => k_is)
    (case lTIni => k_is)
    (case aNe => k_is)
    (case iNe => k_is)
    (case lNe => k_is)
    (case cNe => k_is)
    (case kNe => k_is)
    (case aIV => k_is)
    (case iIV => k_is)
    (case lIV => k_is)
    (case cIV => k_is)
    (case kIV => k_is)
    (case pgC => k_is)
    (case hdC => k_is)
    (case poC => k_is)
    (case saC => k_is)
    (case mkC => k_is)
    (case kcC => k_is)
    (case nformsC => k_is)
    (case z_isinstance => k_is)
    (case z_str => k_is)
    (case z_len => k_is)
    (case z_all => k_is)
    (case z_any => k_is)
    (case z_tuple => k_is)
    (case z_sorted => k_is)
    (case z_int => k_is)
    (case z_range => k_is)
    (case z_max => k_is)
    (case z_min => k_is)
    (case z_repr => k_is)
    (case z_list => k_is)
    (case z_set => k_is)
    (case z_dict => k_is)
    (case z_zip => k_is)
    (case z_bool => k_is)
    (case z_super => k_is)
    (case vLETTERS => k_is)
    (case vMOST => k_is)
    (case vMF => k_is)
    (case vMM => k_is)
    (case vML => k_is)
    (case vMP => k_is)
    (case vMT => k_is)
    (case hop => k_is)
    (case htop => first | rfl | decide +kernel)
    (case aCB => k_is)
    (case oCB => k_is)
    (case saB => k_is)
    (case exB => k_is)
    (case tyB => k_is)
    (case kCB => k_is)
    (case gaB => k_is)
    (case ggB => k_is)
    (case hdB => k_is)
    (case noB => k_is)
    (case suB => k_is)
    (case aIB => k_is)
    (case tIB => k_is)
    (case lIB => k_is)
    (case cIB => k_is)
    (case hcB => k_is)
    (case hvB => rfl)
    (case hfB => first | rfl | decide +kernel)
    (case hlB => k_is)
    (case hsB => ks_is)
#print axioms PySem.Challenge.cw_maskwrites_k06_values_of_paths_holds

