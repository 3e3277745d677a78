import PyProof.Rows.All
import Wide.All
import OpenK.AllK
import Wide.FinOn
import HandS.ForMost
import HandS.DictComp
import HandS.Conv
import HandS.IsInst
import HandS.Star
import HandS.MakeKw
import HandS.TupAny
import HandS.OwnEq
import HandS.Wide
import HandS.EndBits
import HandS.Keys
import KE.KSortTupG
import HandS.Defaults
import PyProof.InstEq
import HandS.Walk
import KE.IntBitsLaws
import OpenK.KOps
import HandS.Property
import HandS.TryOnly
import PyProof.CallFns
import HandS.RaiseMore
import PyProof.ReprRoads
import KE.LtData
import PyProof.StrOps2
import PyProof.FitsStr
import HandS.Text
import KE.KSuper
import KE.KExcSuper
import HandS.ExcInit
import HandS.ExcSuper
import KE.KExcIs
import HandS.ExcField
import HandS.MakeKwOnly
import PySem.Challenge.RW_maskwrites_k02_errors_and_names_of_argum
import HandS.Iter
import HandS.Flow
import KE.RegKSuper
set_option Elab.async false
set_option linter.all false
set_option maxRecDepth 100000
set_option maxHeartbeats 4000000
/-! Gk: what the masks' laws want beyond the hand layer. -/
namespace Gk
open PySem PySem.Spec PyProof.Rows L2

/-! ### great numbers -/
abbrev nbits (i : Int) : Nat := Builtin.Int.intBits i
def CMulB (i j : Int) : Prop := nbits i + nbits j ≤ 134217728
def CPowB (i j : Int) : Prop := 0 ≤ j ∧ (nbits i : Int) * j ≤ 134217728
section
variable {X : Cx}
theorem op_mulB : OpR X (binaryOp .Mult) (rI CMulB fun i j => .int (i * j)) :=
  opI fun i j _ _ _ _ _ hc q => mul_int q (IntMulOk.of_le (Nat.le_refl _) (Nat.le_refl _) hc)
theorem op_powB : OpR X (binaryOp .Pow) (rI CPowB fun i j => .int (i ^ j.toNat)) :=
  opI fun i j _ _ _ _ _ hc q => pow_int hc.1 hc.2 q
end

/-! ### either way -/
section
variable {X : Cx}
theorem pi_or {tg it : Expr} {w1 w2 : TI} (h1 : PI X tg it w1) (h2 : PI X tg it w2) : PI X tg it (fun st H R => w1 st H R ∨ w2 st H R) :=
  ⟨fun ps s st H R I h => h.elim (h1.run ps s st H R I) (h2.run ps s st H R I)⟩
theorem pe_or2 {e : Expr} {t1 t2 : TE} (h1 : PE X e t1) (h2 : PE X e t2) : PE X e (fun st H Q => t1 st H Q ∨ t2 st H Q) :=
  ⟨fun ps s st H Q I h => h.elim (h1.run ps s st H Q I) (h2.run ps s st H Q I)⟩
theorem cr_or {f : Value} {r1 r2 : List V → Hp → VK → Prop} (h1 : CallR X f r1) (h2 : CallR X f r2) : CallR X f (fun vs H Q => r1 vs H Q ∨ r2 vs H Q) :=
  fun ps s st H xs us Q I r h => h.elim (h1 ps s st H xs us Q I r) (h2 ps s st H xs us Q I r)
end

/-! ### a dict made by a comprehension, whatever its keys -/
/-- what a turn's store asks: the dict's place, key, value, heap, what is wanted behind -/
abbrev TStore := Addr → V → V → Hp → (Hp → Prop) → Prop
structure StoreOk (P : Program) (w : World) (A : Around) (new : HO) (t : TStore) : Prop where
  fresh : ∀ (H : Hp) (h : Heap), sysModules < h.objs.size → ObjOk P w H (h.push { cls := .type "dict", data := .dict #[] }) h.objs.size new
  store : ∀ (X : Cx) (ps : List (Addr × Obj)) (st : L2.St) (H : Hp) (s : Shared) (D : Addr) (y z : V) (u r : Value) (R : Hp → Prop), X.prog = P → X.w = w → X.A = A →
    Inv X ps st H s → RelV y u → RelV z r → t D y z H R → wpAny (model P w) A (dictSet D u r) (fun _ s2 => ∃ H2, Inv X ps st H2 s2 ∧ R H2) X.xe s
def tDcG (new : HO) (t : TStore) (wi : TI) (g : TG) (tt : TT) (tk tv : TE) (vs : List Nat) : TE := fun st H Q => wi st H fun J H1 =>
  ∀ D, H1 D = none → ∃ W : Nat → Nat → Hp → Prop, (∃ m, W 0 m (upd H1 D new)) ∧ ∀ i m Ha, W i m Ha →
    (J.stop i Ha ∧ Q (.ref D) Ha) ∨
    (J.go i Ha ∧ ∃ Nx : Hp → Prop, (∀ Hb, Nx Hb → ∃ m2, m2 < m ∧ W (i + 1) m2 Hb) ∧ ∀ x Hb, J.yld i Ha x Hb →
      g x (wipe st vs) Hb fun st2 H2 => wipe st2 vs = wipe st vs ∧ tt st2 H2 fun b H3 =>
        if b = true then tk st2 H3 fun y H4 => tv st2 H4 fun z H5 => t D y z H5 Nx else Nx H3)

theorem dcG_core {X : Cx} {ps : List (Addr × Obj)} {s : Shared} {st : L2.St} {H : Hp} {Q : VK} {kx vx tg iter : Expr} {ifs : List Expr} {sc : Scope} {own : List (Str × Nat)} {pos pos2 : Pos}
    {wi : TI} {g : TG} {tt : TT} {tk tv : TE} {new : HO} {t : TStore} {Qf : Value → Shared → Prop}
    (so : StoreOk X.prog X.w X.A new t) (calm : X.calm = true) (nd : X.N.Nodup) (I : Inv X ps st H s) (walk : PI X tg iter wi) (ok : BlkOk X.N X.env.scope sc own)
    (pgA : ∀ (s : Shared) (H : Hp) (C : Addr) (cl : List (Str × Addr)) (fp : List Addr), PG (X.blk s H sc (compEnvC sc cl C X.env) fp) tg g)
    (ptA : ∀ (s : Shared) (H : Hp) (C : Addr) (cl : List (Str × Addr)) (fp : List Addr), PTs (X.blk s H sc (compEnvC sc cl C X.env) fp) ifs tt)
    (pkA : ∀ (s : Shared) (H : Hp) (C : Addr) (cl : List (Str × Addr)) (fp : List Addr), PE (X.blk s H sc (compEnvC sc cl C X.env) fp) kx tk)
    (pvA : ∀ (s : Shared) (H : Hp) (C : Addr) (cl : List (Str × Addr)) (fp : List Addr), PE (X.blk s H sc (compEnvC sc cl C X.env) fp) vx tv)
    (hs : ∀ x, foldedSetIterable iter X.env x = pure x) (h : tDcG new t wi g tt tk tv (own.map (·.2)) st H Q)
    (fin : ∀ D C s2 m H2, Inv X ps st H2 s2 → Q (.ref D) H2 → s2.heap.Ns C m → FpOk X ps H2 C → compPost (model X.prog X.w) X.A X.xe none Qf (.ref D) C (.ok .next) s2) :
    wpAny (model X.prog X.w) X.A (comprehension (.DictComp kx vx [⟨tg, iter, ifs, 0⟩] sc pos) sc X.env pos2 newDict false (eval iter X.env) none) Qf X.xe s := by
  have free : ∀ y ∈ sc.names, y.2 = .free → ∃ c, X.env.cells.lookup y.1 = some c := by
    intro y hy e
    exact I.ok.has _ (ok.free y hy e)
  refine wpAny_comprehension_free (use := none) rfl hs (closure_ok free) ok.kind (fun y hy e => by rw [ok.uniq y hy, e]) ?_
  refine thn (walk.run ps s st H _ I h) fun v0 s1 k1 => thn k1 fun v1 s2 k2 => ?_
  obtain ⟨it, fp, tn, J, H2, rfl, I2, T, at2, f2, q⟩ := k2
  refine wpAny_newObj_type (newEnv_comp ?_)
  have noD : H2 s2.heap.objs.size = none := I2.hok.fresh (Nat.le_refl _)
  obtain ⟨W, ⟨m0, w0⟩, turn⟩ := q _ noD
  generalize eD : s2.heap.objs.size = D at *
  generalize e3 : ({ s2 with heap := s2.heap.push { cls := .type "dict", data := .dict #[] } } : Shared) = s3
  have hp3 : s3.heap = s2.heap.push { cls := .type "dict", data := .dict #[] } := by rw [← e3]
  have I3 : Inv X ps st (upd H2 D new) s3 := by
    rw [← e3, ← eD]
    exact I2.laid (t' := s2.toks) (fun b o e => Heap.get?_push_of_some _ e) (Nat.le_refl _) (so.fresh _ _ I2.big)
  have young : ∀ b ∈ fp, b < D := by
    intro b hb
    obtain ⟨o, e, _⟩ := T.obj _ _ at2 b hb
    rw [← eD]
    exact Heap.lt_size e
  have sz3 : s3.heap.objs.size = D + 1 := by rw [hp3, Heap.size_push, eD]
  have f3 : ∀ b ∈ fp, FpOk X ps (upd H2 D new) b ∧ b < s3.heap.objs.size := by
    intro b hb
    have lt := young b hb
    exact ⟨⟨(upd_ne (Nat.ne_of_lt lt)).trans (f2 b hb).1, (f2 b hb).2⟩, by rw [sz3]; exact Nat.lt_succ_of_lt lt⟩
  have at3 : tn 0 s3.heap := T.keep _ _ _ at2 fun b _ o e => hp3 ▸ Heap.get?_push_of_some _ e
  have I4 := block_start I3 ok nd f3
  show codeAny _ _ (.compStart (.DictComp kx vx [⟨tg, iter, ifs, 0⟩] sc pos) 0 (.ref it) (.ref D) (compEnvC sc (cellsFrom (s3.heap.objs.size + 1) sc.names (cloFrom X.env.cells sc.names [])) s3.heap.objs.size X.env))
    (compPost (model X.prog X.w) X.A X.xe none Qf (.ref D) s3.heap.objs.size) { s3 with heap := pushCells (s3.heap.push { cls := .type "dict", data := .dict #[] }) sc.names }
  generalize eC : cellsFrom (s3.heap.objs.size + 1) sc.names (cloFrom X.env.cells sc.names []) = cells at I4 ⊢
  have pg := pgA s3 (upd H2 D new) s3.heap.objs.size cells fp
  have pt := ptA s3 (upd H2 D new) s3.heap.objs.size cells fp
  have pk := pkA s3 (upd H2 D new) s3.heap.objs.size cells fp
  have pv := pvA s3 (upd H2 D new) s3.heap.objs.size cells fp
  generalize eE : compEnvC sc cells s3.heap.objs.size X.env = ce at I4 pg pt pk pv ⊢
  have loc : ce.locals = s3.heap.objs.size := by rw [← eE] <;> rfl
  generalize eH : upd H2 D new = H3 at I3 I4 pg pt pk pv w0 f3
  generalize e4 : ({ s3 with heap := pushCells (s3.heap.push { cls := .type "dict", data := .dict #[] }) sc.names } : Shared) = s4 at I4 ⊢
  have at4 : tn 0 s4.heap := T.keep _ _ _ at3 fun b _ o e => by
    rw [← e4]
    exact pushCells_keeps _ _ _ _ (Heap.get?_push_of_some _ e)
  have fpo : ∀ {st1 : L2.St} {Ha : Hp} {sa : Shared}, Inv (X.blk s3 H3 sc ce fp) [] st1 Ha sa → (∀ b ∈ fp, Ha b = none) → ∀ b ∈ fp, FpOk (X.blk s3 H3 sc ce fp) [] Ha b := by
    intro st1 Ha sa Ia hn b hb
    have e := Ia.ok.exf b hb
    exact ⟨hn b hb, e.1, Ia.ok.exfs b hb, .inl hb, fun x c z => e.2 x c z, fun p hp => absurd (show p ∈ ([] : List (Addr × Obj)) from hp) List.not_mem_nil⟩
  have loop : codeAny (model X.prog X.w) X.A (.compLoop (.DictComp kx vx [⟨tg, iter, ifs, 0⟩] sc pos) 0 (.ref it) (.ref D) ce) (compPost (model X.prog X.w) X.A X.xe none Qf (.ref D) s3.heap.objs.size) s4 := by
    refine compLoop_anyD (fun n sa => ∃ i Ha, Inv (X.blk s3 H3 sc ce fp) [] (wipe st (own.map (·.2))) Ha sa ∧ tn i sa.heap ∧ (∀ b ∈ fp, Ha b = none) ∧ W i n Ha) ?_ m0 ⟨0, H3, I4, at4, fun b hb => (f3 b hb).1.1, w0⟩
    rintro n s5 ⟨i, H5, I5, at5, n5, w5⟩
    rcases turn i n H5 w5 with ⟨stop, qq⟩ | ⟨go, Nx, down, step⟩
    · refine thnF (T.done (X.blk s3 H3 sc ce fp) rfl rfl rfl calm i [] s5 _ H5 (fun _ _ => False) I5 (fpo I5 n5) at5 stop) fun r s6 hr => ?_
      obtain ⟨rfl, I6⟩ := hr
      have I7 : Inv X ps st H5 s6 := I3.call' (ch := fp) I6.os I6.base I6.hok I6.bare fun b hb => by
        obtain ⟨⟨_, a1, _, a3, a4, a5⟩, _⟩ := f3 b hb
        exact ⟨a3, a1, a4, a5⟩
      have noC : H5 s3.heap.objs.size = none := loc ▸ I6.free
      obtain ⟨m, hn, _⟩ := I6.loc
      exact fin D s3.heap.objs.size s6 m H5 I7 qq (loc ▸ (show s6.heap.Ns ce.locals m from hn)) (I3.fpOk (Nat.le_refl _) noC)
    · refine thnF (T.item (X.blk s3 H3 sc ce fp) rfl rfl rfl calm i [] s5 _ H5 (fun _ _ => False) I5 (fpo I5 n5) at5 go) fun r s6 hr => ?_
      obtain ⟨u, rfl, k6⟩ := hr
      refine thnF k6 fun _ s7 k7 => ?_
      obtain ⟨x, H7, I7, r7, y7, at7, n7⟩ := k7
      have J7 := I7.pinned (fpo I7 n7) (T.obj _ _ at7)
      refine thnF (pg.run _ s7 _ H7 x u _ J7 r7 (step x H7 y7)) fun _ s8 k8 => ?_
      obtain ⟨st8, H8, I8, ew, q8⟩ := k8
      refine thnF (pt.run _ s8 st8 H8 _ I8 q8) fun b s9 k9 => ?_
      obtain ⟨H9, I9, q9⟩ := k9
      have next : ∀ {sb : Shared} {Hb : Hp}, Inv (X.blk s3 H3 sc ce fp) ([] ++ pinsAt fp s7.heap) st8 Hb sb → Nx Hb →
          ∃ m, m < n ∧ ∃ i Ha, Inv (X.blk s3 H3 sc ce fp) [] (wipe st (own.map (·.2))) Ha sb ∧ tn i sb.heap ∧ (∀ b ∈ fp, Ha b = none) ∧ W i m Ha := by
        intro sb Hb Ib nx
        obtain ⟨m2, lt, w2⟩ := down Hb nx
        have still : ∀ b ∈ fp, ∀ o, s7.heap.get? b = some o → sb.heap.get? b = some o ∧ Hb b = none := by
          intro b hb o e
          have z := Ib.pin (b, o) (List.mem_append_right _ (List.mem_append_right _ (mem_pinsAt hb e)))
          exact ⟨z.1, z.2.1⟩
        have el : (wipe st (own.map (·.2))).length = st8.length := ew ▸ wipe_length _ _
        refine ⟨m2, lt, i + 1, Hb, (Ib.unpinned (pins := [])).weak el fun j v e => (wipe_some (ew ▸ e)).1, T.keep _ _ _ at7 fun b hb o e => (still b hb o e).1, ?_, w2⟩
        intro b hb
        obtain ⟨o, e, _⟩ := T.obj _ _ at7 b hb
        exact (still b hb o e).2
      cases b with
      | false =>
        rw [if_neg Bool.false_ne_true] at q9 ⊢
        exact next I9 q9
      | true =>
        rw [if_pos rfl] at q9 ⊢
        refine thnF (pk.run _ s9 st8 H9 _ I9 q9) fun ku s10 k10 => ?_
        obtain ⟨yk, H10, I10, r10, q10⟩ := k10
        refine thnF (pv.run _ s10 st8 H10 _ I10 q10) fun vu s11 k11 => ?_
        obtain ⟨yv, H11, I11, r11, q11⟩ := k11
        refine thnF (so.store (X.blk s3 H3 sc ce fp) _ st8 H11 s11 D yk yv ku vu Nx rfl rfl rfl I11 r10 r11 q11) fun _ s12 k12 => ?_
        obtain ⟨H12, I12, nx⟩ := k12
        exact next I12 nx
  exact codeAny_compStart_dict loop (T.self X.A 0 _ _ _ at4 loop)

theorem pe_dcG {X : Cx} {kx vx tg iter : Expr} {ifs : List Expr} {sc : Scope} {own : List (Str × Nat)} {pos : Pos} {wi : TI} {g : TG} {tt : TT} {tk tv : TE} {new : HO} {t : TStore}
    (so : StoreOk X.prog X.w X.A new t) (calm : X.calm = true) (nd : X.N.Nodup) (walk : PI X tg iter wi) (ok : BlkOk X.N X.env.scope sc own)
    (pgA : ∀ (s : Shared) (H : Hp) (C : Addr) (cl : List (Str × Addr)) (fp : List Addr), PG (X.blk s H sc (compEnvC sc cl C X.env) fp) tg g)
    (ptA : ∀ (s : Shared) (H : Hp) (C : Addr) (cl : List (Str × Addr)) (fp : List Addr), PTs (X.blk s H sc (compEnvC sc cl C X.env) fp) ifs tt)
    (pkA : ∀ (s : Shared) (H : Hp) (C : Addr) (cl : List (Str × Addr)) (fp : List Addr), PE (X.blk s H sc (compEnvC sc cl C X.env) fp) kx tk)
    (pvA : ∀ (s : Shared) (H : Hp) (C : Addr) (cl : List (Str × Addr)) (fp : List Addr), PE (X.blk s H sc (compEnvC sc cl C X.env) fp) vx tv)
    (hs : ∀ x, foldedSetIterable iter X.env x = pure x := by intro _; rfl) :
    PE X (.DictComp kx vx [⟨tg, iter, ifs, 0⟩] sc pos) (tDcG new t wi g tt tk tv (own.map (·.2))) := by
  constructor
  intro ps s st H Q I h
  rw [arm_eval_DictComp]
  refine dcG_core so calm nd I walk ok pgA ptA pkA pvA hs h fun D C s2 m H2 I2 q hn f => ⟨m, hn, fun h3 sb => ?_⟩
  obtain ⟨f0, f1, f2, f3, f4, f5⟩ := f
  exact ⟨.ref D, H2, I2.turned (t' := s2.toks) (fun b o hb e => (sb.2 b hb).trans e) f0 f1 f3 f4 f5, rfl, q⟩

/-- keys that are tuples of ints and texts -/
def stT : TStore := fun D y z H R => ∃ (b : Addr) (kvs : List (List L2.Key × V)) (k : List L2.Key), y = .ref b ∧ H b = some (.tup (k.map kV)) ∧ H D = some (.dT kvs) ∧ kvs.length < sizeLine ∧ R (upd H D (.dT (putK kvs k z)))
theorem storeT {P : Program} {w : World} {A : Around} (hu : A.units < cLine) : StoreOk P w A (.dT []) stT where
  fresh := fun H h hb => dt_empty h hb
  store := by
    intro X ps st H s D y z u r R eP ew eA I ry rz q
    subst eP ew eA
    obtain ⟨b, kvs, k, rfl, hb, hD, lt, q⟩ := q
    cases (show u = Value.ref b from ry)
    obtain ⟨le, nsys, xs, rel, dd⟩ := dt_of I.hok hD
    have hz : xs.length ≤ sizeLine := by
      have e := Paired.length rel
      omega
    refine wpAny_dictSet_heap (hsz := hz) (show (tupleKind (mixKind X.prog X.w)).room X.A from hu) (key_of I.hok hb) dd fun h2 d2 sb => ?_
    obtain ⟨o, es, ep, g1, g2, g3, g4, _, g5⟩ := d2
    refine ⟨_, d_write I (by rw [hD]; exact True.intro) sb ⟨o, g1⟩ ?_, q⟩
    have lp := length_putK kvs k z
    refine ⟨by omega, nsys, _, (rel.put k hb rz).keeps fun c ys ec => ?_, o, es, ep, g1, g2, g3, g4, g5⟩
    exact (upd_ne (ne_of ec hD (fun z => nomatch z))).trans ec
end Gk
/-! Gk2: sorted of a dict whose keys are tuples of texts. -/
namespace Gk
open PySem PySem.Spec PyProof.Rows L2

abbrev Pth := List Str
def pkey (p : Pth) : List (Int ⊕ List Nat) := p.map fun x => Sum.inr x.cps.toList
def ltP (p q : Pth) : Bool := PyProof.Rows.lexLt PyProof.Rows.itemOrd (pkey p) (pkey q)
abbrev shT : Nat → Bool := fun _ => true

theorem items_pth : ∀ (p : Pth) (us : List Value) (i : Nat), Vals (p.map V.str) us → tupItems shT i us = some (pkey p)
  | [], _, _, .nil => rfl
  | x :: p, _, i, .cons r t => by
    obtain ⟨k, rfl⟩ := r
    have e := items_pth p _ (i + 1) t
    show (if shT i = true then (tupItems shT (i + 1) _).map (Sum.inr x.cps.toList :: ·) else none) = _
    rw [if_pos rfl, e] <;> rfl

theorem tupKeyC_at {h : Heap} {a : Addr} {o : Obj} {xs : Array Value} {n : Nat} {l : List (Int ⊕ List Nat)} (ho : h.get? a = some o) (hc : o.cls = .type "tuple") (hd : o.data = .seq xs n)
    (hi : tupItems shT 0 xs.toList = some l) : G.tupKeyC h shT (.ref a) = some l := by
  have e1 : G.isTupObj h (.ref a) = true := by simp [G.isTupObj, ho, hc]
  unfold G.tupKeyC
  rw [if_pos e1]
  show tupKey h shT (.ref a) = some l
  simp only [tupKey, ho, hd]
  exact hi

section
variable {X : Cx}
/-- sorted(d), d's keys tuples of one or more texts -/
def rSortDT : List V → Hp → VK → Prop := fun vs H Q => ∃ (d : Addr) (kvs : List (List L2.Key × V)) (ks : List Pth), vs = [V.ref d] ∧ H d = some (.dT kvs) ∧ kvs.map (·.1) = ks.map (List.map Sum.inr) ∧ (∀ p ∈ ks, p ≠ []) ∧
  ∀ (bs : List (Addr × Pth)) (l : Addr), (bs.map (·.2)).Perm ks → bs.Pairwise (fun a b => ltP b.2 a.2 = false) → (∀ b ∈ bs, H b.1 = some (.tup (b.2.map V.str))) → H l = none →
    Q (.ref l) (upd H l (.lst (bs.map fun b => V.ref b.1)))

theorem kt_keys {H : Hp} : ∀ {kvs : List (List L2.Key × V)} {xs : List (List L2.Key × Addr × Value)} {ks : List Pth}, KT H kvs xs → kvs.map (·.1) = ks.map (List.map Sum.inr) →
    ∃ bs : List (Addr × Pth), bs.map (·.2) = ks ∧ bs.map (·.1) = xs.map (·.2.1) ∧ ∀ b ∈ bs, H b.1 = some (.tup (b.2.map V.str))
  | _, _, ks, .nil, e => by
    have e2 : ks = [] := List.map_eq_nil_iff.mp e.symm
    exact ⟨[], e2.symm, rfl, fun _ h => nomatch h⟩
  | p :: kvs, q :: xs, [], .cons _ _, e => nomatch e
  | p :: kvs, q :: xs, k :: ks, .cons r t, e => by
    rw [List.map_cons, List.map_cons] at e
    injection e with e1 e2
    obtain ⟨bs, b1, b2, b3⟩ := kt_keys t e2
    refine ⟨(q.2.1, k) :: bs, by rw [List.map_cons, b1], by rw [List.map_cons, List.map_cons, b2], ?_⟩
    intro b hb
    rcases List.mem_cons.mp hb with rfl | hb
    · have h1 := r.2.1
      rw [e1, List.map_map] at h1
      exact h1
    · exact b3 b hb

theorem vals_fst : ∀ cs : List (Addr × Pth), Vals (cs.map fun b => V.ref b.1) (cs.map fun b => Value.ref b.1)
  | [] => .nil
  | _ :: cs => .cons rfl (vals_fst cs)

theorem cr_sortedDT (calm : X.calm = true) : CallR X (.builtin "sorted") rSortDT := by
  intro ps st0 st H xs us Q I r h
  obtain ⟨d, kvs, ks, rfl, hd, hk, hne, q⟩ := h
  obtain ⟨u, rfl, rx⟩ := vals1 r
  cases rx
  obtain ⟨z, nsys, ys, pr, o, es, ep, ho, hx, hdat, hes, hkeys, hnd⟩ := dt_of I.hok hd
  obtain ⟨bs, b1, b2, b3⟩ := kt_keys pr hk
  have l1 : es.size = ys.length := size_of_entries hes
  have l2 : kvs.length = ys.length := Paired.length pr
  have lb : bs.length = ys.length := by
    have e := congrArg List.length b2
    rw [List.length_map, List.length_map] at e
    exact e
  refine Calls.call_function_entry PyProof.Rows.kind_sorted PyProof.Rows.plain_sorted PyProof.Rows.entry_sorted (PyProof.Rows.args_sorted1 _) ?_
  unfold Builtin.«sorted»
  refine wpAny_bind (m := checkCount "sorted" 1 1 _) (wpAny_pure ?_)
  refine wpAny_bind (PySem.W.kdu_collect (A := X.A.in1) (kdl_raw nsys hx hdat) (I.ok.hd calm) ho (by omega) fun h1 tk acc keep it => ?_)
  have ea : acc.toList = bs.map fun b => Value.ref b.1 := by
    have e0 : acc.toList.length = ys.length := by rw [Array.length_toList, it.1]; exact l1
    have e1 : (bs.map fun b => Value.ref b.1) = ys.map fun x => Value.ref x.2.1 := by
      have e := congrArg (List.map Value.ref) b2
      rw [List.map_map, List.map_map] at e
      exact e
    rw [e1]
    refine List.ext_getElem (by rw [List.length_map]; exact e0) fun j j1 j2 => ?_
    obtain ⟨en, g1, g2⟩ := it.2 j (acc.toList[j]) (by rw [← Array.getElem?_toList]; exact List.getElem?_eq_getElem j1)
    have g3 := entry_at hes j
    have j3 : j < ys.length := by omega
    rw [g1, List.getElem?_eq_getElem j3] at g3
    have g4 : en = entryOfKey (tupleKind (mixKind X.prog X.w)) ys[j] := Option.some.inj g3
    rw [g2, g4, List.getElem_map]
    rfl
  have I1 : Inv X ps st H { st0 with heap := h1, toks := tk } := I.kept keep
  rw [ea]
  have hln : (bs.map fun b => Value.ref b.1).length ≤ sizeLine := by rw [List.length_map]; omega
  refine wpAny_bind (wpAny_newList ?_ hln)
  have hoL : (h1.push (seqObj "list" (bs.map fun b => Value.ref b.1).toArray 0)).get? h1.objs.size = some (seqObj "list" (bs.map fun b => Value.ref b.1).toArray 0) := Heap.get?_push_size _ rfl
  show wpAny _ _ _ _ _ { st0 with heap := h1.push (seqObj "list" (bs.map fun b => Value.ref b.1).toArray 0), toks := tk }
  -- each key, where it stands
  have at1 : ∀ b ∈ bs, ∃ (ob : Obj) (its : List Value) (n : Nat), (h1.push (seqObj "list" (bs.map fun b => Value.ref b.1).toArray 0)).get? b.1 = some ob ∧ ob.cls = .type "tuple" ∧ ob.data = .seq its.toArray n ∧ Vals (b.2.map V.str) its := by
    intro b hb
    obtain ⟨_, its, rv, ob, g1, g2, n, g3⟩ := (show ObjOk X.prog X.w H h1 b.1 (.tup (b.2.map V.str)) from I1.hok b.1 _ (b3 b hb))
    exact ⟨ob, its, n, Heap.get?_push_of_some _ g1, g2, g3, rv⟩
  have key1 : ∀ b ∈ bs, G.tupKeyC (h1.push (seqObj "list" (bs.map fun b => Value.ref b.1).toArray 0)) shT (.ref b.1) = some (pkey b.2) := by
    intro b hb
    obtain ⟨ob, its, n, g1, g2, g3, rv⟩ := at1 b hb
    exact tupKeyC_at g1 g2 g3 (items_pth b.2 its 0 rv)
  have ne1 : ∀ b ∈ bs, b.2 ≠ [] := by
    intro b hb
    exact hne _ (by rw [← b1]; exact List.mem_map.mpr ⟨b, hb, rfl⟩)
  have tups : ∀ cs : List (Addr × Pth), (∀ b ∈ cs, b ∈ bs) → ∃ fs, TupsOf (h1.push (seqObj "list" (bs.map fun b => Value.ref b.1).toArray 0)) shT (cs.map fun b => Value.ref b.1) fs := by
    intro cs
    induction cs with
    | nil => intro _; exact ⟨[], .nil⟩
    | cons c cs ih =>
      intro hc
      obtain ⟨fs, t⟩ := ih fun b hb => hc b (List.mem_cons_of_mem _ hb)
      obtain ⟨ob, its, n, g1, g2, g3, rv⟩ := at1 c (hc c List.mem_cons_self)
      have nz := ne1 c (hc c List.mem_cons_self)
      cases e : c.2 with
      | nil => exact absurd e nz
      | cons x p =>
        rw [e, List.map_cons] at rv
        cases rv with
        | @cons _ u _ its' ru rt =>
          obtain ⟨k, rfl⟩ := ru
          exact ⟨Value.str x k :: fs, .cons ⟨c.1, ob, _, n, rfl, g1, g2, g3, rfl, (fun z => nomatch z), fun _ => ⟨x, k, rfl⟩⟩ t⟩
  obtain ⟨fs, tu⟩ := tups bs fun _ hb => hb
  refine wpAny_bind (wpAny_holding (wpAny_call_entry PyProof.Rows.slot_list_sort ⟨_, hoL, rfl⟩ PyProof.Rows.entry_list_sort
    (G.list_sort_tups (s := { st0 with heap := h1.push (seqObj "list" (bs.map fun b => Value.ref b.1).toArray 0), toks := tk }) (shape := shT) hoL tu ?_ hln fun so hp hs _ => ⟨_, rfl, ?_⟩)
    (PyProof.Rows.args_list_sort _)))
  · intro v hv
    obtain ⟨b, hb, rfl⟩ := List.mem_map.mp hv
    exact ⟨_, key1 b hb⟩
  · have hpl : (arrOf so).toList.Perm (bs.map fun b => ((Value.ref b.1, Value.ref b.1) : Keyed)) := by
      have e := Array.perm_iff_toList_perm.mp hp
      rw [pairsOf_toList] at e
      have e2 : ((bs.map fun b => Value.ref b.1).zip (bs.map fun b => Value.ref b.1)) = bs.map fun b => ((Value.ref b.1, Value.ref b.1) : Keyed) := by
        rw [List.zip_map'] <;> rfl
      rw [e2] at e
      exact e
    obtain ⟨cs, c1, c2⟩ := perm_lift (fun b : Addr × Pth => ((Value.ref b.1, Value.ref b.1) : Keyed)) hpl bs rfl
    have out : ((arrOf so).map (·.2)).toList = cs.map fun b => Value.ref b.1 := by
      rw [Array.toList_map, ← c2, List.map_map] <;> rfl
    have len : cs.length = bs.length := c1.length_eq
    have kk : ∀ (i : Nat) (hi : i < cs.length), KK (G.tupKindC (h1.push (seqObj "list" (bs.map fun b => Value.ref b.1).toArray 0)) shT) (arrOf so) i = pkey cs[i].2 := by
      intro i hi
      have e : (arrOf so)[i]? = some ((Value.ref cs[i].1, Value.ref cs[i].1) : Keyed) := by
        rw [← Array.getElem?_toList, ← c2, List.getElem?_map, List.getElem?_eq_getElem hi] <;> rfl
      unfold KK
      rw [e]
      show (G.tupKeyC (h1.push (seqObj "list" (bs.map fun b => Value.ref b.1).toArray 0)) shT (.ref cs[i].1)).getD [] = _
      rw [key1 cs[i] (c1.mem_iff.mp (List.getElem_mem hi))] <;> rfl
    have srt : cs.Pairwise (fun a b => ltP b.2 a.2 = false) := by
      rw [List.pairwise_iff_getElem]
      intro i j hi hj lt
      have r : PyProof.Rows.lexLt PyProof.Rows.itemOrd (KK (G.tupKindC (h1.push (seqObj "list" (bs.map fun b => Value.ref b.1).toArray 0)) shT) (arrOf so) j)
          (KK (G.tupKindC (h1.push (seqObj "list" (bs.map fun b => Value.ref b.1).toArray 0)) shT) (arrOf so) i) = false :=
        hs i j (Nat.le_of_lt lt) (by rw [pairsOf_size, List.length_map]; omega)
      rw [kk i hi, kk j hj] at r
      exact r
    obtain ⟨ep2, he2⟩ := PyProof.Rows.sortedHeap_at (vs := bs.map fun b => Value.ref b.1) (out := (arrOf so).map (·.2)) hoL
    have lc : (cs.map fun b => V.ref b.1).length ≤ sizeLine := by rw [List.length_map]; omega
    refine wpAny_pure ⟨_, rfl, .ref h1.objs.size, upd H h1.objs.size (.lst (cs.map fun b => V.ref b.1)), I1.laid (t' := tk) (fun b u e => ?_) (Nat.le_refl _)
      (show ObjOk X.prog X.w _ _ _ (.lst (cs.map fun b => V.ref b.1)) from ⟨lc, ((arrOf so).map (·.2)).toList, ep2, by rw [out]; exact vals_fst cs, by rw [Array.toArray_toList]; exact he2⟩), rfl,
      q cs _ (by rw [← b1]; exact c1.map _) srt (fun b hb => b3 b (c1.mem_iff.mp hb)) (I1.hok.fresh (Nat.le_refl _))⟩
    have lt := Heap.lt_size e
    rw [PyProof.Rows.sortedHeap_old (Nat.ne_of_lt lt) (by rw [size_push']; exact Nat.lt_succ_of_lt lt)]
    exact Heap.get?_push_of_some _ e
end
end Gk
/-! Gk3: operators that a class of the program's own defines, by the promise of its method; a method called with keywords. -/
namespace Gk
open PySem PySem.Spec PyProof.Rows L2

theorem rel_ni {v : V} {u : Value} (r : RelV v u) : u ≠ .notImplemented := by
  intro e
  subst e
  cases v with
  | non => exact nomatch (show Value.notImplemented = Value.none from r)
  | bl b => exact nomatch (show Value.notImplemented = Value.bool b from r)
  | int i => obtain ⟨t, e⟩ := (show ∃ t, Value.notImplemented = Value.int i t from r); exact nomatch e
  | str x => obtain ⟨t, e⟩ := (show ∃ t, Value.notImplemented = Value.str x t from r); exact nomatch e
  | byt b => obtain ⟨t, e⟩ := (show ∃ t, Value.notImplemented = Value.bytes b t from r); exact nomatch e
  | flt b => obtain ⟨t, e⟩ := (show ∃ t, Value.notImplemented = Value.float b t from r); exact nomatch e
  | ref a => exact nomatch (show Value.notImplemented = Value.ref a from r)
  | ty n => exact nomatch (show Value.notImplemented = Value.type n from r)
theorem cmpBack_of {Q : Value → Shared → Prop} {u : Value} {s : Shared} (hn : u ≠ .notImplemented) (h : Q u s) : PySem.W.CmpBack Q u s := by
  cases u with
  | notImplemented => exact hn rfl
  | _ => exact h

section
variable {X : Cx} {CX : CXT} {k : Nat} {f C : Addr} {fd : FuncData} {ps : List Str} {sp : Sp} {E : XK}

/-- a def is run somewhere below the body X, the frames being the body's -/
theorem run_below {A : Around} {pins : List (Addr × Obj)} {st : L2.St} {H : Hp} {s : Shared} {Q : VK} {us : List Value} {vs : List V} (F : FnOk X.prog X.w X.K X.mg X.base CX k f fd ps sp) (fr : A.frames = X.A.frames) (hr : Room k A)
    (hb : Binds X.K fd ps []) (hx : Passes CX X E) (I : Inv X pins st H s) (r : Vals vs us) (h : sp vs H Q E) : wpAny (model X.prog X.w) A (call (.ref f) us) (EP X pins st Q) X.xe s := by
  have e0 : Env0 X.prog X.w X.K X.mg X.base A X.stack s H := by
    have e := I.env0
    exact ⟨fr.trans e.frames, e.mod, e.bs, e.bsz, e.funs, e.frf, e.hok, e.bare⟩
  have hl : us.length = ps.length := r.length.symm.trans (F.len _ _ _ _ h)
  have bd := hb s us I.kIn (by rw [List.append_nil]; exact hl)
  rw [List.append_nil] at bd
  refine wpAny_call (codeAny_mono (F.run A X.stack s H ⟨us, []⟩ us vs Q E hr e0 bd r h) ?_)
  intro res s2 q
  match res, q with
  | .error e, q => exact hx pins st H s e s2 I q
  | .ok (.ret u), q => exact I.after q
  | .ok .next, q => exact q.elim
  | .ok .brk, q => exact q.elim
  | .ok .cont, q => exact q.elim

/-- a method of the class, found by an operator -/
structure Dun (K : PySem.W.Frag) (C : Addr) (m : Str) (f : Addr) : Prop where
  at_ : PySem.W.findIn K (.ref C) m = some (some (.ref f))
  fn : PySem.W.isFn K (.ref f) = true

/-- x op y, both of the class -/
def rOwn (C : Addr) (sp : Sp) (E : XK) : R2 := fun x y H Q => ∃ (a b dx dy : Addr) (fs gs : List (Str × V)), x = .ref a ∧ y = .ref b ∧ H a = some (.ins C dx fs) ∧ H b = some (.ins C dy gs) ∧ sp [.ref a, .ref b] H Q E
theorem op_own {op : Operator} (F : FnOk X.prog X.w X.K X.mg X.base CX k f fd ps sp) (D : Dun X.K C (PySem.dunder op.info.2) f) (self : PySem.W.selfFirst X.K C = true) (hr : Room k X.A) (hb : Binds X.K fd ps []) (hx : Passes CX X E) :
    OpR X (binaryOp op) (rOwn C sp E) := by
  intro pins s st H x y v u Q I rx ry h
  obtain ⟨a, b, dx, dy, fs, gs, rfl, rfl, ha, hb2, h⟩ := h
  cases rx
  cases ry
  obtain ⟨mA, J, _⟩ := ins_get I.hok ha
  obtain ⟨mB, J2, _⟩ := ins_get I.hok hb2
  obtain ⟨od, J, _⟩ := J.look
  obtain ⟨od2, J2, _⟩ := J2.look
  obtain ⟨m, hF⟩ := I.fr
  refine PySem.W.binop_K hF I.ok.mod.kin J J2.type self D.at_ D.fn ?_
  refine thn (run_below F rfl hr hb hx I (show Vals [V.ref a, V.ref b] [Value.ref a, Value.ref b] from .cons rfl (.cons rfl .nil)) h) fun u2 s2 q => ?_
  obtain ⟨z, H2, I2, rz, q2⟩ := q
  exact cmpBack_of (rel_ni rz) ⟨z, H2, I2, rz, q2⟩

/-- y in x, x of the class -/
def rOwnIn (C : Addr) (sp : Sp) (E : XK) (neg : Bool) : R2 := fun y x H Q => ∃ (a dx : Addr) (fs : List (Str × V)), x = .ref a ∧ H a = some (.ins C dx fs) ∧
  sp [.ref a, y] H (fun r H2 => ∃ c : Bool, r = .bl c ∧ Q (.bl (if neg then !c else c)) H2) E
theorem op_ownIn (F : FnOk X.prog X.w X.K X.mg X.base CX k f fd ps sp) (D : Dun X.K C "__contains__" f) (hr : Room k X.A) (hb : Binds X.K fd ps []) (hx : Passes CX X E) : OpR X (compareOp .In) (rOwnIn C sp E false) := by
  intro pins s st H y x v u Q I ry rx h
  obtain ⟨a, dx, fs, rfl, ha, h⟩ := h
  cases rx
  obtain ⟨mA, J, _⟩ := ins_get I.hok ha
  obtain ⟨od, J, _⟩ := J.look
  obtain ⟨m, hF⟩ := I.fr
  refine PySem.W.in_K hF I.ok.mod.kin J D.at_ D.fn ?_
  refine thn (run_below F rfl hr hb hx I (show Vals [V.ref a, y] [Value.ref a, v] from .cons rfl (.cons ry .nil)) h) fun u2 s2 q => ?_
  obtain ⟨z, H2, I2, rz, c, rfl, q2⟩ := q
  cases rz
  exact wpAny_truthy_bool ⟨.bl c, H2, I2, rfl, q2⟩
theorem op_ownNotIn (F : FnOk X.prog X.w X.K X.mg X.base CX k f fd ps sp) (D : Dun X.K C "__contains__" f) (hr : Room k X.A) (hb : Binds X.K fd ps []) (hx : Passes CX X E) : OpR X (compareOp .NotIn) (rOwnIn C sp E true) := by
  intro pins s st H y x v u Q I ry rx h
  obtain ⟨a, dx, fs, rfl, ha, h⟩ := h
  cases rx
  obtain ⟨mA, J, _⟩ := ins_get I.hok ha
  obtain ⟨od, J, _⟩ := J.look
  obtain ⟨m, hF⟩ := I.fr
  refine PySem.W.notIn_K hF I.ok.mod.kin J D.at_ D.fn ?_
  refine thn (run_below F rfl hr hb hx I (show Vals [V.ref a, y] [Value.ref a, v] from .cons rfl (.cons ry .nil)) h) fun u2 s2 q => ?_
  obtain ⟨z, H2, I2, rz, c, rfl, q2⟩ := q
  cases rz
  exact wpAny_truthy_bool ⟨.bl (!c), H2, I2, rfl, q2⟩

/-- x == y, both of the class -/
theorem op_ownEq (F : FnOk X.prog X.w X.K X.mg X.base CX k f fd ps sp) (D : Dun X.K C "__eq__" f) (hr : Room k X.A) (hb : Binds X.K fd ps []) (hx : Passes CX X E) : OpR X (compareOp .Eq) (rOwn C sp E) := by
  intro pins s st H x y v u Q I rx ry h
  obtain ⟨a, b, dx, dy, fs, gs, rfl, rfl, ha, hb2, h⟩ := h
  cases rx
  cases ry
  obtain ⟨mA, J, _⟩ := ins_get I.hok ha
  obtain ⟨mB, J2, _⟩ := ins_get I.hok hb2
  obtain ⟨od, J, _⟩ := J.look
  obtain ⟨od2, J2, _⟩ := J2.look
  obtain ⟨m, hF⟩ := I.fr
  refine PySem.W.cmp_K (op := .Eq) (tb := .ref C) hr.units0 hF I.ok.mod.kin J J2.type (by simp [PySem.W.notFirst]) D.at_ D.fn ?_
  refine thn (run_below F rfl hr hb hx I (show Vals [V.ref a, V.ref b] [Value.ref a, Value.ref b] from .cons rfl (.cons rfl .nil)) h) fun u2 s2 q => ?_
  obtain ⟨z, H2, I2, rz, q2⟩ := q
  exact cmpBack_of (rel_ni rz) ⟨z, H2, I2, rz, q2⟩
end

/-! ### != where the class has an __eq__ alone -/
section
variable {prog : Program} {w : World} {A : Around} {E : Value → Shared → Prop} {s : Shared} {K : PySem.W.Frag} {x C L f : Addr} {h0 : Heap} {m : Str → Option Value} {ox : Obj} {od : Option Obj} {b tb : Value}

/-- the class has object's own __ne__ -/
structure NoNe (K : PySem.W.Frag) (C : Addr) : Prop where
  ne : PySem.W.findIn K (.ref C) "__ne__" = some (some (.builtin "object.__ne__"))
  obj : PySem.W.subIn K (.ref C) (.type "object") = some true

theorem ne_body {Q : Fin → Shared → Prop} (hu : A.units < cLine) (X : K.In s.heap) (I : PySem.W.InstAt s.heap x ox C od) (hs : PySem.W.findIn K (.ref C) "__eq__" = some (some (.ref f))) (hf : PySem.W.isFn K (.ref f) = true)
    (h : wpAny (model prog w) A (call (.ref f) [.ref x, b]) (fun v s2 => ∃ c, v = .bool c ∧ Q (.done (.ret (.bool (!c)))) s2) E s) : wpAny (model prog w) A (Builtin.«object.__ne__» ⟨[.ref x, b], []⟩) Q E s := by
  have e : Builtin.«object.__ne__» ⟨[.ref x, b], []⟩ = (do
      cRoomFor "comparison" [.ref x, b]
      match ← callSpecialIfBound? (.ref x) "__eq__" [b] with
      | some .notImplemented | none => ret .notImplemented
      | some r => ret (.bool (!(← truthy r)))) := rfl
  rw [e]
  refine wpAny_bind (wpAny_cRoomFor hu (wpAny_bind (PySem.W.ifBound_K X I hs hf (thn h fun v s2 q => ?_))))
  obtain ⟨c, rfl, q⟩ := q
  exact wpAny_bind (wpAny_truthy_bool (wpAny_pure q))

theorem ne_call {Q : Value → Shared → Prop} (hu : A.units + 1 < cLine) (X : K.In s.heap) (I : PySem.W.InstAt s.heap x ox C od) (N : NoNe K C) (hs : PySem.W.findIn K (.ref C) "__eq__" = some (some (.ref f))) (hf : PySem.W.isFn K (.ref f) = true)
    (h : wpAny (model prog w) A.in1 (call (.ref f) [.ref x, b]) (fun v s2 => ∃ c, v = .bool c ∧ Q (.bool (!c)) s2) E s) : wpAny (model prog w) A (call (.builtin "object.__ne__") [.ref x, b]) Q E s := by
  have top : PySem.W.Looks (model prog w) s.heap (isInstance (.ref x) (.type "object")) true := I.type.andThen (PySem.W.looks_subIn X N.obj)
  refine wpAny_call (codeAny_call_builtin F.cmp_object.ne.plain F.cmpEntry_ne (PySem.W.check_slot F.cmpKind_ne F.cmpSplit_ne top (F.cmpArgs_ne _ _) ?_))
  refine ne_body (A := A.in1) hu X I hs hf (thn h fun v s2 q => ?_)
  obtain ⟨c, rfl, q⟩ := q
  exact ⟨c, rfl, q⟩

theorem ne_try {Q : Option Value → Shared → Prop} (hu : A.units + 1 < cLine) (X : K.In s.heap) (I : PySem.W.InstAt s.heap x ox C od) (N : NoNe K C) (hs : PySem.W.findIn K (.ref C) "__eq__" = some (some (.ref f))) (hf : PySem.W.isFn K (.ref f) = true)
    (h : wpAny (model prog w) A.in1 (call (.ref f) [.ref x, b]) (fun v s2 => ∃ c, v = .bool c ∧ Q (some (.bool (!c))) s2) E s) : wpAny (model prog w) A (tryCompare (.ref x) "__ne__" b) Q E s := by
  have go : wpAny (model prog w) A (call (.builtin "object.__ne__") ([.ref x] ++ [b]) >>= fun v => pure (some v)) (fun r s2 => ∃ c, r = some (Value.bool c) ∧ Q (some (.bool c)) s2) E s :=
    wpAny_bind (thn (ne_call (Q := fun v s2 => ∃ c, v = .bool c ∧ Q (some (.bool c)) s2) hu X I N hs hf (thn h fun v s2 q => by
      obtain ⟨c, rfl, q⟩ := q
      exact ⟨c, rfl, !c, rfl, q⟩)) fun v s2 q => by
      obtain ⟨c, rfl, q⟩ := q
      exact wpAny_pure ⟨c, rfl, q⟩)
  unfold tryCompare
  refine wpAny_bind (wpAny_mono (Q := fun r s2 => ∃ c, r = some (Value.bool c) ∧ Q (some (.bool c)) s2) ?_ (fun r s2 q => ?_) fun _ _ z => z)
  · simp only [callSpecialIfBound?, bindSpecialIfBound?]
    refine wpAny_holding (wpAny_bind (wpAny_bind (wpAny_bind (I.type.here ((PySem.W.looks_findIn X N.ne).here ?_)))))
    simp only [F.cmp_object.ne.bind]
    refine wpAny_bind (wpAny_askSetting (wpAny_ite ?_))
    split
    · exact wpAny_bind (wpAny_pure (wpAny_pure (by exact go)))
    · exact wpAny_tryCatch (wpAny_bind (wpAny_pure (wpAny_pure (by exact go))))
  · obtain ⟨c, rfl, q⟩ := q
    exact wpAny_pure q

theorem ne_K {Q : Value → Shared → Prop} (hu : A.units + 1 < cLine) (F0 : Fr h0 L s.heap m) (X0 : K.In h0) (I : PySem.W.InstAt s.heap x ox C od) (tyb : PySem.W.Looks (model prog w) s.heap (typeOf b) tb) (hn : PySem.W.notFirst K C tb = true)
    (N : NoNe K C) (hs : PySem.W.findIn K (.ref C) "__eq__" = some (some (.ref f))) (hf : PySem.W.isFn K (.ref f) = true)
    (h : wpAny (model prog w) A.in1 (call (.ref f) [.ref x, b]) (fun v s2 => ∃ c, v = .bool c ∧ Q (.bool (!c)) s2) E s) : wpAny (model prog w) A (richCompare .NotEq (.ref x) b) Q E s := by
  have X := X0.keeps F0.keep
  have one : wpAny (model prog w) A (tryCompare (.ref x) "__ne__" b) (fun r s2 => ∃ v, r = some v ∧ Q v s2) E s :=
    ne_try (Q := fun r s2 => ∃ v, r = some v ∧ Q v s2) hu X I N hs hf (thn h fun v s2 q => by
      obtain ⟨c, rfl, q⟩ := q
      exact ⟨c, rfl, _, rfl, q⟩)
  unfold richCompare
  simp only [oneThing_ref]
  refine wpAny_holding (wpAny_bind (wpAny_cRoomFor (Nat.lt_of_succ_lt hu) ?_))
  rw [cmpInfo_NotEq]
  dsimp only
  refine wpAny_bind (I.type.here (wpAny_bind (tyb.here ?_)))
  split
  · rename_i q
    have e : PySem.W.subIn K tb (.ref C) = some false := by
      rcases Bool.or_eq_true_iff.mp hn with e | e
      · exact absurd q (by rw [beq_iff_eq.mp e]; simp)
      · exact beq_iff_eq.mp e
    refine wpAny_bind ((PySem.W.looks_subIn X e).here ?_)
    rw [if_neg Bool.false_ne_true]
    refine wpAny_bind (thn one fun r s2 q => ?_)
    obtain ⟨v, rfl, q⟩ := q
    exact wpAny_pure q
  · refine wpAny_bind (wpAny_pure ?_)
    rw [if_neg Bool.false_ne_true]
    refine wpAny_bind (thn one fun r s2 q => ?_)
    obtain ⟨v, rfl, q⟩ := q
    exact wpAny_pure q
end

section
variable {X : Cx} {CX : CXT} {k : Nat} {f C : Addr} {fd : FuncData} {ps : List Str} {sp : Sp} {E : XK}
def rOwnNe (C : Addr) (sp : Sp) (E : XK) : R2 := fun x y H Q => ∃ (a b dx dy : Addr) (fs gs : List (Str × V)), x = .ref a ∧ y = .ref b ∧ H a = some (.ins C dx fs) ∧ H b = some (.ins C dy gs) ∧
  sp [.ref a, .ref b] H (fun r H2 => ∃ c : Bool, r = .bl c ∧ Q (.bl (!c)) H2) E
theorem op_ownNe (F : FnOk X.prog X.w X.K X.mg X.base CX k f fd ps sp) (D : Dun X.K C "__eq__" f) (N : NoNe X.K C) (hr : Room (k + 1) X.A) (hb : Binds X.K fd ps []) (hx : Passes CX X E) : OpR X (compareOp .NotEq) (rOwnNe C sp E) := by
  intro pins s st H x y v u Q I rx ry h
  obtain ⟨a, b, dx, dy, fs, gs, rfl, rfl, ha, hb2, h⟩ := h
  cases rx
  cases ry
  obtain ⟨mA, J, _⟩ := ins_get I.hok ha
  obtain ⟨mB, J2, _⟩ := ins_get I.hok hb2
  obtain ⟨od, J, _⟩ := J.look
  obtain ⟨od2, J2, _⟩ := J2.look
  obtain ⟨m, hF⟩ := I.fr
  refine ne_K (tb := .ref C) (hu_of hr) hF I.ok.mod.kin J J2.type (by simp [PySem.W.notFirst]) N D.at_ D.fn ?_
  refine thn (run_below (A := X.A.in1) F rfl hr.in1 hb hx I (show Vals [V.ref a, V.ref b] [Value.ref a, Value.ref b] from .cons rfl (.cons rfl .nil)) h) fun u2 s2 q => ?_
  obtain ⟨z, H2, I2, rz, c, rfl, q2⟩ := q
  cases rz
  exact ⟨c, rfl, .bl (!c), H2, I2, rfl, q2⟩

/-- o.m(k = v, ..) -/
def tMethK (C : Addr) (m : Str) (n : Nat) (sp : Sp) (gV : List V → List V → List V) (E : XK) (ta : TE) (tk : TA) : TE := fun st H Q => ta st H fun x H1 => ∃ (a dx : Addr) (fs : List (Str × V)), x = .ref a ∧ H1 a = some (.ins C dx fs) ∧ fs.lookup m = none ∧
  tk st H1 fun zs H2 => zs.length = n ∧ sp (gV [x] zs) H2 Q E
theorem pe_methK {o : Expr} {m : Str} {apos pos : Pos} {kws : List Keyword} {ks : List Str} {g : List Value → List Value → List Value} {gV : List V → List V → List V} {ta : TE} {tk : TA} {pl : Sem Bool} (ho : PE X o ta) (c : Cls X.K C)
    (hm : Meth X.K C m f) (F : FnOk X.prog X.w X.K X.mg X.base CX k f fd ps sp) (hr : Room k X.A) (hb : KBn X.K fd ps 1 ks g gV) (hx : Passes CX X E) (hkw : PK X kws tk)
    (hall : (backToKw pos (keywordEach kws X.env)).all (·.1.isSome) = true := by rfl) (hks : (backToKw pos (keywordEach kws X.env)).filterMap (·.1) = ks := by rfl)
    (hpl : ((backTo pos (starEach [] X.env)).any (·.1) || (backToKw pos (keywordEach kws X.env)).any (·.1.isNone)) = false := by rfl)
    (ht : eval (.Call (.Attribute o m apos) [] kws pos) X.env = (do
      let ov ← eval o X.env
      standAt apos.atName
      let (fv, first) ← holding [ov] (getMethod ov m pl)
      callWith pos fv first (backTo pos (starEach [] X.env)) (backToKw pos (keywordEach kws X.env))) := by rfl) :
    PE X (.Call (.Attribute o m apos) [] kws pos) (tMethK C m ks.length sp gV E ta tk) := by
  constructor
  intro pins s st H Q I h
  refine PySem.W.methodCall_KW (pl := pl) (thn (ho.run pins s st H _ I h) fun u s1 k1 => ?_) ht
  obtain ⟨x, H1, I1, rx, a, dx, fs, rfl, ha, l, q⟩ := k1
  cases rx
  refine getmeth_ok I1 ha c hm l ?_
  refine PySem.W.callWith_KW0 (first := [.ref a]) (h₀ := X.base) I.ok.mod.kin hm.kp hall ?_ hpl
  refine thn (hkw.run pos pins s1 st H1 _ I1 q) fun ws s2 k2 => ?_
  obtain ⟨zs, H2, I2, rz, lz, q2⟩ := k2
  refine ⟨I2.kIn, ?_⟩
  rw [hks]
  exact run_fnN (us := [.ref a]) (vs := [.ref a]) F hr hb hx I2 (.cons rfl .nil) rz rfl lz q2
end
/-- how a def without defaults binds keywords -/
theorem fun_kbn {K : PySem.W.Frag} {x qual : Str} {st : Stmt} {f : Addr} {fd : FuncData} {ps ks : List Str} {n : Nat} (F : Fun K x qual st f fd)
    (h : ∀ (kV doc pm : Value) (an : Option Addr) (cdv ct : Value) (us ws : List Value), us.length = n → ws.length = ks.length → bindArgs (PySem.W.fnOf x qual (defArgs st) (defBody st) (defScope st) .none kV doc pm an cdv ct) ⟨us, ks.zip ws⟩ = pure (ps.zip (us ++ ws))) :
    KBn K fd ps n ks (fun us ws => us ++ ws) (fun vs zs => vs ++ zs) := by
  obtain ⟨oc, od, kV, doc, pm, an, cdv, ct, osl, rfl, lk, hcd⟩ := F.ex
  exact ⟨fun s us ws _ l1 l2 => .of_eq (h kV doc pm an cdv ct us ws l1 l2), fun r1 r2 => r1.append r2⟩
/-- a method and its promise -/
structure Dm (P : Program) (w : World) (K : PySem.W.Frag) (mg : Str → Option Value) (base : Heap) (C : Addr) (k : Nat) (m : Str) (f : Addr) (ps : List Str) (sp : Sp) : Prop where
  ex : ∃ fd, FnOk P w K mg base CX0 k f fd ps sp ∧ Binds K fd ps []
  me : Meth K C m f
section
variable {X : Cx} {C f : Addr} {k : Nat} {m : Str} {ps : List Str} {sp : Sp}
theorem op_dm {op : Operator} (D : Dm X.prog X.w X.K X.mg X.base C k (PySem.dunder op.info.2) f ps sp) (self : PySem.W.selfFirst X.K C = true) (hr : Room k X.A) : OpR X (binaryOp op) (rOwn C sp E0) := by
  obtain ⟨fd, F, b⟩ := D.ex
  exact op_own F ⟨D.me.at_, D.me.fn⟩ self hr b pass0
theorem op_dmEq (D : Dm X.prog X.w X.K X.mg X.base C k "__eq__" f ps sp) (hr : Room k X.A) : OpR X (compareOp .Eq) (rOwn C sp E0) := by
  obtain ⟨fd, F, b⟩ := D.ex
  exact op_ownEq F ⟨D.me.at_, D.me.fn⟩ hr b pass0
theorem op_dmNe (D : Dm X.prog X.w X.K X.mg X.base C k "__eq__" f ps sp) (N : NoNe X.K C) (hr : Room (k + 1) X.A) : OpR X (compareOp .NotEq) (rOwnNe C sp E0) := by
  obtain ⟨fd, F, b⟩ := D.ex
  exact op_ownNe F ⟨D.me.at_, D.me.fn⟩ N hr b pass0
theorem op_dmIn (D : Dm X.prog X.w X.K X.mg X.base C k "__contains__" f ps sp) (hr : Room k X.A) : OpR X (compareOp .In) (rOwnIn C sp E0 false) := by
  obtain ⟨fd, F, b⟩ := D.ex
  exact op_ownIn F ⟨D.me.at_, D.me.fn⟩ hr b pass0
theorem op_dmNotIn (D : Dm X.prog X.w X.K X.mg X.base C k "__contains__" f ps sp) (hr : Room k X.A) : OpR X (compareOp .NotIn) (rOwnIn C sp E0 true) := by
  obtain ⟨fd, F, b⟩ := D.ex
  exact op_ownNotIn F ⟨D.me.at_, D.me.fn⟩ hr b pass0
theorem pe_dm {o e : Expr} {es : List Expr} {apos pos : Pos} {ta : TE} {t : TA} {pl : Sem Bool} (ho : PE X o ta) (c : Cls X.K C) (D : Dm X.prog X.w X.K X.mg X.base C k m f ps sp) (hr : Room k X.A) (ha : PA X (e :: es) t)
    (hst : starEach (e :: es) X.env = (false, eval e X.env) :: starEach es X.env := by rfl) (hpl : (backTo pos (starEach es X.env)).any (·.1) = false := by rfl)
    (ht : eval (.Call (.Attribute o m apos) (e :: es) [] pos) X.env = (do
      let ov ← eval o X.env
      standAt apos.atName
      let (fv, first) ← holding [ov] (getMethod ov m pl)
      callWith pos fv first (backTo pos (starEach (e :: es) X.env)) (backToKw pos (keywordEach [] X.env))) := by rfl) :
    PE X (.Call (.Attribute o m apos) (e :: es) [] pos) (tMeth C m sp [] E0 ta t) := by
  obtain ⟨fd, F, b⟩ := D.ex
  exact pe_meth (pl := pl) ho c D.me F hr b .nil pass0 ha hst hpl ht
end
end Gk
/-! Gk4: what stays, comprehensions whose heap grows, defs as bundles. -/
namespace Gk
open PySem PySem.Spec PyProof.Rows L2

/-! ### what stays: all but the addresses of T -/
def Kp (T : Addr → Prop) (H H2 : Hp) : Prop := ∀ b o, ¬ T b → H b = some o → H2 b = some o
abbrev T0 : Addr → Prop := fun _ => False
theorem Kp.refl {T : Addr → Prop} (H : Hp) : Kp T H H := fun _ _ _ h => h
theorem Kp.trans {T : Addr → Prop} {H H1 H2 : Hp} (a : Kp T H H1) (b : Kp T H1 H2) : Kp T H H2 := fun c o n h => b c o n (a c o n h)
theorem Kp.at0 {H H2 : Hp} (a : Kp T0 H H2) {b : Addr} {o : HO} (h : H b = some o) : H2 b = some o := a b o id h
theorem Kp.wide {T : Addr → Prop} {H H2 : Hp} (a : Kp T0 H H2) : Kp T H H2 := fun b o _ h => a b o id h
theorem Kp.new {T : Addr → Prop} {H H2 : Hp} {p : Addr} {o : HO} (a : Kp T H H2) (h : H2 p = none) : Kp T H (upd H2 p o) := fun b u n e => by
  have z := a b u n e
  rw [upd_ne (ne_of_none z h)]
  exact z
theorem Kp.put {T : Addr → Prop} {H H2 : Hp} {p : Addr} {o : HO} (a : Kp T H H2) (h : T p) : Kp T H (upd H2 p o) := fun b u n e => by
  rw [upd_ne (fun z => n (by rw [z]; exact h))]
  exact a b u n e
theorem Kp.over {T : Addr → Prop} {H H2 : Hp} {p : Addr} {o : HO} (a : Kp T H H2) (h : H p = none) : Kp T H (upd H2 p o) := fun b u n e => by
  rw [upd_ne (ne_of_none e h)]
  exact a b u n e
theorem Kp.free {H H2 : Hp} (a : Kp T0 H H2) {p : Addr} (h : H2 p = none) : H p = none := by
  cases e : H p with
  | none => rfl
  | some o => rw [a.at0 e] at h; cases h

/-! ### a comprehension -/
theorem lc_kp {T : Addr → Prop} {J : It} {n : Nat} {G : Hp → Prop} {Y : Nat → Hp → V → Hp → Prop} (w : Walk J n G Y) {i0 : Nat} {tt : TT} {te : TE} {vs : List Nat} {st : L2.St} {H1 : Hp} {D : Addr} {Qd : Hp → Prop}
    (src : Nat → V → Prop) (P : Nat → List V → Hp → Prop) (hY : ∀ i H x H2, i < n → Y i H x H2 → H2 = H ∧ src i x) (hD : H1 D = none) (hT : ¬ T D) (hn : n < sizeLine)  (hws : ∀ x, wipe ((wipe st vs).set i0 (some x)) vs = wipe st vs) (hG : ∀ H, Kp T H1 H → G H) (p0 : P 0 [] (upd H1 D (.lst [])))
    (step : ∀ (i : Nat) (x : V) (ys : List V) (H : Hp) (Ky : V → Hp → Prop) (Kn : Hp → Prop), i < n → src i x → Kp T H1 H → H D = some (.lst ys) → P i ys H →
      (∀ y H4, Kp T H H4 → P (i + 1) (ys ++ [y]) (upd H4 D (.lst (ys ++ [y]))) → Ky y H4) → (∀ H3, Kp T H H3 → P (i + 1) ys H3 → Kn H3) →
      tt ((wipe st vs).set i0 (some x)) H fun b H3 => if b = true then te ((wipe st vs).set i0 (some x)) H3 Ky else Kn H3)
    (fin : ∀ ys H, Kp T H1 H → H D = some (.lst ys) → ys.length ≤ n → P n ys H → Qd H) :
    ∃ W : Nat → Nat → Hp → Prop, (∃ m, W 0 m (upd H1 D (.lst []))) ∧ ∀ i m H, W i m H →
      (J.stop i H ∧ Qd H) ∨ (J.go i H ∧ ∃ Nx : Hp → Prop, (∀ H2, Nx H2 → ∃ m2, m2 < m ∧ W (i + 1) m2 H2) ∧ ∀ x H2, J.yld i H x H2 → gName i0 x (wipe st vs) H2 fun s2 H2 => wipe s2 vs = wipe st vs ∧ tt s2 H2 fun b H3 =>
        if b = true then te s2 H3 fun y H4 => ∃ acc, H4 D = some (.lst acc) ∧ acc.length < sizeLine ∧ Nx (upd H4 D (.lst (acc ++ [y]))) else Nx H3) := by
  refine lc_it w (fun i H => ∃ ys, Kp T H1 H ∧ H D = some (.lst ys) ∧ ys.length ≤ i ∧ P i ys H) ⟨[], (Kp.refl H1).over hD, upd_same, Nat.le_refl _, p0⟩ (fun i H _ q => ?_) (fun i x H H2 hi q y => ?_) (fun H q => ?_)
  · obtain ⟨ys, k, _⟩ := q
    exact hG H k
  · obtain ⟨ys, k, d, l, p⟩ := q
    obtain ⟨rfl, sx⟩ := hY i H x H2 hi y
    refine ⟨hws x, ?_⟩
    refine step i x ys H2 _ _ hi sx k d p (fun y H4 k4 p4 => ?_) (fun H3 k3 p3 => ?_)
    · refine ⟨ys, k4 D _ hT d, by omega, ys ++ [y], (k.trans k4).over hD, upd_same, ?_, p4⟩
      rw [List.length_append, List.length_singleton]
      omega
    · exact ⟨ys, k.trans k3, k3 D _ hT d, by omega, p3⟩
  · obtain ⟨ys, k, d, l, p⟩ := q
    exact fin ys H k d l p

theorem yes_ {st : L2.St} {H : Hp} {A B : Hp → Prop} (h : A H) : tYes st H fun b H3 => if b = true then A H3 else B H3 := by
  show (if true = true then A H else B H)
  exact iteT h
/-- lists item by item -/
theorem snoc_at {α : Type} {R : Nat → α → Prop} {ys : List α} {y : α} (h : ∀ (j : Nat) v, ys[j]? = some v → R j v) (hy : R ys.length y) : ∀ (j : Nat) v, (ys ++ [y])[j]? = some v → R j v := by
  intro j v e
  by_cases hj : j < ys.length
  · rw [List.getElem?_append_left hj] at e
    exact h j v e
  · have ej : j = ys.length := by
      have l := (List.getElem?_eq_some_iff.mp e).1
      rw [List.length_append, List.length_singleton] at l
      omega
    rw [ej, List.getElem?_concat_length] at e
    cases Option.some.inj e
    rw [ej]
    exact hy
theorem bools_of {R : Nat → Bool → Prop} {ys : List V} (h : ∀ (j : Nat) v, ys[j]? = some v → ∃ b, v = .bl b ∧ R j b) : ∃ bs : List Bool, ys = bs.map V.bl ∧ bs.length = ys.length ∧ ∀ (j : Nat) b, bs[j]? = some b → R j b := by
  refine ⟨ys.map fun v => match v with | .bl b => b | _ => false, ?_, by rw [List.length_map], fun j b e => ?_⟩
  · rw [List.map_map]
    refine (List.map_id _).symm.trans (List.map_congr_left fun v hv => ?_)
    obtain ⟨j, hj⟩ := List.mem_iff_getElem?.mp hv
    obtain ⟨c, rfl, _⟩ := h j v hj
    rfl
  · rw [List.getElem?_map] at e
    cases ev : ys[j]? with
    | none => rw [ev] at e; cases e
    | some v =>
      rw [ev] at e
      obtain ⟨c, rfl, r⟩ := h j v ev
      have e2 : c = b := Option.some.inj e
      rw [← e2]
      exact r
/-- slots: a comprehension's own one -/
theorem wipe1 (st : L2.St) (i : Nat) (x : V) : wipe ((wipe st [i]).set i (some x)) [i] = wipe st [i] := by
  show ((st.set i none).set i (some x)).set i none = st.set i none
  rw [List.set_set, List.set_set]

/-- a dict's comprehension -/
theorem dc_it {J : It} {n : Nat} {G : Hp → Prop} {Y : Nat → Hp → V → Hp → Prop} (w : Walk J n G Y) {new : HO} {t : TStore} {g : TG} {tt : TT} {tk tv : TE} {vs : List Nat} {st : L2.St} {H1 : Hp} {D : Addr} {Qd : Hp → Prop}
    (Pv : Nat → Hp → Prop) (h0 : Pv 0 (upd H1 D new)) (hG : ∀ i H, i ≤ n → Pv i H → G H)
    (hs : ∀ i x H H2, i < n → Pv i H → Y i H x H2 → g x (wipe st vs) H2 fun s2 H2 => wipe s2 vs = wipe st vs ∧ tt s2 H2 fun b H3 => if b = true then tk s2 H3 fun y H4 => tv s2 H4 fun z H5 => t D y z H5 (Pv (i + 1)) else Pv (i + 1) H3)
    (hd : ∀ H, Pv n H → Qd H) :
    ∃ W : Nat → Nat → Hp → Prop, (∃ m, W 0 m (upd H1 D new)) ∧ ∀ i m Ha, W i m Ha →
      (J.stop i Ha ∧ Qd Ha) ∨
      (J.go i Ha ∧ ∃ Nx : Hp → Prop, (∀ Hb, Nx Hb → ∃ m2, m2 < m ∧ W (i + 1) m2 Hb) ∧ ∀ x Hb, J.yld i Ha x Hb →
        g x (wipe st vs) Hb fun st2 H2 => wipe st2 vs = wipe st vs ∧ tt st2 H2 fun b H3 =>
          if b = true then tk st2 H3 fun y H4 => tv st2 H4 fun z H5 => t D y z H5 Nx else Nx H3) := by
  refine ⟨fun i m H => m = n - i ∧ i ≤ n ∧ Pv i H, ⟨n, rfl, Nat.zero_le _, h0⟩, ?_⟩
  rintro i m H ⟨rfl, hi, p⟩
  have q := hG i H hi p
  by_cases lt : i < n
  · exact .inr ⟨w.goes i H lt q, Pv (i + 1), fun H2 p2 => ⟨n - (i + 1), by omega, rfl, lt, p2⟩, fun x H2 y => hs i x H H2 lt p (w.yields i H x H2 lt q y)⟩
  · have e : i = n := by omega
    subst e
    exact .inl ⟨w.stops H q, hd H p⟩

/-! ### scopes of a comprehension in a comprehension -/
def rel2 (sc outer : Scope) : Scope := { sc with names := sc.names.map fun (n, k) => if (k == .free && outer.kind == .function && outer.names.lookup n == some .cell) then (n, .cell) else (n, k) }
theorem blkOk_in {N : List Str} {env : Env} {sc2 scope outer : Scope} {own : List (Str × Nat)} (e : env.scope = outer) (h : blkC N (rel2 sc2 outer) scope own = true) : BlkOk N (relabel sc2 env) scope own := by
  subst e
  exact blkOk_by h

/-! ### a def and its promise, in one -/
structure Df (P : Program) (w : World) (K : PySem.W.Frag) (mg : Str → Option Value) (base : Heap) (k : Nat) (f : Addr) (x : Str) (ps : List Str) (sp : Sp) : Prop where
  ex : ∃ fd, FnOk P w K mg base CX0 k f fd ps sp ∧ Binds K fd ps []
  mgx : mg x = some (.ref f)
  kp : PySem.W.keepIn K (.ref f) = true
section
variable {X : Cx} {k : Nat} {f : Addr} {x : Str} {ps : List Str} {sp : Sp} {p pos : Pos} {e : Expr} {es : List Expr} {t : TA}
theorem pe_df (D : Df X.prog X.w X.K X.mg X.base k f x ps sp) (hr : Room k X.A) (hg : Gl X x) (ha : PA X (e :: es) t) (hdb : (x == ("__debug__" : Str)) = false := by decide)
    (he : starEach (e :: es) X.env = (false, eval e X.env) :: starEach es X.env := by rfl) (hpl : (backTo pos (starEach es X.env)).any (·.1) = false := by rfl) :
    PE X (.Call (.Name x p) (e :: es) [] pos) (tCall sp [] E0 t) := by
  obtain ⟨fd, F, b⟩ := D.ex
  exact pe_call F hr hg D.mgx D.kp b .nil pass0 ha hdb he hpl
end

/-! ### paths and masks in the heap -/
def IsP (H : Hp) (v : V) (p : Pth) : Prop := ∃ a, v = .ref a ∧ H a = some (.tup (p.map V.str))
abbrev Ps (H : Hp) : List V → List Pth → Prop := Paired (IsP H)
theorem IsP.keep {T : Addr → Prop} {H H2 : Hp} {v : V} {p : Pth} (h : IsP H v p) (k : Kp T H H2) (hT : ∀ a o, T a → H a = some o → ∀ xs, o ≠ .tup xs) : IsP H2 v p := by
  obtain ⟨a, e, h⟩ := h
  exact ⟨a, e, k a _ (fun t => hT a _ t h _ rfl) h⟩
theorem IsP.keep0 {H H2 : Hp} {v : V} {p : Pth} (h : IsP H v p) (k : Kp T0 H H2) : IsP H2 v p := h.keep k fun _ _ z => z.elim
theorem Ps.keep {T : Addr → Prop} {H H2 : Hp} {vs : List V} {ps : List Pth} (h : Ps H vs ps) (k : Kp T H H2) (hT : ∀ a o, T a → H a = some o → ∀ xs, o ≠ .tup xs) : Ps H2 vs ps := Paired.mapP h fun _ _ z => z.keep k hT
theorem Ps.keep0 {H H2 : Hp} {vs : List V} {ps : List Pth} (h : Ps H vs ps) (k : Kp T0 H H2) : Ps H2 vs ps := h.keep k fun _ _ z => z.elim
theorem Ps.get {H : Hp} : ∀ {vs : List V} {ps : List Pth} {i : Nat} {v : V}, Ps H vs ps → vs[i]? = some v → ∃ p, ps[i]? = some p ∧ IsP H v p
  | _, _, _, _, .nil, e => nomatch e
  | _, _, 0, _, .cons r _, e => by
    cases Option.some.inj e
    exact ⟨_, rfl, r⟩
  | _, _, i + 1, _, .cons _ t, e => Ps.get (i := i) t e
theorem Ps.snoc {H : Hp} : ∀ {vs : List V} {ps : List Pth} {v : V} {p : Pth}, Ps H vs ps → IsP H v p → Ps H (vs ++ [v]) (ps ++ [p])
  | _, _, _, _, .nil, h => .cons h .nil
  | _, _, _, _, .cons r t, h => .cons r (Ps.snoc t h)
theorem Ps.app {H : Hp} : ∀ {vs us : List V} {ps qs : List Pth}, Ps H vs ps → Ps H us qs → Ps H (vs ++ us) (ps ++ qs)
  | _, _, _, _, .nil, h => h
  | _, _, _, _, .cons r t, h => .cons r (Ps.app t h)
end Gk
/-! Gk5: names and paths, as plain data. -/
namespace Gk
open PySem PySem.Spec PyProof.Rows L2

/-! ### names -/
def LET : Str := "abcdefghijklmnopqrstuvwxyz"
def isLet (x : Str) (lo hi : Int) : Bool := decide (lo ≤ (x.length : Int)) && decide ((x.length : Int) ≤ hi) && x.cps.toList.all fun c => decide (c ∈ LET.cps.toList)
def isNm (x : Str) : Bool := isLet x 1 8
theorem all_seq (p : Nat → Bool) (x : Str) (bs : List Bool) (hl : bs.length = x.cps.size) (h : ∀ (i : Nat) b, bs[i]? = some b → ∃ c, x.cps[i]? = some c ∧ b = p c) : bs.all id = x.cps.toList.all p := by
  have e : bs = x.cps.toList.map p := by
    refine List.ext_getElem (by rw [List.length_map, Array.length_toList]; exact hl) fun i h1 h2 => ?_
    obtain ⟨c, e1, e2⟩ := h i bs[i] (List.getElem?_eq_getElem h1)
    rw [e2, List.getElem_map]
    congr 1
    rw [Array.getElem?_eq_some_iff] at e1
    obtain ⟨g1, g2⟩ := e1
    rw [← g2, Array.getElem_toList]
  rw [e, List.all_map]
  rfl
theorem let_small : ∀ c ∈ LET.cps.toList, c < 128 := by decide +kernel
theorem isLet_ok {x : Str} {lo hi : Int} (h : isLet x lo hi = true) : PyData.strOk x = true ∧ lo ≤ (x.length : Int) ∧ (x.length : Int) ≤ hi := by
  unfold isLet at h
  rw [Bool.and_eq_true, Bool.and_eq_true] at h
  obtain ⟨⟨h1, h2⟩, h3⟩ := h
  refine ⟨?_, of_decide_eq_true h1, of_decide_eq_true h2⟩
  unfold PyData.strOk
  rw [Array.all_eq_true']
  intro c hc
  have q := List.all_eq_true.mp h3 c (Array.mem_toList_iff.mpr hc)
  have l := let_small c (of_decide_eq_true q)
  exact decide_eq_true (by omega)
theorem isNm_ok {x : Str} (h : isNm x = true) : PyData.strOk x = true ∧ x.length < sizeLine := by
  obtain ⟨h1, _, h3⟩ := isLet_ok h
  exact ⟨h1, by rw [sizeLine_eq]; omega⟩

/-- a value that is no text; none that is a tuple -/
def NoStr (K : PySem.W.Frag) (H : Hp) (v : V) : Prop := ∃ t, TyX K H v t ∧ PySem.W.kitOne K t (.type "str") = some false
def NoTup (K : PySem.W.Frag) (H : Hp) (v : V) : Prop := ∃ t, TyX K H v t ∧ PySem.W.kitOne K t (.type "tuple") = some false
theorem tyx_keep {K : PySem.W.Frag} {H H2 : Hp} {v : V} {t : Value} (h : TyX K H v t) (k : Kp T0 H H2) : TyX K H2 v t := by
  cases h with
  | base b =>
    refine .base ?_
    cases b with
    | non => exact .non
    | bl x => exact .bl x
    | int i => exact .int i
    | str x => exact .str x
    | flt x => exact .flt x
    | lst e => exact .lst (k.at0 e)
    | frz e => exact .frz (k.at0 e)
    | tup e => exact .tup (k.at0 e)
    | dK e => exact .dK (k.at0 e)
    | dT e => exact .dT (k.at0 e)
    | ins e c h1 h2 h3 h4 => exact .ins (k.at0 e) c h1 h2 h3 h4
  | byt b => exact .byt b
  | set e => exact .set (k.at0 e)
  | kList e c => exact .kList e c
  | kTuple e c => exact .kTuple e c
  | kDict e c => exact .kDict e c
  | fTuple e => exact .fTuple (k.at0 e)
  | fDict e => exact .fDict (k.at0 e)
theorem NoStr.keep0 {K : PySem.W.Frag} {H H2 : Hp} {v : V} (h : NoStr K H v) (k : Kp T0 H H2) : NoStr K H2 v := by
  obtain ⟨t, a, b⟩ := h
  exact ⟨t, tyx_keep a k, b⟩
theorem NoTup.keep0 {K : PySem.W.Frag} {H H2 : Hp} {v : V} (h : NoTup K H v) (k : Kp T0 H H2) : NoTup K H2 v := by
  obtain ⟨t, a, b⟩ := h
  exact ⟨t, tyx_keep a k, b⟩
/-- an item of a row and whether it is a name -/
def ItN (K : PySem.W.Frag) (H : Hp) (v : V) (r : Bool) : Prop := (∃ x : Str, v = .str x ∧ x.length < sizeLine ∧ r = isNm x) ∨ (NoStr K H v ∧ r = false)
theorem ItN.keep0 {K : PySem.W.Frag} {H H2 : Hp} {v : V} {r : Bool} (h : ItN K H v r) (k : Kp T0 H H2) : ItN K H2 v r :=
  h.imp id fun z => ⟨z.1.keep0 k, z.2⟩

/-! ### paths as data -/
abbrev dP (p : Pth) : PyData := .tuple (p.map PyData.str)
abbrev dM (ps : List Pth) : PyData := .tuple (ps.map dP)
theorem dp_strs {K : PySem.W.Frag} {H : Hp} : ∀ p : Pth, DpAll K H (p.map V.str) (p.map PyData.str)
  | [] => .nil
  | x :: p => .cons (.str x) (dp_strs p)
theorem IsP.dp {K : PySem.W.Frag} {H : Hp} {v : V} {p : Pth} (h : IsP H v p) : Dp K H v (dP p) := by
  obtain ⟨a, rfl, h⟩ := h
  exact .tup (SqT.of h) (dp_strs p)
theorem Ps.dp {K : PySem.W.Frag} {H : Hp} : ∀ {vs : List V} {ps : List Pth}, Ps H vs ps → DpAll K H vs (ps.map dP)
  | _, _, .nil => .nil
  | _, _, .cons r t => .cons (IsP.dp r) (Ps.dp t)
theorem eqv_strs : ∀ p q : Pth, PyData.eqvAll (p.map PyData.str) (q.map PyData.str) = decide (p = q)
  | [], [] => by rw [decide_eq_true rfl] <;> rfl
  | [], _ :: _ => by rw [decide_eq_false (by intro e; cases e)] <;> rfl
  | _ :: _, [] => by rw [decide_eq_false (by intro e; cases e)] <;> rfl
  | x :: p, y :: q => by
    show (PyData.eqv (.str x) (.str y) && PyData.eqvAll (p.map PyData.str) (q.map PyData.str)) = _
    rw [eqv_strs p q]
    show (x == y && decide (p = q)) = _
    by_cases h1 : x = y
    · subst h1
      rw [beq_self_eq_true, Bool.true_and]
      exact decide_eq_decide.mpr ⟨fun e => by rw [e], fun e => by injection e⟩
    · rw [beq_eq_false_iff_ne.mpr h1, Bool.false_and, decide_eq_false]
      intro e
      injection e with e1 e2
      exact h1 e1
theorem eqv_dP (p q : Pth) : PyData.eqv (dP p) (dP q) = decide (p = q) := eqv_strs p q
theorem eqv_paths : ∀ ps qs : List Pth, PyData.eqvAll (ps.map dP) (qs.map dP) = decide (ps = qs)
  | [], [] => by rw [decide_eq_true rfl] <;> rfl
  | [], _ :: _ => by rw [decide_eq_false (by intro e; cases e)] <;> rfl
  | _ :: _, [] => by rw [decide_eq_false (by intro e; cases e)] <;> rfl
  | p :: ps, q :: qs => by
    show (PyData.eqv (dP p) (dP q) && PyData.eqvAll (ps.map dP) (qs.map dP)) = _
    rw [eqv_paths ps qs, eqv_dP]
    by_cases h1 : p = q
    · subst h1
      rw [decide_eq_true rfl, Bool.true_and]
      exact decide_eq_decide.mpr ⟨fun e => by rw [e], fun e => by injection e⟩
    · rw [decide_eq_false h1, Bool.false_and, decide_eq_false]
      intro e
      injection e with e1 e2
      exact h1 e1
theorem eqv_dM (ps qs : List Pth) : PyData.eqv (dM ps) (dM qs) = decide (ps = qs) := eqv_paths ps qs
/-- a path whose parts are names -/
def OkN (p : Pth) : Prop := ∀ x ∈ p, isNm x = true
def OkP (p : Pth) : Prop := OkN p ∧ p.length ≤ 1000
theorem lay_dN {p : Pth} (h : OkN p) : (dP p).canLay0 = true := by
  show PyData.canLayAll0 (p.map PyData.str) = true
  induction p with
  | nil => rfl
  | cons x p ih =>
    show (PyData.canLay0 (.str x) && PyData.canLayAll0 (p.map PyData.str)) = true
    rw [ih fun y hy => h y (List.mem_cons_of_mem _ hy), Bool.and_true]
    exact (isNm_ok (h x List.mem_cons_self)).1
theorem lay_dP {p : Pth} (h : OkP p) : (dP p).canLay0 = true := lay_dN h.1
theorem depth_dP (p : Pth) : (dP p).depth ≤ 1 := by
  have e : PyData.depthAll (p.map PyData.str) = 0 := by
    induction p with
    | nil => rfl
    | cons x p ih =>
      show max (PyData.depth (.str x)) (PyData.depthAll (p.map PyData.str)) = 0
      rw [ih] <;> rfl
  show PyData.depthAll (p.map PyData.str) + 1 ≤ 1
  omega
theorem shaped_dP {p : Pth} (h : OkP p) : SeqAt.shaped (dP p) = true := by
  unfold SeqAt.shaped
  rw [lay_dP h, Bool.true_and]
  have := depth_dP p
  exact decide_eq_true (by omega)
theorem shaped_dM {ps : List Pth} (h : ∀ p ∈ ps, OkP p) : SeqAt.shaped (dM ps) = true := by
  have h1 : PyData.canLayAll0 (ps.map dP) = true := by
    induction ps with
    | nil => rfl
    | cons p ps ih =>
      show (PyData.canLay0 (dP p) && PyData.canLayAll0 (ps.map dP)) = true
      rw [ih fun y hy => h y (List.mem_cons_of_mem _ hy), lay_dP (h p List.mem_cons_self)] <;> rfl
  have h2 : PyData.depthAll (ps.map dP) ≤ 1 := by
    clear h1
    induction ps with
    | nil => exact Nat.zero_le _
    | cons p ps ih =>
      show max (PyData.depth (dP p)) (PyData.depthAll (ps.map dP)) ≤ 1
      exact Nat.max_le.mpr ⟨depth_dP p, ih fun y hy => h y (List.mem_cons_of_mem _ hy)⟩
  unfold SeqAt.shaped
  rw [show (dM ps).canLay0 = true from h1, Bool.true_and]
  exact decide_eq_true (by show PyData.depthAll (ps.map dP) + 1 ≤ 64; omega)

/-! ### promises of names.py -/
def spIsLetters (K : PySem.W.Frag) : Sp := fun vs H Q _ => ∃ (v : V) (lo hi : Int), vs = [v, .int lo, .int hi] ∧
  ((∃ x : Str, v = .str x ∧ x.length < sizeLine ∧ ∀ H2, Kp T0 H H2 → Q (.bl (isLet x lo hi)) H2) ∨ (NoStr K H v ∧ Q (.bl false) H))
def spIsName (K : PySem.W.Frag) : Sp := fun vs H Q _ => ∃ (v : V) (r : Bool), vs = [v] ∧ ItN K H v r ∧ ∀ H2, Kp T0 H H2 → Q (.bl r) H2

/-! ### rows, what covers -/
section
variable {X : Cx}
/-- a != b over data of any depth that one side bounds -/
def rNeL (K : PySem.W.Frag) (u : Nat) : R2 := fun x y H Q => ∃ d e, Dp K H x d ∧ Dp K H y e ∧ d.canLay0 = true ∧ e.canLay0 = true ∧ u + min d.depth e.depth < cLine ∧ Q (.bl (!PyData.eqv d e)) H
theorem op_neL : OpR X (compareOp .NotEq) (rNeL X.K X.A.units) := by
  intro ps s st H x y v u Q I rx ry h
  obtain ⟨d, e, hd, he, ld, le, hu, q⟩ := h
  obtain ⟨ads, r1⟩ := Dp.reads I d x v hd rx
  obtain ⟨bds, r2⟩ := Dp.reads I e y u he ry
  exact SeqAt.compareNe_reads r1 r2 ld le hu ⟨.bl _, H, I, rfl, q⟩
end
theorem eqv_nil (ds : List PyData) : PyData.eqv (.tuple ds) (.tuple []) = ds.isEmpty := by
  cases ds <;> rfl
def spIsRow (K : PySem.W.Frag) : Sp := fun vs H Q _ => ∃ (v : V) (r : Bool), vs = [v] ∧
  ((∃ (a : Addr) (xs : List V) (rs : List Bool) (ds : List PyData), v = .ref a ∧ H a = some (.tup xs) ∧ Paired (ItN K H) xs rs ∧ DpAll K H xs ds ∧ (PyData.tuple ds).canLay0 = true ∧ xs.length < sizeLine ∧ r = (!xs.isEmpty && rs.all id)) ∨ (NoTup K H v ∧ r = false)) ∧
  ∀ H2, Kp T0 H H2 → Q (.bl r) H2
def beginsP (p f : Pth) : Bool := decide (p.take f.length = f)
def coversP (ps : List Pth) (p : Pth) : Bool := ps.any (beginsP p)
def spBegins : Sp := fun vs H Q _ => ∃ (v u : V) (p f : Pth), vs = [v, u] ∧ IsP H v p ∧ IsP H u f ∧ OkP p ∧ OkP f ∧ ∀ H2, Kp T0 H H2 → Q (.bl (beginsP p f)) H2
def spCovers : Sp := fun vs H Q _ => ∃ (a : Addr) (xs : List V) (ps : List Pth) (v : V) (p : Pth), vs = [.ref a, v] ∧ H a = some (.tup xs) ∧ Ps H xs ps ∧ xs.length < sizeLine ∧ (∀ f ∈ ps, OkP f) ∧ IsP H v p ∧ OkP p ∧
  ∀ H2, Kp T0 H H2 → Q (.bl (coversP ps p)) H2
theorem OkP.take {p : Pth} (h : OkP p) (n : Nat) : OkP (p.take n) := ⟨fun x hx => h.1 x (List.mem_of_mem_take hx), Nat.le_trans (by rw [List.length_take]; exact Nat.min_le_right _ _) h.2⟩
theorem cut_take (xs : List V) (n : Nat) : cutV xs none (some (n : Int)) = xs.take n := by
  unfold cutV
  rw [HT.sIx_none, HT.sIx_nat, List.drop_zero, Nat.sub_zero]
  rcases Nat.le_total n xs.length with h | h
  · rw [Nat.min_eq_left h]
  · rw [Nat.min_eq_right h, List.take_of_length_le h, List.take_length]
theorem cut_whole {xs : List V} {n : Nat} (h : HT.sIx xs.length xs.length (some (n : Int)) = xs.length) : xs.take n = xs := by
  rw [HT.sIx_nat] at h
  exact List.take_of_length_le (by omega)
theorem OkN.items {K : PySem.W.Frag} {H : Hp} {p : Pth} (h : OkN p) : Paired (ItN K H) (p.map V.str) (p.map fun _ => true) := by
  induction p with
  | nil => exact .nil
  | cons x p ih =>
    have hx := h x List.mem_cons_self
    exact .cons (.inl ⟨x, rfl, (isNm_ok hx).2, hx.symm⟩) (ih fun y hy => h y (List.mem_cons_of_mem _ hy))
mutual
theorem dp_keep {K : PySem.W.Frag} {H H2 : Hp} (k : Kp T0 H H2) : ∀ {v : V} {d : PyData}, Dp K H v d → Dp K H2 v d
  | _, _, .non => .non
  | _, _, .bl b => .bl b
  | _, _, .int i => .int i
  | _, _, .str x => .str x
  | _, _, .lst a t => .lst (SqL.ext a fun b o e => k.at0 e) (dpAll_keep t k)
  | _, _, .tup a t => .tup (SqT.ext a fun b o e => k.at0 e) (dpAll_keep t k)
theorem dpAll_keep {K : PySem.W.Frag} {H H2 : Hp} : ∀ {vs : List V} {ds : List PyData}, DpAll K H vs ds → Kp T0 H H2 → DpAll K H2 vs ds
  | _, _, .nil, _ => .nil
  | _, _, .cons a t, k => .cons (dp_keep k a) (dpAll_keep t k)
end
end Gk
/-! Gk6: masks, in plain Lean. -/
namespace Gk
open PySem PySem.Spec PyProof.Rows L2

/-! ### the order of paths -/
theorem pkey_inj : ∀ {p q : Pth}, pkey p = pkey q → p = q
  | [], [], _ => rfl
  | [], _ :: _, e => nomatch e
  | _ :: _, [], e => nomatch e
  | x :: p, y :: q, e => by
    injection e with e1 e2
    have e3 := Sum.inr.inj e1
    have e4 : x = y := by
      have h := Array.toList_inj.mp e3
      cases x
      cases y
      simp only [Str.mk.injEq]
      exact h
    rw [e4, pkey_inj e2]
theorem ltP_irrefl (p : Pth) : ltP p p = false := lex_irrefl _
theorem ltP_trans {p q r : Pth} (h1 : ltP p q = true) (h2 : ltP q r = true) : ltP p r = true := lex_trans _ _ _ h1 h2
theorem ltP_total {p q : Pth} (h1 : ltP p q = false) (h2 : ltP q p = false) : p = q := pkey_inj (lex_total _ _ h1 h2)
abbrev Asc (qs : List Pth) : Prop := qs.Pairwise fun a b => ltP a b = true
/-- two ascending lists of the same paths are one -/
theorem asc_ext : ∀ {ps qs : List Pth}, Asc ps → Asc qs → (∀ p, p ∈ ps ↔ p ∈ qs) → ps = qs
  | [], [], _, _, _ => rfl
  | [], q :: qs, _, _, h => absurd ((h q).mpr List.mem_cons_self) List.not_mem_nil
  | p :: ps, [], _, _, h => absurd ((h p).mp List.mem_cons_self) List.not_mem_nil
  | p :: ps, q :: qs, a, b, h => by
    have a1 : ∀ {r : Pth}, r ∈ ps → ltP p r = true := fun m => List.rel_of_pairwise_cons a m
    have b1 : ∀ {r : Pth}, r ∈ qs → ltP q r = true := fun m => List.rel_of_pairwise_cons b m
    have e : p = q := by
      rcases List.mem_cons.mp ((h p).mp List.mem_cons_self) with e | m
      · exact e
      · rcases List.mem_cons.mp ((h q).mpr List.mem_cons_self) with e | m2
        · exact e.symm
        · have l1 := a1 m2
          have l2 := b1 m
          have l3 := ltP_trans l1 l2
          rw [ltP_irrefl] at l3
          cases l3
    subst e
    have n1 : p ∉ ps := fun m => by
      have l := a1 m
      rw [ltP_irrefl] at l
      cases l
    have n2 : p ∉ qs := fun m => by
      have l := b1 m
      rw [ltP_irrefl] at l
      cases l
    rw [asc_ext (List.Pairwise.of_cons a) (List.Pairwise.of_cons b) fun r => ?_]
    constructor
    · intro m
      rcases List.mem_cons.mp ((h r).mp (List.mem_cons_of_mem _ m)) with e | m2
      · exact absurd (e ▸ m) n1
      · exact m2
    · intro m
      rcases List.mem_cons.mp ((h r).mpr (List.mem_cons_of_mem _ m)) with e | m2
      · exact absurd (e ▸ m) n2
      · exact m2
theorem asc_of {ks : List Pth} (nd : ks.Nodup) (h : ks.Pairwise fun a b => ltP b a = false) : Asc ks := by
  refine List.Pairwise.imp ?_ (List.Pairwise.and h nd)
  intro a b ⟨h1, h2⟩
  cases e : ltP a b with
  | true => rfl
  | false => exact absurd (ltP_total e h1) h2

/-! ### what begins with what -/
theorem begins_iff {p f : Pth} : beginsP p f = true ↔ f <+: p := by
  unfold beginsP
  rw [decide_eq_true_iff]
  exact ⟨fun h => h ▸ List.take_prefix _ _, fun h => (List.prefix_iff_eq_take.mp h).symm⟩
theorem begins_self (p : Pth) : beginsP p p = true := begins_iff.mpr (List.prefix_refl p)
theorem begins_trans {p f g : Pth} (h1 : beginsP p f = true) (h2 : beginsP f g = true) : beginsP p g = true := begins_iff.mpr ((begins_iff.mp h2).trans (begins_iff.mp h1))
theorem begins_anti {p f : Pth} (h1 : beginsP p f = true) (h2 : beginsP f p = true) : p = f := (begins_iff.mp h2).eq_of_length_le (begins_iff.mp h1).length_le
theorem begins_len {p f : Pth} (h : beginsP p f = true) (n : f ≠ p) : f.length < p.length := by
  have q := begins_iff.mp h
  rcases Nat.lt_or_ge f.length p.length with l | l
  · exact l
  · exact absurd (q.eq_of_length_le l) n
theorem covers_iff {ps : List Pth} {p : Pth} : coversP ps p = true ↔ ∃ f ∈ ps, beginsP p f = true := by
  unfold coversP
  rw [List.any_eq_true]
theorem covers_false {ps : List Pth} {p : Pth} : coversP ps p = false ↔ ∀ f ∈ ps, beginsP p f = false := by
  constructor
  · intro h f hf
    cases e : beginsP p f with
    | false => rfl
    | true => rw [covers_iff.mpr ⟨f, hf, e⟩] at h; cases h
  · intro h
    cases e : coversP ps p with
    | false => rfl
    | true =>
      obtain ⟨f, hf, e⟩ := covers_iff.mp e
      rw [h f hf] at e
      cases e
/-- rows qs are the mask made of the paths ps -/
structure Canon (ps qs : List Pth) : Prop where
  asc : Asc qs
  mem : ∀ q, q ∈ qs ↔ q ∈ ps ∧ ∀ f ∈ ps, f ≠ q → beginsP q f = false
theorem Canon.sub {ps qs : List Pth} (c : Canon ps qs) {q : Pth} (h : q ∈ qs) : q ∈ ps := ((c.mem q).mp h).1
/-- each path has a least beginning among some -/
theorem least_front (ps : List Pth) : ∀ (n : Nat) (p : Pth), p.length ≤ n → p ∈ ps → ∃ f ∈ ps, beginsP p f = true ∧ ∀ g ∈ ps, g ≠ f → beginsP f g = false
  | 0, p, l, m => by
    refine ⟨p, m, begins_self p, fun g _ ne => ?_⟩
    cases e : beginsP p g with
    | false => rfl
    | true =>
      have := begins_len e ne
      omega
  | n + 1, p, l, m => by
    by_cases h : ∃ g ∈ ps, g ≠ p ∧ beginsP p g = true
    · obtain ⟨g, mg, ne, b⟩ := h
      have lt := begins_len b ne
      obtain ⟨f, mf, bf, k⟩ := least_front ps n g (by omega) mg
      exact ⟨f, mf, begins_trans b bf, k⟩
    · refine ⟨p, m, begins_self p, fun g mg ne => ?_⟩
      cases e : beginsP p g with
      | false => rfl
      | true => exact absurd ⟨g, mg, ne, e⟩ h
theorem Canon.covers {ps qs : List Pth} (c : Canon ps qs) (x : Pth) : coversP qs x = coversP ps x := by
  cases e : coversP ps x with
  | true =>
    obtain ⟨p, mp, b⟩ := covers_iff.mp e
    obtain ⟨f, mf, bf, k⟩ := least_front ps p.length p (Nat.le_refl _) mp
    exact covers_iff.mpr ⟨f, (c.mem f).mpr ⟨mf, k⟩, begins_trans b bf⟩
  | false => exact covers_false.mpr fun f hf => covers_false.mp e f (c.sub hf)
/-- rows of which none begins with another one -/
theorem Canon.anti {ps qs : List Pth} (c : Canon ps qs) {p q : Pth} (hp : p ∈ qs) (hq : q ∈ qs) (b : beginsP p q = true) : q = p := by
  rcases Classical.em (q = p) with e | ne
  · exact e
  · rw [((c.mem p).mp hp).2 q (c.sub hq) ne] at b
    cases b
/-- rows are known by what they cover -/
theorem canon_ext {ps qs rs ts : List Pth} (c : Canon ps qs) (d : Canon rs ts) (h : ∀ x, coversP qs x = coversP ts x) : qs = ts := by
  have half : ∀ {ps qs rs ts : List Pth}, Canon ps qs → Canon rs ts → (∀ x, coversP qs x = coversP ts x) → ∀ p, p ∈ qs → p ∈ ts := by
    intro ps qs rs ts c d h p hp
    have e1 : coversP ts p = true := (h p) ▸ covers_iff.mpr ⟨p, hp, begins_self p⟩
    obtain ⟨f, mf, bf⟩ := covers_iff.mp e1
    have e2 : coversP qs f = true := (h f).symm ▸ covers_iff.mpr ⟨f, mf, begins_self f⟩
    obtain ⟨g, mg, bg⟩ := covers_iff.mp e2
    have e3 := c.anti hp mg (begins_trans bf bg)
    have e4 : f = p := by
      rw [e3] at bg
      exact begins_anti bg bf
    exact e4 ▸ mf
  exact asc_ext c.asc d.asc fun p => ⟨half c d h p, half d c (fun x => (h x).symm) p⟩
theorem canon_one {ps qs ts : List Pth} (c : Canon ps qs) (d : Canon ps ts) : qs = ts := canon_ext c d fun x => (c.covers x).trans (d.covers x).symm
theorem canon_nil {qs : List Pth} (c : Canon [] qs) : qs = [] := by
  cases qs with
  | nil => rfl
  | cons q qs => exact absurd (c.sub List.mem_cons_self) List.not_mem_nil
theorem covers_app (ps qs : List Pth) (x : Pth) : coversP (ps ++ qs) x = (coversP ps x || coversP qs x) := List.any_append
/-- what both cover -/
def bothP (qs rs : List Pth) : List Pth := qs.filter (coversP rs) ++ rs.filter (coversP qs)
theorem covers_both (qs rs : List Pth) (x : Pth) : coversP (bothP qs rs) x = (coversP qs x && coversP rs x) := by
  cases e1 : coversP (bothP qs rs) x with
  | true =>
    obtain ⟨f, mf, b⟩ := covers_iff.mp e1
    have key : ∀ {as bs : List Pth}, f ∈ as.filter (coversP bs) → coversP as x = true ∧ coversP bs x = true := by
      intro as bs m
      obtain ⟨m1, m2⟩ := List.mem_filter.mp m
      obtain ⟨g, mg, bg⟩ := covers_iff.mp m2
      exact ⟨covers_iff.mpr ⟨f, m1, b⟩, covers_iff.mpr ⟨g, mg, begins_trans b bg⟩⟩
    rcases List.mem_append.mp mf with m | m
    · obtain ⟨h1, h2⟩ := key m
      rw [h1, h2] <;> rfl
    · obtain ⟨h1, h2⟩ := key m
      rw [h1, h2] <;> rfl
  | false =>
    cases e2 : coversP qs x with
    | false => rfl
    | true =>
      cases e3 : coversP rs x with
      | false => rfl
      | true =>
        obtain ⟨f, mf, bf⟩ := covers_iff.mp e2
        obtain ⟨g, mg, bg⟩ := covers_iff.mp e3
        have no := covers_false.mp e1
        rcases Nat.le_total g.length f.length with l | l
        · have bfg : beginsP f g = true := begins_iff.mpr (List.prefix_of_prefix_length_le (begins_iff.mp bg) (begins_iff.mp bf) l)
          have := no f (List.mem_append_left _ (List.mem_filter.mpr ⟨mf, covers_iff.mpr ⟨g, mg, bfg⟩⟩))
          rw [bf] at this
          cases this
        · have bgf : beginsP g f = true := begins_iff.mpr (List.prefix_of_prefix_length_le (begins_iff.mp bf) (begins_iff.mp bg) l)
          have := no g (List.mem_append_right _ (List.mem_filter.mpr ⟨mg, covers_iff.mpr ⟨f, mf, bgf⟩⟩))
          rw [bg] at this
          cases this
def withinP (qs rs : List Pth) : Bool := qs.all (coversP rs)
theorem within_iff {qs rs : List Pth} : withinP qs rs = true ↔ ∀ x, coversP qs x = true → coversP rs x = true := by
  unfold withinP
  rw [List.all_eq_true]
  constructor
  · intro h x hx
    obtain ⟨f, mf, b⟩ := covers_iff.mp hx
    obtain ⟨g, mg, bg⟩ := covers_iff.mp (h f mf)
    exact covers_iff.mpr ⟨g, mg, begins_trans b bg⟩
  · intro h q hq
    exact h q (covers_iff.mpr ⟨q, hq, begins_self q⟩)

/-! ### the list that fewest makes -/
def keepP (ks : List Pth) (p : Pth) : Bool := !(ks.any fun f => decide (p ≠ f) && beginsP p f)
theorem canon_fewest {ps ks : List Pth} (asc : Asc ks) (same : ∀ p, p ∈ ks ↔ p ∈ ps) : Canon ps (ks.filter (keepP ks)) := by
  refine ⟨asc.filter _, fun q => ?_⟩
  rw [List.mem_filter]
  constructor
  · rintro ⟨m, k⟩
    refine ⟨(same q).mp m, fun f mf ne => ?_⟩
    cases e : beginsP q f with
    | false => rfl
    | true =>
      unfold keepP at k
      rw [List.any_eq_true.mpr ⟨f, (same f).mpr mf, Bool.and_eq_true_iff.mpr ⟨decide_eq_true (show q ≠ f from fun z => ne z.symm), e⟩⟩] at k
      cases k
  · rintro ⟨m, k⟩
    refine ⟨(same q).mpr m, ?_⟩
    unfold keepP
    cases e : ks.any fun f => decide (q ≠ f) && beginsP q f with
    | false => rfl
    | true =>
      obtain ⟨f, mf, h⟩ := List.any_eq_true.mp e
      rw [Bool.and_eq_true] at h
      rw [k f ((same f).mp mf) (fun z => of_decide_eq_true h.1 z.symm)] at h
      cases h.2

/-! ### the keys of a dict that is filled -/
theorem keys_putK {κ : Type} [DecidableEq κ] (kvs : List (κ × V)) (k : κ) (v : V) : (putK kvs k v).map (·.1) = if k ∈ kvs.map (·.1) then kvs.map (·.1) else kvs.map (·.1) ++ [k] := by
  unfold putK
  have e : (kvs.any fun kv => decide (kv.1 = k)) = true ↔ k ∈ kvs.map (·.1) := by
    rw [List.any_eq_true, List.mem_map]
    exact ⟨fun ⟨x, m, h⟩ => ⟨x, m, of_decide_eq_true h⟩, fun ⟨x, m, h⟩ => ⟨x, m, decide_eq_true h⟩⟩
  by_cases h : k ∈ kvs.map (·.1)
  · rw [if_pos (e.mpr h), if_pos h, List.map_map]
    refine List.map_congr_left fun x _ => ?_
    show (if x.1 = k then (x.1, v) else x).1 = x.1
    split <;> rfl
  · rw [if_neg (fun z => h (e.mp z)), if_neg h, List.map_append] <;> rfl
theorem inr_inj {p q : Pth} (h : p.map (Sum.inr : Str → L2.Key) = q.map Sum.inr) : p = q := by
  induction p generalizing q with
  | nil => cases q with
    | nil => rfl
    | cons y q => exact nomatch h
  | cons x p ih => cases q with
    | nil => exact nomatch h
    | cons y q =>
      injection h with h1 h2
      rw [Sum.inr.inj h1, ih h2]
theorem keys_step {kvs : List (List L2.Key × V)} {ks : List Pth} (p : Pth) (v : V) (e : kvs.map (·.1) = ks.map (List.map Sum.inr)) (nd : ks.Nodup) :
    ∃ ks2 : List Pth, (putK kvs (p.map Sum.inr) v).map (·.1) = ks2.map (List.map Sum.inr) ∧ ks2.Nodup ∧ ∀ q, q ∈ ks2 ↔ q ∈ ks ∨ q = p := by
  have mem : p.map Sum.inr ∈ kvs.map (·.1) ↔ p ∈ ks := by
    rw [e, List.mem_map]
    exact ⟨fun ⟨q, m, h⟩ => inr_inj h ▸ m, fun m => ⟨p, m, rfl⟩⟩
  rw [keys_putK]
  by_cases h : p ∈ ks
  · rw [if_pos (mem.mpr h)]
    exact ⟨ks, e, nd, fun q => ⟨.inl, fun z => z.elim id fun z => z ▸ h⟩⟩
  · rw [if_neg (fun z => h (mem.mp z))]
    refine ⟨ks ++ [p], by rw [e, List.map_append]; rfl, ?_, fun q => by rw [List.mem_append, List.mem_singleton]⟩
    rw [List.nodup_append]
    refine ⟨nd, List.nodup_cons.mpr ⟨List.not_mem_nil, List.nodup_nil⟩, fun a ha b hb z => ?_⟩
    rw [List.mem_singleton] at hb
    exact h (hb ▸ z ▸ ha)
theorem mem_take_succ {α : Type} {l : List α} {i : Nat} {x : α} (h : l[i]? = some x) (y : α) : y ∈ l.take (i + 1) ↔ y ∈ l.take i ∨ y = x := by
  rw [List.take_add_one, h, Option.toList_some, List.mem_append, List.mem_singleton]
theorem take_succ_filter {α : Type} {l : List α} {i : Nat} {x : α} (h : l[i]? = some x) (f : α → Bool) : (l.take (i + 1)).filter f = if f x = true then (l.take i).filter f ++ [x] else (l.take i).filter f := by
  rw [List.take_add_one, h, Option.toList_some, List.filter_append]
  cases e : f x with
  | true => rw [if_pos rfl, List.filter_cons_of_pos e] <;> rfl
  | false => rw [if_neg Bool.false_ne_true, List.filter_cons_of_neg (by rw [e]; exact Bool.false_ne_true), List.filter_nil, List.append_nil]
end Gk
/-! Gk7: masks in the heap; what their methods promise. -/
namespace Gk
open PySem PySem.Spec PyProof.Rows L2

abbrev MOST : Nat := 100000
theorem most_line : MOST < sizeLine := by rw [sizeLine_eq]; decide
/-- v is a mask whose rows are qs -/
def IsM (C : Addr) (H : Hp) (v : V) (qs : List Pth) : Prop := ∃ (x dx r : Addr) (ys : List V), v = .ref x ∧ H x = some (.ins C dx [("rows", .ref r)]) ∧ H r = some (.tup ys) ∧ Ps H ys qs ∧ ys.length ≤ MOST ∧
  (∀ q ∈ qs, OkP q ∧ q ≠ []) ∧ ∃ ps, Canon ps qs
/-- addresses of T hold no tuple and no instance -/
def Loose (T : Addr → Prop) (H : Hp) : Prop := ∀ a o, T a → H a = some o → (∀ xs, o ≠ .tup xs) ∧ ∀ C dx fs, o ≠ .ins C dx fs
theorem loose0 (H : Hp) : Loose T0 H := fun _ _ z => z.elim
theorem IsM.keep {T : Addr → Prop} {C : Addr} {H H2 : Hp} {v : V} {qs : List Pth} (h : IsM C H v qs) (k : Kp T H H2) (hT : Loose T H) : IsM C H2 v qs := by
  obtain ⟨x, dx, r, ys, e, hx, hr, hp, l, o, c⟩ := h
  exact ⟨x, dx, r, ys, e, k x _ (fun t => (hT x _ t hx).2 _ _ _ rfl) hx, k r _ (fun t => (hT r _ t hr).1 _ rfl) hr, hp.keep k fun a o t e => (hT a o t e).1, l, o, c⟩
theorem IsM.keep0 {C : Addr} {H H2 : Hp} {v : V} {qs : List Pth} (h : IsM C H v qs) (k : Kp T0 H H2) : IsM C H2 v qs := h.keep k (loose0 H)
theorem IsM.canon {C : Addr} {H : Hp} {v : V} {qs : List Pth} (h : IsM C H v qs) : ∃ ps, Canon ps qs := by
  obtain ⟨_, _, _, _, _, _, _, _, _, _, c⟩ := h
  exact c
theorem IsM.len {C : Addr} {H : Hp} {v : V} {qs : List Pth} (h : IsM C H v qs) : qs.length ≤ MOST := by
  obtain ⟨_, _, _, ys, _, _, _, hp, l, _⟩ := h
  rw [← Paired.length hp]
  exact l
theorem IsM.ok {C : Addr} {H : Hp} {v : V} {qs : List Pth} (h : IsM C H v qs) : ∀ q ∈ qs, OkP q ∧ q ≠ [] := by
  obtain ⟨_, _, _, _, _, _, _, _, _, o, _⟩ := h
  exact o

/-! ### promises -/
/-- a list or a tuple of paths -/
def SqP (K : PySem.W.Frag) (H : Hp) (a : Addr) (xs : List V) (ps : List Pth) : Prop := (SqL K H a xs ∨ SqT K H a xs) ∧ Ps H xs ps ∧ ∀ p ∈ ps, OkP p ∧ p ≠ []
theorem SqP.keep0 {K : PySem.W.Frag} {H H2 : Hp} {a : Addr} {xs : List V} {ps : List Pth} (h : SqP K H a xs ps) (k : Kp T0 H H2) : SqP K H2 a xs ps :=
  ⟨h.1.imp (fun z => SqL.ext z fun b o e => k.at0 e) fun z => SqT.ext z fun b o e => k.at0 e, h.2.1.keep0 k, h.2.2⟩
def spFewest (K : PySem.W.Frag) : Sp := fun vs H Q _ => ∃ (a : Addr) (xs : List V) (ps : List Pth), vs = [.ref a] ∧ SqP K H a xs ps ∧ xs.length < sizeLine ∧
  ∀ (H2 : Hp) (l : Addr) (ys : List V) (qs : List Pth), Kp T0 H H2 → H l = none → H2 l = some (.lst ys) → Ps H2 ys qs → ys.length ≤ xs.length → Canon ps qs → Q (.ref l) H2
def spInit (K : PySem.W.Frag) (C : Addr) : Sp := fun vs H Q _ => ∃ (x dx a : Addr) (xs : List V) (ps : List Pth), vs = [.ref x, .ref a] ∧ H x = some (.ins C dx []) ∧ SqP K H a xs ps ∧ xs.length ≤ MOST ∧
  ∀ (H2 : Hp) (qs : List Pth), Kp (fun b => b = x) H H2 → IsM C H2 (.ref x) qs → qs.length ≤ xs.length → Canon ps qs → Q .non H2
def spEqM (C : Addr) : Sp := fun vs H Q _ => ∃ (v u : V) (qs rs : List Pth), vs = [v, u] ∧ IsM C H v qs ∧ IsM C H u rs ∧ Q (.bl (decide (qs = rs))) H
def spAndM (C : Addr) : Sp := fun vs H Q _ => ∃ (v u : V) (qs rs : List Pth), vs = [v, u] ∧ IsM C H v qs ∧ IsM C H u rs ∧ qs.length + rs.length ≤ MOST ∧
  ∀ H2 z ts, Kp T0 H H2 → IsM C H2 z ts → ts.length ≤ qs.length + rs.length → Canon (bothP qs rs) ts → Q z H2
def spOrM (C : Addr) : Sp := fun vs H Q _ => ∃ (v u : V) (qs rs : List Pth), vs = [v, u] ∧ IsM C H v qs ∧ IsM C H u rs ∧ qs.length + rs.length ≤ MOST ∧
  ∀ H2 z ts, Kp T0 H H2 → IsM C H2 z ts → ts.length ≤ qs.length + rs.length → Canon (qs ++ rs) ts → Q z H2
def spWithinM (C : Addr) : Sp := fun vs H Q _ => ∃ (v u : V) (qs rs : List Pth), vs = [v, u] ∧ IsM C H v qs ∧ IsM C H u rs ∧ ∀ H2, Kp T0 H H2 → Q (.bl (withinP qs rs)) H2
def spLenM (C : Addr) : Sp := fun vs H Q _ => ∃ (v : V) (qs : List Pth), vs = [v] ∧ IsM C H v qs ∧ Q (.int (qs.length : Nat)) H
def spPathsM (C : Addr) : Sp := fun vs H Q _ => ∃ (v : V) (qs : List Pth), vs = [v] ∧ IsM C H v qs ∧ ∀ l ys, H l = none → Ps H ys qs → Q (.ref l) (upd H l (.lst ys))
/-- path in mask, or a value that is no row -/
def spInM (K : PySem.W.Frag) (C : Addr) : Sp := fun vs H Q E => ∃ (v u : V) (qs : List Pth), vs = [v, u] ∧ IsM C H v qs ∧
  ((∃ p, IsP H u p ∧ OkP p ∧ p ≠ [] ∧ ∀ H2, Kp T0 H H2 → Q (.bl (coversP qs p)) H2) ∨ spIsRow K [u] H (fun r H2 => r = .bl false ∧ Q (.bl false) H2) E)

/-! ### a new mask -/
theorem Kp.made {H H2 : Hp} {x dx C : Addr} (nx : H x = none) (nd : H dx = none) (k : Kp (fun b => b = x) (upd (upd H dx (.own x)) x (.ins C dx [])) H2) : Kp T0 H H2 := by
  intro b o _ e
  have nb : b ≠ x := ne_of_none e nx
  refine k b o nb ?_
  rw [upd_ne nb, upd_ne (ne_of_none e nd)]
  exact e
theorem Kp.mk {H : Hp} {x dx C : Addr} (nx : H x = none) (nd : H dx = none) : Kp T0 H (upd (upd H dx (.own x)) x (.ins C dx [])) := ((Kp.refl H).over nd).over nx
theorem putF_nil (f : Str) (v : V) : putF f v [] = [(f, v)] := rfl
theorem sqL_at {K : PySem.W.Frag} {T : Addr → Prop} {H H2 : Hp} {a : Addr} {xs : List V} (h : SqL K H a xs) (k : Kp T H H2) (n : ¬ T a) : SqL K H2 a xs :=
  h.imp (fun h => h.imp (fun h => k a _ n h) fun ⟨o, h⟩ => ⟨o, k a _ n h⟩) id
theorem sqT_at {K : PySem.W.Frag} {T : Addr → Prop} {H H2 : Hp} {a : Addr} {xs : List V} (h : SqT K H a xs) (k : Kp T H H2) (n : ¬ T a) : SqT K H2 a xs :=
  h.imp (fun h => h.imp (fun h => k a _ n h) fun ⟨o, h⟩ => ⟨o, k a _ n h⟩) id
/-- a for over a list or a tuple -/
theorem for_seq {K : PySem.W.Frag} {T : Addr → Prop} {i1 : Nat} {a : Addr} {xs : List V} {g : TG} {tb : TS} {D : Ends} {st : L2.St} {H : Hp} (hv : st[i1]? = some (some (.ref a))) (hq : SqL K H a xs ∨ SqT K H a xs) (hT : ¬ T a)
    (Pv : Nat → L2.St → Hp → Prop) (h0 : Pv 0 st H) (hk : ∀ i s2 H2, Pv i s2 H2 → Kp T H H2)
    (hs : ∀ i x s2 H2, xs[i]? = some x → Pv i s2 H2 → g x s2 H2 fun s3 H3 => tb { D with nx := Pv (i + 1), ct := Pv (i + 1), bk := D.nx } s3 H3) (hd : ∀ s2 H2, Pv xs.length s2 H2 → D.nx s2 H2) :
    tFor (fun st H R => iList K (tVar i1) st H R ∨ iTup K (tVar i1) st H R) g tb D st H := by
  rcases hq with h | h
  · refine .inl ⟨_, hv, a, rfl, ⟨xs, h⟩, for_it walk_list Pv h0 (fun i s2 H2 _ p => sqL_at h (hk i s2 H2 p) hT) (fun i x s2 H2 H3 hi p y => ?_) hd⟩
    obtain ⟨rfl, y⟩ := y
    exact hs i x s2 H3 y p
  · refine .inr ⟨_, hv, a, rfl, ⟨xs, h⟩, for_it walk_tup Pv h0 (fun i s2 H2 _ p => sqT_at h (hk i s2 H2 p) hT) (fun i x s2 H2 H3 hi p y => ?_) hd⟩
    obtain ⟨rfl, y⟩ := y
    exact hs i x s2 H3 y p
/-- a path is a row -/
theorem row_of {K : PySem.W.Frag} {H : Hp} {v : V} {p : Pth} {Q : VK} {E : XK} (h : IsP H v p) (o : OkP p) (n : p ≠ []) (q : ∀ H2, Kp T0 H H2 → Q (.bl true) H2) : spIsRow K [v] H Q E := by
  obtain ⟨a, rfl, h⟩ := h
  refine ⟨_, true, rfl, .inl ⟨a, _, _, _, rfl, h, o.1.items, dp_strs p, lay_dP o, ?_, ?_⟩, q⟩
  · rw [List.length_map, sizeLine_eq]
    have := o.2
    omega
  · cases p with
    | nil => exact absurd rfl n
    | cons x p =>
      symm
      show (true && List.all _ id) = true
      rw [Bool.true_and, List.all_map, List.all_eq_true]
      exact fun _ _ => rfl
end Gk
/-! Gk8: the laws' tape of draws. -/
namespace Gk
open PySem PySem.Spec PyProof.Rows L2

def kD : L2.Key := .inr "digits"
def kX : L2.Key := .inr "mixed"
def tapeL (d m : Int) : List (L2.Key × V) := [(kD, .int d), (kX, .int m)]
structure TapeOk (d m : Int) : Prop where
  d0 : 0 ≤ d
  db : nbits d ≤ 2097152
  m0 : 0 ≤ m
  m1 : m < 4294967296
def TapeAt (H : Hp) (t : Addr) : Prop := ∃ d m, H t = some (.dK (tapeL d m)) ∧ TapeOk d m
abbrev At (t : Addr) : Addr → Prop := fun b => b = t
theorem key_ne : ¬ (kX = kD) := by decide +kernel
theorem tape_d (d m : Int) : valV (tapeL d m) kD = some (.int d) := by
  unfold valV tapeL
  have e : (fun kv : L2.Key × V => decide (kv.1 = kD)) (kD, V.int d) = true := decide_eq_true rfl
  rw [List.find?_cons_of_pos (p := fun kv : L2.Key × V => decide (kv.1 = kD)) e]
  rfl
theorem tape_x (d m : Int) : valV (tapeL d m) kX = some (.int m) := by
  unfold valV tapeL
  have e1 : ¬ (fun kv : L2.Key × V => decide (kv.1 = kX)) (kD, V.int d) = true := fun z => key_ne (of_decide_eq_true z).symm
  have e2 : (fun kv : L2.Key × V => decide (kv.1 = kX)) (kX, V.int m) = true := decide_eq_true rfl
  rw [List.find?_cons_of_neg (p := fun kv : L2.Key × V => decide (kv.1 = kX)) e1, List.find?_cons_of_pos (p := fun kv : L2.Key × V => decide (kv.1 = kX)) e2]
  rfl
theorem put_d (d m x : Int) : putK (tapeL d m) kD (.int x) = tapeL x m := by
  unfold putK tapeL
  rw [if_pos (by rw [List.any_cons, decide_eq_true rfl] <;> rfl)]
  show [if kD = kD then (kD, V.int x) else _, if kX = kD then (kX, V.int x) else (kX, V.int m)] = _
  rw [if_pos rfl, if_neg key_ne]
theorem put_x (d m x : Int) : putK (tapeL d m) kX (.int x) = tapeL d x := by
  unfold putK tapeL
  rw [if_pos (by rw [List.any_cons, List.any_cons, decide_eq_true (show kX = kX from rfl), Bool.true_or, Bool.or_true])]
  show [if kD = kX then (kD, V.int x) else (kD, V.int d), if kX = kX then (kX, V.int x) else _] = _
  rw [if_neg (fun z : kD = kX => key_ne z.symm), if_pos rfl]
theorem merge_tape (d m : Int) : mergeK [] [(kD, .int d), (kX, .int m)] = tapeL d m := by
  unfold mergeK
  show putK (putK [] kD (.int d)) kX (.int m) = _
  have e1 : putK [] kD (V.int d) = [(kD, .int d)] := rfl
  rw [e1]
  unfold putK
  rw [if_neg (by rw [List.any_cons, decide_eq_false (fun z : kD = kX => key_ne z.symm)]; exact Bool.false_ne_true)]
  rfl

/-! ### numbers -/
theorem bits_small {x : Int} {k : Nat} (h : x.natAbs < 2 ^ k) : nbits x ≤ k := intBits_le_iff.mpr h
theorem bits_lt {x : Int} {k : Nat} (h : nbits x ≤ k) : x.natAbs < 2 ^ k := intBits_le_iff.mp h
theorem tape_step {m c : Int} (h0 : 0 ≤ m) (h1 : m < 4294967296) (hc : nbits c ≤ 1048576) : nbits (m * 30011 + c * c + 7) ≤ 2097160 := by
  have a1 : nbits (m * 30011) ≤ 47 := intBits_mul_le (bits_small (k := 32) (by omega)) (bits_small (k := 15) (by decide))
  have a2 : nbits (c * c) ≤ 2097152 := intBits_mul_le hc hc
  have a3 := intBits_add_le a1 a2
  have a4 : nbits (7 : Int) ≤ 3 := bits_small (by decide)
  exact Nat.le_trans (intBits_add_le a3 a4) (by decide)

theorem well_step {m c : Int} (h0 : 0 ≤ m) (h1 : m < 4294967296) (hc : nbits c ≤ 1048576) : nbits (m * 70121 + c * c + 41) ≤ 2097160 := by
  have a1 : nbits (m * 70121) ≤ 49 := intBits_mul_le (bits_small (k := 32) (by omega)) (bits_small (k := 17) (by decide))
  have a2 : nbits (c * c) ≤ 2097152 := intBits_mul_le hc hc
  have a4 : nbits (41 : Int) ≤ 6 := bits_small (by decide)
  exact Nat.le_trans (intBits_add_le (intBits_add_le a1 a2) a4) (by decide)

/-! ### what is promised of the tape's functions -/
def spTape (K : PySem.W.Frag) : Sp := fun vs H Q _ => ∃ (a : Addr) (ns : List Int) (start : Int), vs = [.ref a, .int start] ∧ SqL K H a (ns.map V.int) ∧ ns.length ≤ 63 ∧ (∀ z ∈ ns, nbits z ≤ 1048576) ∧ 0 ≤ start ∧ start ≤ 63 ∧
  ∀ t d m, H t = none → TapeOk d m → Q (.ref t) (upd H t (.dK (tapeL d m)))
def spPick : Sp := fun vs H Q _ => ∃ (t : Addr) (n : Int), vs = [.ref t, .int n] ∧ TapeAt H t ∧ 1 ≤ n ∧ n ≤ 1048576 ∧ ∀ H2 r, Kp (At t) H H2 → TapeAt H2 t → 0 ≤ r → r < n → Q (.int r) H2
def spOneOf (K : PySem.W.Frag) : Sp := fun vs H Q _ => ∃ (t l : Addr) (xs : List V), vs = [.ref t, .ref l] ∧ TapeAt H t ∧ SqL K H l xs ∧ 1 ≤ xs.length ∧ xs.length ≤ 1048576 ∧ ∀ H2 x, Kp (At t) H H2 → TapeAt H2 t → x ∈ xs → Q x H2
/-- a drawn path -/
def Drawn (NM : List Str) (p : Pth) : Prop := 1 ≤ p.length ∧ p.length ≤ 3 ∧ ∀ x ∈ p, x ∈ NM
def spPath (NM : List Str) : Sp := fun vs H Q _ => ∃ (t : Addr), vs = [.ref t] ∧ TapeAt H t ∧ ∀ H2 v p, Kp (At t) H H2 → TapeAt H2 t → IsP H2 v p → Drawn NM p → Q v H2
def spDrawn (NM : List Str) : Sp := fun vs H Q _ => ∃ (t : Addr), vs = [.ref t] ∧ TapeAt H t ∧ ∀ H2 l ys ps, Kp (At t) H H2 → TapeAt H2 t → H l = none → H2 l = some (.lst ys) → Ps H2 ys ps → ys.length ≤ 6 → (∀ p ∈ ps, Drawn NM p) → Q (.ref l) H2
theorem tape_ne {H : Hp} {t l : Addr} (h : TapeAt H t) {xs : List V} (s : H l = some (.lst xs)) : ¬ At t l := by
  intro e
  obtain ⟨d, m, z, _⟩ := h
  rw [show l = t from e, z] at s
  cases s
theorem tape_fresh {H : Hp} {t l : Addr} (h : TapeAt H t) (s : H l = none) : ¬ At t l := by
  intro e
  obtain ⟨d, m, z, _⟩ := h
  rw [show l = t from e, z] at s
  cases s
theorem TapeAt.new {H : Hp} {t p : Addr} {o : HO} (h : TapeAt H t) (n : H p = none) : TapeAt (upd H p o) t := by
  obtain ⟨d, m, z, k⟩ := h
  exact ⟨d, m, (upd_ne (ne_of_none z n)).trans z, k⟩
theorem TapeAt.over {H : Hp} {t p : Addr} {o : HO} (h : TapeAt H t) (n : ¬ At t p) : TapeAt (upd H p o) t := by
  obtain ⟨d, m, z, k⟩ := h
  exact ⟨d, m, (upd_ne (fun e => n e.symm)).trans z, k⟩
theorem TapeAt.keep {H H2 : Hp} {t : Addr} (h : TapeAt H t) (k : Kp T0 H H2) : TapeAt H2 t := by
  obtain ⟨d, m, z, q⟩ := h
  exact ⟨d, m, k.at0 z, q⟩
theorem TapeAt.loose {H : Hp} {t : Addr} (h : TapeAt H t) : Loose (At t) H := by
  intro a o e q
  obtain ⟨d, m, z, _⟩ := h
  rw [show a = t from e, z] at q
  cases q
  exact ⟨(fun _ e => nomatch e), fun _ _ _ e => nomatch e⟩
theorem sqL_tape {K : PySem.W.Frag} {H H2 : Hp} {t l : Addr} {xs : List V} (h : TapeAt H t) (s : SqL K H l xs) (k : Kp (At t) H H2) : SqL K H2 l xs := by
  rcases s with (s | ⟨o, s⟩) | s
  · refine .inl (.inl (k l _ (fun e => ?_) s))
    obtain ⟨d, m, z, _⟩ := h
    rw [show l = t from e, z] at s
    cases s
  · refine .inl (.inr ⟨o, k l _ (fun e => ?_) s⟩)
    obtain ⟨d, m, z, _⟩ := h
    rw [show l = t from e, z] at s
    cases s
  · exact .inr s
theorem Ps.tape {H H2 : Hp} {t : Addr} {vs : List V} {ps : List Pth} (h : Ps H vs ps) (k : Kp (At t) H H2) (ta : TapeAt H t) : Ps H2 vs ps := h.keep k fun a o e q => (ta.loose a o e q).1
theorem IsM.tape {H H2 : Hp} {t C : Addr} {v : V} {qs : List Pth} (h : IsM C H v qs) (k : Kp (At t) H H2) (ta : TapeAt H t) : IsM C H2 v qs := h.keep k ta.loose
/-- drawn paths are right ones -/
theorem drawn_ok {NM : List Str} (hn : NM.all isNm = true) {p : Pth} (h : Drawn NM p) : OkP p ∧ p ≠ [] := by
  obtain ⟨h1, h3, hm⟩ := h
  refine ⟨⟨fun x hx => List.all_eq_true.mp hn x (hm x hx), by omega⟩, fun e => ?_⟩
  rw [e] at h1
  exact absurd h1 (by decide)
theorem dget_d {H : Hp} {t : Addr} {d m : Int} (h : H t = some (.dK (tapeL d m))) : DGet H t (.str "digits") (some (.int d)) := by
  rw [← tape_d d m]
  exact DGet.k (k := kD) h
theorem dget_x {H : Hp} {t : Addr} {d m : Int} (h : H t = some (.dK (tapeL d m))) : DGet H t (.str "mixed") (some (.int m)) := by
  rw [← tape_x d m]
  exact DGet.k (k := kX) h
theorem dput_d {H : Hp} {t : Addr} {d m : Int} (h : H t = some (.dK (tapeL d m))) (x : Int) : DPut H t (.str "digits") (.int x) (upd H t (.dK (tapeL x m))) := by
  rw [← put_d d m x]
  exact DPut.k (k := kD) h (by show 2 < sizeLine; rw [sizeLine_eq]; decide)
theorem dput_x {H : Hp} {t : Addr} {d m : Int} (h : H t = some (.dK (tapeL d m))) (x : Int) : DPut H t (.str "mixed") (.int x) (upd H t (.dK (tapeL d x))) := by
  rw [← put_x d m x]
  exact DPut.k (k := kX) h (by show 2 < sizeLine; rw [sizeLine_eq]; decide)
theorem TapeAt.put {H : Hp} {t : Addr} {d m : Int} (o : TapeOk d m) : TapeAt (upd H t (.dK (tapeL d m))) t := ⟨d, m, upd_same, o⟩
/-- what a law promises -/
def spLaw (K : PySem.W.Frag) : Sp := fun vs H Q _ => ∃ (a : Addr) (ns : List Int), vs = [.ref a] ∧ SqL K H a (ns.map V.int) ∧ ns.length ≤ 63 ∧ (∀ z ∈ ns, nbits z ≤ 1048576) ∧ ∀ H2, Q (.bl true) H2
end Gk
/-! Gk9: len of an own instance, properties. -/
namespace Gk
open PySem PySem.Spec PyProof.Rows L2
/-- len(o), o of a class that defines it -/
def rLenOwn (C : Addr) (sp : Sp) : List V → Hp → VK → Prop := fun xs H Q => ∃ (a dx : Addr) (fs : List (Str × V)), xs = [.ref a] ∧ H a = some (.ins C dx fs) ∧ sp [.ref a] H (fun r H2 => ∃ n : Int, r = .int n ∧ 0 ≤ n ∧ n < 2 ^ 63 ∧ Q (.int n) H2) E0
theorem call_lenOwn {X : Cx} {C f : Addr} {k : Nat} {ps : List Str} {sp : Sp} (D : Dm X.prog X.w X.K X.mg X.base C k "__len__" f ps sp) (hr : Room (k + 1) X.A) : CallR X (.builtin "len") (rLenOwn C sp) := by
  intro pins s σ H xs us Q I r h
  obtain ⟨a, dx, fs, rfl, ha, h⟩ := h
  obtain ⟨u, rfl, ru⟩ := vals1 r
  cases ru
  obtain ⟨fd, F, hb⟩ := D.ex
  obtain ⟨mA, J, _⟩ := ins_get I.hok ha
  obtain ⟨od, J, _⟩ := J.look
  obtain ⟨m, hF⟩ := I.fr
  refine PySem.W.len_K hF I.ok.mod.kin J D.me.at_ D.me.fn ?_
  refine thn (run_below (A := X.A.in1) F rfl hr.in1 hb pass0 I (show Vals [V.ref a] [Value.ref a] from .cons rfl .nil) h) fun u2 s2 q => ?_
  obtain ⟨z, H2, I2, rz, n, rfl, n0, n1, q2⟩ := q
  obtain ⟨t, rfl⟩ := (show ∃ t, u2 = Value.int n t from rz)
  exact ⟨⟨n0, n1⟩, .int n, H2, I2.tok _, ⟨_, rfl⟩, q2⟩
/-- a property and its promise -/
structure Pr (P : Program) (w : World) (K : PySem.W.Frag) (mg : Str → Option Value) (base : Heap) (C : Addr) (k : Nat) (m : Str) (sp : Sp) : Prop where
  ex : ∃ p g fd, PropOf K C m p g ∧ FnOk P w K mg base CX0 k g fd ["self"] sp ∧ Binds K fd ["self"] []
theorem pe_pr {X : Cx} {C : Addr} {k : Nat} {m : Str} {sp : Sp} {e : Expr} {pos : Pos} {ta : TE} (he : PE X e ta) (c : Cls X.K C) (D : Pr X.prog X.w X.K X.mg X.base C k m sp) (hr : Room (k + 1) X.A)
    (hab : attributeBase e m X.env (eval e X.env) = eval e X.env := by rfl) : PE X (.Attribute e m pos) (tProp C sp [] E0 ta) := by
  obtain ⟨p, g, fd, hp, F, b⟩ := D.ex
  exact pe_prop he c hp F hr b .nil pass0 hab
end Gk
/-! Gk10: readings of the masks' operators; what the laws want of covering. -/
namespace Gk
open PySem PySem.Spec PyProof.Rows L2
section
variable {K : PySem.W.Frag} {C : Addr} {H : Hp} {v u : V} {qs rs : List Pth} {Q : VK} {E : XK}
theorem IsM.ins (h : IsM C H v qs) : ∃ x dx r, v = .ref x ∧ H x = some (.ins C dx [("rows", .ref r)]) := by
  obtain ⟨x, dx, r, _, e, hx, _⟩ := h
  exact ⟨x, dx, r, e, hx⟩
theorem rd_and (i : IsM C H v qs) (j : IsM C H u rs) (lm : qs.length + rs.length ≤ MOST) (k : ∀ H2 z ts, Kp T0 H H2 → IsM C H2 z ts → ts.length ≤ qs.length + rs.length → Canon (bothP qs rs) ts → Q z H2) : rOwn C (spAndM C) E v u H Q := by
  obtain ⟨x, dx, r, rfl, hx⟩ := i.ins
  obtain ⟨y, dy, t, rfl, hy⟩ := j.ins
  exact ⟨x, y, dx, dy, _, _, rfl, rfl, hx, hy, _, _, qs, rs, rfl, i, j, lm, k⟩
theorem rd_or (i : IsM C H v qs) (j : IsM C H u rs) (lm : qs.length + rs.length ≤ MOST) (k : ∀ H2 z ts, Kp T0 H H2 → IsM C H2 z ts → ts.length ≤ qs.length + rs.length → Canon (qs ++ rs) ts → Q z H2) : rOwn C (spOrM C) E v u H Q := by
  obtain ⟨x, dx, r, rfl, hx⟩ := i.ins
  obtain ⟨y, dy, t, rfl, hy⟩ := j.ins
  exact ⟨x, y, dx, dy, _, _, rfl, rfl, hx, hy, _, _, qs, rs, rfl, i, j, lm, k⟩
theorem rd_eq (i : IsM C H v qs) (j : IsM C H u rs) (k : Q (.bl (decide (qs = rs))) H) : rOwn C (spEqM C) E v u H Q := by
  obtain ⟨x, dx, r, rfl, hx⟩ := i.ins
  obtain ⟨y, dy, t, rfl, hy⟩ := j.ins
  exact ⟨x, y, dx, dy, _, _, rfl, rfl, hx, hy, _, _, qs, rs, rfl, i, j, k⟩
theorem rd_ne (i : IsM C H v qs) (j : IsM C H u rs) (k : Q (.bl (!decide (qs = rs))) H) : rOwnNe C (spEqM C) E v u H Q := by
  obtain ⟨x, dx, r, rfl, hx⟩ := i.ins
  obtain ⟨y, dy, t, rfl, hy⟩ := j.ins
  exact ⟨x, y, dx, dy, _, _, rfl, rfl, hx, hy, _, _, qs, rs, rfl, i, j, _, rfl, k⟩
theorem rd_m {m : Str} {R : Prop} (i : IsM C H v qs) (n : (m == ("rows" : Str)) = false) (k : R) : ∃ a dx fs, v = .ref a ∧ H a = some (.ins C dx fs) ∧ fs.lookup m = none ∧ R := by
  obtain ⟨x, dx, r, rfl, hx⟩ := i.ins
  refine ⟨x, dx, _, rfl, hx, ?_, k⟩
  rw [List.lookup_cons, n]
  rfl
theorem rd_within (i : IsM C H v qs) (j : IsM C H u rs) (k : ∀ H2, Kp T0 H H2 → Q (.bl (withinP qs rs)) H2) : spWithinM C [v, u] H Q E := ⟨v, u, qs, rs, rfl, i, j, k⟩
theorem rd_in {p : Pth} {b : Bool} (i : IsM C H v qs) (ip : IsP H u p) (o : OkP p ∧ p ≠ []) (k : ∀ H2, Kp T0 H H2 → Q (.bl (if b then !coversP qs p else coversP qs p)) H2) : rOwnIn C (spInM K C) E b u v H Q := by
  obtain ⟨x, dx, r, rfl, hx⟩ := i.ins
  exact ⟨x, dx, _, rfl, hx, _, _, qs, rfl, i, .inl ⟨p, ip, o.1, o.2, fun H2 k2 => ⟨_, rfl, k H2 k2⟩⟩⟩
theorem rd_len (i : IsM C H v qs) (k : Q (.int (qs.length : Nat)) H) : rLenOwn C (spLenM C) [v] H Q := by
  have l := i.len
  obtain ⟨x, dx, r, rfl, hx⟩ := i.ins
  refine ⟨x, dx, _, rfl, hx, _, qs, rfl, i, _, rfl, Int.natCast_nonneg _, ?_, k⟩
  have : MOST = 100000 := rfl
  omega
theorem rd_paths (i : IsM C H v qs) (k : ∀ l ys, H l = none → Ps H ys qs → Q (.ref l) (upd H l (.lst ys))) : ∃ a dx fs, v = .ref a ∧ H a = some (.ins C dx fs) ∧ spPathsM C (.ref a :: []) H Q E := by
  obtain ⟨x, dx, r, rfl, hx⟩ := i.ins
  exact ⟨x, dx, _, rfl, hx, _, qs, rfl, i, k⟩
end
/-! ### the tape's changes seen from outside -/
theorem Kp.tape {H H2 : Hp} {t : Addr} {o : HO} (n : H t = none) (k : Kp (At t) (upd H t o) H2) : Kp T0 H H2 := by
  intro b x _ e
  have nb : b ≠ t := ne_of_none e n
  exact k b x nb (by rw [upd_ne nb]; exact e)
theorem sqp_drawn {K : PySem.W.Frag} {H : Hp} {l : Addr} {ys : List V} {ps : List Pth} {NM : List Str} (hn : NM.all isNm = true) (d : H l = some (.lst ys)) (hp : Ps H ys ps) (o : ∀ p ∈ ps, Drawn NM p) : SqP K H l ys ps :=
  ⟨.inl (SqL.of d), hp, fun p h => drawn_ok hn (o p h)⟩

/-! ### covering -/
def CM (qs : List Pth) : Prop := ∃ ps, Canon ps qs
theorem Canon.cm {ps qs : List Pth} (c : Canon ps qs) : CM qs := ⟨ps, c⟩
theorem cm_ext {qs rs : List Pth} (a : CM qs) (b : CM rs) (h : ∀ x, coversP qs x = coversP rs x) : qs = rs := by
  obtain ⟨_, c⟩ := a
  obtain ⟨_, d⟩ := b
  exact canon_ext c d h
theorem cov_and {qs rs ts : List Pth} (c : Canon (bothP qs rs) ts) (x : Pth) : coversP ts x = (coversP qs x && coversP rs x) := (c.covers x).trans (covers_both qs rs x)
theorem cov_or {qs rs ts : List Pth} (c : Canon (qs ++ rs) ts) (x : Pth) : coversP ts x = (coversP qs x || coversP rs x) := (c.covers x).trans (covers_app qs rs x)
theorem bool_ext {a b : Bool} (h : a = true ↔ b = true) : a = b := by
  cases a <;> cases b <;> simp_all
theorem within_or {qs rs ts : List Pth} (c : Canon (qs ++ rs) ts) (b : CM rs) : withinP qs rs = decide (ts = rs) := by
  refine bool_ext ?_
  rw [within_iff, decide_eq_true_eq]
  constructor
  · intro h
    refine cm_ext c.cm b fun x => ?_
    rw [cov_or c]
    cases e : coversP qs x with
    | false => rfl
    | true => rw [h x e]; rfl
  · intro h x hx
    rw [← h, cov_or c, hx]
    rfl
theorem within_and {qs rs ts : List Pth} (c : Canon (bothP qs rs) ts) (a : CM qs) : withinP qs rs = decide (ts = qs) := by
  refine bool_ext ?_
  rw [within_iff, decide_eq_true_eq]
  constructor
  · intro h
    refine cm_ext c.cm a fun x => ?_
    rw [cov_and c]
    cases e : coversP qs x with
    | false => rfl
    | true => rw [h x e]; rfl
  · intro h x hx
    rw [← h, cov_and c] at hx
    exact (Bool.and_eq_true_iff.mp hx).2
theorem eq_within {qs rs : List Pth} (a : CM qs) (b : CM rs) : decide (qs = rs) = (withinP qs rs && withinP rs qs) := by
  refine bool_ext ?_
  rw [Bool.and_eq_true, within_iff, within_iff, decide_eq_true_eq]
  constructor
  · rintro rfl
    exact ⟨fun _ h => h, fun _ h => h⟩
  · rintro ⟨h, g⟩
    exact cm_ext a b fun x => bool_ext ⟨h x, g x⟩
theorem within_cov {qs rs : List Pth} (h : ∀ x, coversP qs x = true → coversP rs x = true) : withinP qs rs = true := within_iff.mpr h
/-- some of a mask's paths are a mask -/
theorem canon_filter {ps qs : List Pth} (c : Canon ps qs) (f : Pth → Bool) : Canon (qs.filter f) (qs.filter f) := by
  refine ⟨c.asc.filter _, fun q => ⟨fun h => ⟨h, fun g hg ne => ?_⟩, fun h => h.1⟩⟩
  cases e : beginsP q g with
  | false => rfl
  | true => exact absurd (c.anti (List.mem_filter.mp h).1 (List.mem_filter.mp hg).1 e) ne
/-- a mask without one of its paths -/
theorem less_cov {ps qs : List Pth} (c : Canon ps qs) {p : Pth} (hp : p ∈ qs) : coversP (qs.filter fun q => !decide (q = p)) p = false := by
  refine covers_false.mpr fun f hf => ?_
  obtain ⟨mf, e⟩ := List.mem_filter.mp hf
  cases b : beginsP p f with
  | false => rfl
  | true =>
    rw [c.anti hp mf b] at e
    simp at e
theorem less_len : ∀ {qs : List Pth} {p : Pth}, Asc qs → p ∈ qs → (qs.filter fun q => !decide (q = p)).length + 1 = qs.length
  | q :: qs, p, a, h => by
    have a2 := List.Pairwise.of_cons a
    have a1 : ∀ {r : Pth}, r ∈ qs → ltP q r = true := fun m => List.rel_of_pairwise_cons a m
    by_cases e : q = p
    · subst e
      have n : q ∉ qs := fun m => by
        have l := a1 m
        rw [ltP_irrefl] at l
        cases l
      have f : (qs.filter fun r => !decide (r = q)) = qs := List.filter_eq_self.mpr fun r hr => by
        rw [decide_eq_false (fun z => n (by rw [← z]; exact hr))]
        rfl
      rw [List.filter_cons_of_neg (by rw [decide_eq_true rfl]; exact Bool.false_ne_true), f]
      rfl
    · have m : p ∈ qs := (List.mem_cons.mp h).resolve_left fun z => e z.symm
      rw [List.filter_cons_of_pos (by rw [decide_eq_false e]; rfl), List.length_cons, List.length_cons, less_len a2 m]
/-! ### rows of masks -/
/-- small masks -/
abbrev Ms (C : Addr) (H : Hp) : List V → List (List Pth) → Prop := Paired fun v qs => IsM C H v qs ∧ qs.length ≤ 6
theorem Ms.keep {T : Addr → Prop} {C : Addr} {H H2 : Hp} {vs : List V} {qss : List (List Pth)} (h : Ms C H vs qss) (k : Kp T H H2) (hT : Loose T H) : Ms C H2 vs qss := Paired.mapP h fun _ _ z => ⟨z.1.keep k hT, z.2⟩
theorem Ms.keep0 {C : Addr} {H H2 : Hp} {vs : List V} {qss : List (List Pth)} (h : Ms C H vs qss) (k : Kp T0 H H2) : Ms C H2 vs qss := h.keep k (loose0 H)
theorem Ms.snoc {C : Addr} {H : Hp} : ∀ {vs : List V} {qss : List (List Pth)} {v : V} {qs : List Pth}, Ms C H vs qss → IsM C H v qs → qs.length ≤ 6 → Ms C H (vs ++ [v]) (qss ++ [qs])
  | _, _, _, _, .nil, h, l => .cons ⟨h, l⟩ .nil
  | _, _, _, _, .cons r t, h, l => .cons r (Ms.snoc t h l)
theorem Ms.get {C : Addr} {H : Hp} : ∀ {vs : List V} {qss : List (List Pth)} {i : Nat} {v : V}, Ms C H vs qss → vs[i]? = some v → ∃ qs, IsM C H v qs ∧ qs.length ≤ 6
  | _, _, _, _, .nil, e => nomatch e
  | _, _, 0, _, .cons r _, e => by
    cases Option.some.inj e
    exact ⟨_, r⟩
  | _, _, _ + 1, _, .cons _ t, e => Ms.get t e
theorem Ms.three {C : Addr} {H : Hp} {vs : List V} {qss : List (List Pth)} (h : Ms C H vs qss) (l : vs.length = 3) :
    ∃ x y z q r s, vs = [x, y, z] ∧ (IsM C H x q ∧ q.length ≤ 6) ∧ (IsM C H y r ∧ r.length ≤ 6) ∧ (IsM C H z s ∧ s.length ≤ 6) := by
  match vs, qss, h, l with
  | [x, y, z], _, .cons a (.cons b (.cons c .nil)), _ => exact ⟨x, y, z, _, _, _, rfl, a, b, c⟩
theorem loose_lst {H : Hp} {D : Addr} {xs : List V} (d : H D = some (.lst xs)) : Loose (At D) H := by
  intro a o e q
  rw [show a = D from e, d] at q
  cases q
  exact ⟨(fun _ e => nomatch e), fun _ _ _ e => nomatch e⟩
theorem clamp {lo hi : Int} (h : lo ≤ hi) (n : Nat) : lo ≤ (if (if (n : Int) < hi then (n : Int) else hi) > lo then (if (n : Int) < hi then (n : Int) else hi) else lo) ∧ (if (if (n : Int) < hi then (n : Int) else hi) > lo then (if (n : Int) < hi then (n : Int) else hi) else lo) ≤ hi := by
  constructor
  · split
    · omega
    · omega
  · split
    · split <;> omega
    · omega
theorem less_within (qs : List Pth) (f : Pth → Bool) : withinP (qs.filter f) qs = true := within_cov fun x h => by
  obtain ⟨g, mg, b⟩ := covers_iff.mp h
  exact covers_iff.mpr ⟨g, (List.mem_filter.mp mg).1, b⟩
theorem cov_mem {qs : List Pth} {p : Pth} (h : p ∈ qs) : coversP qs p = true := covers_iff.mpr ⟨p, h, begins_self p⟩
theorem not_within {qs rs : List Pth} {p : Pth} (h : p ∈ qs) (n : coversP rs p = false) : withinP qs rs = false := by
  cases e : withinP qs rs with
  | false => rfl
  | true => rw [within_iff.mp e p (cov_mem h)] at n; cases n
end Gk
/-! Gk11: repr of True and False; values that are no rows. -/
namespace Gk
open PySem PySem.Spec PyProof.Rows L2
def boolS (b : Bool) : Str := if b then "True" else "False"
theorem call_repr_bool {X : Cx} : CallR X (.builtin "repr") (fun xs H Q => ∃ b, xs = [.bl b] ∧ Q (.str (boolS b)) H) := by
  intro pins s σ H xs us Q I r h
  obtain ⟨b, rfl, q⟩ := h
  obtain ⟨u, rfl, ru⟩ := vals1 r
  cases ru
  refine PySem.P.repr_of_bool ⟨.str (boolS b), H, I.tok _, ⟨s.toks, ?_⟩, q⟩
  cases b <;> rfl
/-- a value that is no row -/
def OddV (K : PySem.W.Frag) (H : Hp) (v : V) : Prop := (∃ (a : Addr) (xs : List V) (rs : List Bool) (ds : List PyData), v = .ref a ∧ H a = some (.tup xs) ∧ Paired (ItN K H) xs rs ∧ DpAll K H xs ds ∧ (PyData.tuple ds).canLay0 = true ∧ xs.length < sizeLine ∧ false = (!xs.isEmpty && rs.all id)) ∨ NoTup K H v
theorem OddV.keep0 {K : PySem.W.Frag} {H H2 : Hp} {v : V} (h : OddV K H v) (k : Kp T0 H H2) : OddV K H2 v := by
  rcases h with ⟨a, xs, rs, ds, e, ha, hp, hd, c, l, b⟩ | h
  · exact .inl ⟨a, xs, rs, ds, e, k.at0 ha, Paired.mapP hp fun _ _ z => z.keep0 k, dpAll_keep hd k, c, l, b⟩
  · exact .inr (h.keep0 k)
theorem rd_odd {K : PySem.W.Frag} {C : Addr} {H : Hp} {v u : V} {qs : List Pth} {Q : VK} {E : XK} (i : IsM C H v qs) (o : OddV K H u) (k : ∀ H2, Kp T0 H H2 → Q (.bl false) H2) : rOwnIn C (spInM K C) E false u v H Q := by
  obtain ⟨x, dx, r, rfl, hx⟩ := i.ins
  refine ⟨x, dx, _, rfl, hx, _, _, qs, rfl, i, .inr ⟨u, false, rfl, ?_, fun H2 k2 => ⟨rfl, _, rfl, k H2 k2⟩⟩⟩
  rcases o with ⟨a, xs, rs, ds, e, ha, hp, hd, c, l, b⟩ | o
  · exact .inl ⟨a, xs, rs, ds, e, ha, hp, hd, c, l, b⟩
  · exact .inr ⟨o, rfl⟩
/-- rows of values that are no rows -/
inductive Odds (K : PySem.W.Frag) (H : Hp) : List V → Prop
  | nil : Odds K H []
  | cons {v : V} {vs : List V} : OddV K H v → Odds K H vs → Odds K H (v :: vs)
theorem Odds.get {K : PySem.W.Frag} {H : Hp} : ∀ {vs : List V} {i : Nat} {v : V}, Odds K H vs → vs[i]? = some v → OddV K H v
  | _, _, _, .nil, e => nomatch e
  | _, 0, _, .cons h _, e => by
    cases Option.some.inj e
    exact h
  | _, _ + 1, _, .cons _ t, e => Odds.get t e
/-- a nested tuple around the text a -/
def Nest (H : Hp) : Nat → V → Prop
  | 0, v => v = .str "a"
  | n + 1, v => ∃ (a : Addr) (x : V), v = .ref a ∧ H a = some (.tup [x]) ∧ Nest H n x
def dNest : Nat → PyData
  | 0 => .str "a"
  | n + 1 => .tuple [dNest n]
theorem Nest.keep0 {H H2 : Hp} (k : Kp T0 H H2) : ∀ {n : Nat} {v : V}, Nest H n v → Nest H2 n v
  | 0, _, h => h
  | _ + 1, _, ⟨a, x, e, ha, h⟩ => ⟨a, x, e, k.at0 ha, Nest.keep0 k h⟩
theorem Nest.dp {K : PySem.W.Frag} {H : Hp} : ∀ {n : Nat} {v : V}, Nest H n v → Dp K H v (dNest n)
  | 0, _, h => by
    cases h
    exact .str _
  | _ + 1, _, ⟨a, x, e, ha, h⟩ => by
    cases e
    exact .tup (SqT.of ha) (.cons h.dp .nil)
theorem lay_nest : ∀ n : Nat, (dNest n).canLay0 = true
  | 0 => by decide +kernel
  | n + 1 => by
    show (PyData.canLay0 (dNest n) && PyData.canLayAll0 []) = true
    rw [lay_nest n]
    rfl
theorem Nest.odd {K : PySem.W.Frag} {H : Hp} {n : Nat} {v : V} (h : Nest H (n + 2) v) : OddV K H v := by
  obtain ⟨a, x, e, ha, h⟩ := h
  obtain ⟨b, y, e2, hb, h2⟩ := id h
  refine .inl ⟨a, [x], [false], [dNest (n + 1)], e, ha, .cons (.inr ⟨⟨.type "tuple", ?_, kit_ty (by decide +kernel)⟩, rfl⟩) .nil, .cons h.dp .nil, lay_nest (n + 2), (by show 1 < sizeLine; rw [sizeLine_eq]; decide), rfl⟩
  rw [e2]
  exact .base (.tup hb)
/-- what a law's own list of covering paths tells -/
theorem cov_any (ps : List Pth) (p : Pth) : (!(ps.filter (beginsP p)).isEmpty) = coversP ps p := by
  unfold coversP
  induction ps with
  | nil => rfl
  | cons q ps ih =>
    cases e : beginsP p q with
    | true => rw [List.filter_cons_of_pos e, List.any_cons, e]; rfl
    | false => rw [List.filter_cons_of_neg (by rw [e]; exact Bool.false_ne_true), List.any_cons, e, ih, Bool.false_or]
abbrev dL (ps : List Pth) : PyData := .list (ps.map dP)
theorem shaped_dL {ps : List Pth} (h : ∀ p ∈ ps, OkP p) : SeqAt.shaped (dL ps) = true := shaped_dM h
theorem eqv_dL (ps qs : List Pth) : PyData.eqv (dL ps) (dL qs) = decide (ps = qs) := eqv_paths ps qs
/-- a law's own reading of covering: paths a list -/
def spLCov (K : PySem.W.Frag) : Sp := fun vs H Q _ => ∃ (a : Addr) (xs : List V) (ps : List Pth) (v : V) (p : Pth), vs = [.ref a, v] ∧ SqL K H a xs ∧ Ps H xs ps ∧ xs.length ≤ MOST ∧ (∀ f ∈ ps, OkP f) ∧ IsP H v p ∧ OkP p ∧
  ∀ H2, Kp T0 H H2 → Q (.bl (coversP ps p)) H2
/-! ### paths made longer and shorter -/
theorem rd_catA {K : PySem.W.Frag} {H : Hp} {v : V} {p q : Pth} {b : Addr} {Q : VK} (hv : IsP H v p) (hb : H b = some (.tup (q.map V.str))) (nq : q ≠ []) (l : p.length + q.length ≤ 1000) (k : ∀ c H2, Kp T0 H H2 → IsP H2 (.ref c) (p ++ q) → Q (.ref c) H2) :
    rCatA K v (.ref b) H Q := by
  obtain ⟨a, rfl, ha⟩ := hv
  refine ⟨a, b, _, _, rfl, rfl, SqT.of ha, SqT.of hb, ?_, fun e => ?_, fun _ e => ?_, fun _ _ c hc => ?_⟩
  · rw [List.length_map, List.length_map, sizeLine_eq]
    omega
  · refine k b H (Kp.refl H) ⟨b, rfl, ?_⟩
    rw [hb, List.map_eq_nil_iff.mp e, List.nil_append]
  · exact absurd (List.map_eq_nil_iff.mp e) nq
  · refine k c _ ((Kp.refl H).new hc) ⟨c, rfl, ?_⟩
    rw [upd_same, List.map_append]
theorem cut_init (xs : List V) : cutV xs none (some (-1)) = xs.dropLast := by
  unfold cutV
  rw [HT.sIx_none, List.drop_zero, Nat.sub_zero, List.dropLast_eq_take]
  have e : HT.sIx xs.length xs.length (some (-1)) = ((-1 : Int) + (xs.length : Int)).toNat := rfl
  have e2 : ((-1 : Int) + (xs.length : Int)).toNat = xs.length - 1 := by omega
  rw [e, e2]
theorem rd_init {K : PySem.W.Frag} {H : Hp} {v : V} {p : Pth} {Q : VK} (hv : IsP H v p) (np : p ≠ []) (k : ∀ c H2, Kp T0 H H2 → IsP H2 (.ref c) p.dropLast → Q (.ref c) H2) : rSlA K v none (some (-1)) H Q := by
  obtain ⟨a, rfl, ha⟩ := hv
  refine ⟨a, _, rfl, SqT.of ha, fun z => ?_, fun _ c hc => ?_⟩
  · exfalso
    have z2 := z.2
    have e : HT.sIx (p.map V.str).length (p.map V.str).length (some (-1)) = ((-1 : Int) + ((p.map V.str).length : Int)).toNat := rfl
    rw [e, List.length_map] at z2
    have : p.length ≠ 0 := fun z => np (List.eq_nil_of_length_eq_zero z)
    omega
  · refine k c _ ((Kp.refl H).new hc) ⟨c, rfl, ?_⟩
    rw [upd_same, cut_init, List.map_dropLast]
/-- right paths -/
def Good (p : Pth) : Prop := OkP p ∧ p ≠ []
theorem Good.app {p q : Pth} (h : OkP p) (hq : q.all isNm = true) (nq : q ≠ []) (l : p.length + q.length ≤ 1000) : Good (p ++ q) := by
  refine ⟨⟨fun x hx => ?_, by rw [List.length_append]; exact l⟩, fun e => nq (List.append_eq_nil_iff.mp e).2⟩
  rcases List.mem_append.mp hx with m | m
  · exact h.1 x m
  · exact List.all_eq_true.mp hq x m
theorem OkP.init {p : Pth} (h : OkP p) : OkP p.dropLast := ⟨fun x hx => h.1 x (List.dropLast_subset p hx), Nat.le_trans (by rw [List.length_dropLast]; exact Nat.sub_le _ _) h.2⟩
/-- a list grows by right paths -/
structure Pile (H : Hp) (s : Addr) (n : Nat) : Prop where
  ex : ∃ us rs, H s = some (.lst us) ∧ Ps H us rs ∧ (∀ r ∈ rs, Good r) ∧ us.length ≤ n
theorem Pile.keep0 {H H2 : Hp} {s : Addr} {n : Nat} (h : Pile H s n) (k : Kp T0 H H2) : Pile H2 s n := by
  obtain ⟨us, rs, a, b, c, d⟩ := h.ex
  exact ⟨us, rs, k.at0 a, b.keep0 k, c, d⟩
theorem Pile.more {H : Hp} {s : Addr} {n : Nat} {us : List V} {rs : List Pth} {v : V} {p : Pth} (a : H s = some (.lst us)) (b : Ps H us rs) (c : ∀ r ∈ rs, Good r) (d : us.length ≤ n) (ip : IsP H v p) (g : Good p) : Pile (upd H s (.lst (us ++ [v]))) s (n + 1) := by
  refine ⟨us ++ [v], rs ++ [p], upd_same, (b.snoc ip).keep (T := At s) ((Kp.refl _).put rfl) fun b o e q => (loose_lst a b o e q).1, fun r hr => ?_, by rw [List.length_append]; exact Nat.succ_le_succ d⟩
  rcases List.mem_append.mp hr with m | m
  · exact c r m
  · rw [List.mem_singleton.mp m]
    exact g
theorem Pile.mono {H : Hp} {s : Addr} {n m : Nat} (h : Pile H s n) (l : n ≤ m) : Pile H s m := by
  obtain ⟨us, rs, a, b, c, d⟩ := h.ex
  exact ⟨us, rs, a, b, c, Nat.le_trans d l⟩
end Gk
/-! Gk12: promises of defs that are called while no repr is under way (repr of data wants to know that). -/
namespace Gk
open PySem PySem.Spec PyProof.Rows L2
/-- no repr is under way -/
def Free (A : Around) : Prop := A.guards = some []
structure FnG (P : Program) (w : World) (K : PySem.W.Frag) (mg : Str → Option Value) (base : Heap) (k : Nat) (f : Addr) (fd : FuncData) (ps : List Str) (sp : Sp) : Prop where
  len : ∀ vs H Q E, sp vs H Q E → vs.length = ps.length
  run : ∀ (A : Around) (outer : List Env) (s : Shared) (H : Hp) (args : Args) (us : List Value) (vs : List V) (Q : VK) (E : XK), Free A → Room k A → Env0 P w K mg base A outer s H → BindsTo s fd args (ps.zip us) → Vals vs us → sp vs H Q E →
    codeAny (model P w) A (.call (.ref f) args) (CR CX0 outer P w H s Q E) s
theorem fnG_ok {P : Program} {w : World} {K : PySem.W.Frag} {mg : Str → Option Value} {base : Heap} {k : Nat} {f : Addr} {fd : FuncData} {ps : List Str} {sp : Sp} (F : FnOk P w K mg base CX0 k f fd ps sp) : FnG P w K mg base k f fd ps sp :=
  ⟨F.len, fun A outer s H args us vs Q E _ hr e b r h => F.run A outer s H args us vs Q E hr e b r h⟩
theorem Free.deeper {A : Around} (h : Free A) (e : Env) : Free (A.deeper e) := h
theorem Free.in1 {A : Around} (h : Free A) : Free A.in1 := h
section
variable {P : Program} {w : World} {K : PySem.W.Frag} {mg : Str → Option Value} {base : Heap}
theorem fnG_by {nm qual : Str} {st : Stmt} {f : Addr} {fd : FuncData} {N ps : List Str} {k : Nat} {sp : Sp} (F : Fun K nm qual st f fd) (S : FnScope N ps (defScope st)) (len : ∀ vs H Q E, sp vs H Q E → vs.length = ps.length)
    (hbody : ∀ (cdv : Value) (A : Around) (outer : List Env) (s : Shared) (H : Hp) (vs : List V) (Q : VK) (E : XK), Free A → Room k (A.deeper (envOfC qual (defScope st) s.heap.objs.size f cdv)) → sp vs H Q E →
      ∃ t, PSs (cxOf CX0 P w K mg base N qual (defScope st) f cdv A outer s H E).nox (defBody st) t ∧ t { nx := fun _ H2 => Q .non H2, rt := Q } (start N vs) H) : FnG P w K mg base (k + 1) f fd ps sp := by
  obtain ⟨oc, od, kV, doc, pm, an, cdv, ct, osl, rfl, lk, hcd⟩ := F.ex
  refine ⟨len, fun A outer s H args us vs Q E hg room en bnd rel pr => ?_⟩
  have nl := len vs H Q E pr
  have inK : K.In s.heap := en.mod.kin.keeps fun b o e => (en.bs b o e).1
  have noLim : s.heap.NoLimit := en.mod.nolimit.keeps fun b o e => (en.bs b o e).1
  have kinds : ∀ y ∈ ps.zip us, (defScope st).names.lookup y.1 = some .local ∨ ((defScope st).names.lookup y.1 = some .cell ∧ ((cellsFrom (s.heap.objs.size + 1) (defScope st).names []).lookup y.1).isSome = true) := by
    intro y my
    obtain ⟨m1, _⟩ := List.of_mem_zip (show (y.1, y.2) ∈ ps.zip us from my)
    exact (S.par y.1 m1).imp id fun c => ⟨c, PySem.W.cellsFrom_some _ _ _ (.inl c)⟩
  refine codeAny_call_function room.depth (inK _ _ lk) rfl S.co S.gen rfl (PySem.W.codeRec_of inK hcd) (bnd _ _ _ _ (wpAny_newFunctionEnv_cells S.kind kinds fun ev hev s1 x => ?_))
  cases hev
  refine ⟨noLim.keeps x.toInCall.keep, codeAny_func ?_⟩
  obtain ⟨t, ht, go⟩ := hbody cdv A outer s H vs Q E hg (room.deeper _) pr
  have inv : Inv (cxOf CX0 P w K mg base N qual (defScope st) f cdv A outer s H E) [] (start N vs) H s1 := inv_start S room.hd en nl rel x
  have done : ∀ {st2 : L2.St} {H2 : Hp} {s2 : Shared} {v : V} {u : Value}, Inv (cxOf CX0 P w K mg base N qual (defScope st) f cdv A outer s H E) [] st2 H2 s2 → RelV v u → Q v H2 → CE outer P w H s Q u s2 :=
    fun {st2 H2 s2 v u} J rv q => ⟨v, H2, J.os, J.bare, J.base, J.hok, rv, q⟩
  refine wpAny_mono (ht.nox.run [] s1 (start N vs) H _ inv go) (fun fl s2 h => ?_) fun _ _ h => h
  match fl, h with
  | .ret u, ⟨v, st2, H2, J, rv, q⟩ => exact done J rv q
  | .next, ⟨st2, H2, J, q⟩ => exact done (v := V.non) (u := Value.none) J rfl q
  | .brk, ⟨_, _, _, q⟩ => exact q.elim
  | .cont, ⟨_, _, _, q⟩ => exact q.elim
end
/-- a def of the module and such a promise -/
structure DfG (P : Program) (w : World) (K : PySem.W.Frag) (mg : Str → Option Value) (base : Heap) (k : Nat) (f : Addr) (x : Str) (ps : List Str) (sp : Sp) : Prop where
  ex : ∃ fd, FnG P w K mg base k f fd ps sp ∧ Binds K fd ps []
  mgx : mg x = some (.ref f)
  kp : PySem.W.keepIn K (.ref f) = true
section
variable {X : Cx} {k : Nat} {f : Addr} {x : Str} {ps : List Str} {sp : Sp} {p pos : Pos} {e : Expr} {es : List Expr} {t : TA}
theorem pe_dfG (D : DfG X.prog X.w X.K X.mg X.base k f x ps sp) (hf : Free X.A) (hr : Room k X.A) (hg : Gl X x) (ha : PA X (e :: es) t) (hdb : (x == ("__debug__" : Str)) = false := by decide)
    (he : starEach (e :: es) X.env = (false, eval e X.env) :: starEach es X.env := by rfl) (hpl : (backTo pos (starEach es X.env)).any (·.1) = false := by rfl) :
    PE X (.Call (.Name x p) (e :: es) [] pos) (tCall sp [] E0 t) := by
  obtain ⟨fd, F, hb⟩ := D.ex
  constructor
  intro pins s st H Q I h
  refine wpAny_Call_Name_kw (ld_glob I hg D.mgx ?_ hdb)
  refine PySem.W.callWith_K (h₀ := X.base) I.ok.mod.kin D.kp (thn (ha.run pos pins s st H _ I h) fun us s1 z => ?_) he hpl
  obtain ⟨vs, H1, I1, r, q⟩ := z
  refine ⟨I1.kIn, ?_⟩
  rw [List.append_nil] at q
  have hl : us.length = ps.length := r.length.symm.trans (F.len _ _ _ _ q)
  have bd := hb s1 us I1.kIn (by rw [List.append_nil]; exact hl)
  rw [List.append_nil] at bd
  refine wpAny_call (codeAny_mono (F.run X.A X.stack s1 H1 ⟨us, []⟩ us vs Q E0 hf hr I1.env0 bd r q) ?_)
  intro res s2 q2
  match res, q2 with
  | .error e, q2 => exact pass0 pins st H1 s1 e s2 I1 q2
  | .ok (.ret u), q2 => exact I1.after q2
  | .ok .next, q2 => exact q2.elim
  | .ok .brk, q2 => exact q2.elim
  | .ok .cont, q2 => exact q2.elim
end
end Gk
/-! Gk13: a law's end where its promise is an FnG. -/
namespace Gk
open PySem PySem.Spec PyProof.Rows L2
/-- the script, seen through an abstract heap that tracks it alone, or nothing -/
theorem script_seen {P : Program} {w : World} {K : PySem.W.Frag} {s : Shared} {a : Addr} {vs : List Value} {ns : List Int} (KX : K.In s.heap) (ha : s.heap.get? a = some { cls := .type "list", data := .seq vs.toArray }) (hi : IntsAre vs ns) (hl : ns.length ≤ sizeLine) :
    ∃ H : Hp, Only H ∧ SqL K H a (ns.map V.int) ∧ HOk P w H s.heap ∧ (∀ b o, K.lookup b = some o → H b = none) ∧ ∀ b (o : Obj) es ep, s.heap.get? b = some o → o.data = .dict es ep → H b = none := by
  have rel := vals_ints hi
  cases hk : K.lookup a with
  | some o =>
    have same := KX a o hk
    rw [ha] at same
    cases same
    refine ⟨fun _ => none, fun _ => .inl rfl, .inr ⟨_, vs.toArray, _, hk, rfl, rfl, rfl, ?_, by simpa using rel⟩, (fun b u z => nomatch (show (none : Option HO) = some u from z)), fun _ _ _ => rfl, fun _ _ _ _ _ _ => rfl⟩
    rw [List.size_toArray, hi.length]
    exact hl
  | none =>
    let so : Obj := { cls := .type "list", data := .seq vs.toArray }
    refine ⟨fun b => if b = a then some (.frz so (.lst (ns.map V.int))) else none, fun b => ?_, .inl (.inr ⟨so, if_pos rfl⟩), fun b u z => ?_, fun b o e => ?_, fun b o es ep e d => ?_⟩
    · by_cases c : b = a
      · exact .inr ⟨_, _, if_pos c⟩
      · exact .inl (if_neg c)
    · by_cases c : b = a
      · cases (if_pos c).symm.trans z
        cases c
        exact ⟨ha, by rw [List.length_map]; exact hl, vs, _, rel, ha⟩
      · cases (if_neg c).symm.trans z
    · refine if_neg fun c => ?_
      cases c
      rw [hk] at e
      cases e
    · refine if_neg fun c => ?_
      cases c
      rw [ha] at e
      cases e
      exact nomatch (show Data.seq vs.toArray _ = Data.dict es ep from d)
theorem callerFree : Free callerA := rfl
theorem lawG_call {P : Program} {w : World} {K : PySem.W.Frag} {mg mb : Str → Option Value} {k : Nat} {fa a : Addr} {fd : FuncData} {x : Str} {sp : Sp} {s : Shared} {vs : List Value} {ns : List Int}
    (KX : K.In s.heap) (hm : s.heap.Ns mainGlobals mg) (hb : s.heap.Ns builtinsNs mb) (hbb : ∀ y : Str, y ≠ "__name__" → mb y = bootBuiltins y) (lim : s.heap.NoLimit) (hg : s.gens = #[])
    (ha : s.heap.get? a = some { cls := .type "list", data := .seq vs.toArray }) (hi : IntsAre vs ns) (hl : ns.length ≤ sizeLine) (room : Room k callerA)
    (F : ∀ base : Heap, K.In base → base.Ns mainGlobals mg → FnG P w K mg base k fa fd [x] sp) (bnd : ∀ (s : Shared) (u : Value), BindsTo s fd ⟨[u], []⟩ [(x, u)])
    (hsp : ∀ H : Hp, Only H → SqL K H a (ns.map V.int) → sp [.ref a] H (fun v _ => v = .bl true) fun _ _ _ => False) :
    codeAny (model P w) callerA (.call (.ref fa) ⟨[.ref a], []⟩) (fun r s2 => r = .ok (.ret (.bool true)) ∧ OldK s.heap s2.heap ∧ s2.os = s.os ∧ AllBare s2.gens) s := by
  obtain ⟨H, only, seen, ok, noK, noD⟩ := script_seen (P := P) (w := w) KX ha hi hl
  have nsOf : ∀ {b : Addr} {m : Str → Option Value}, s.heap.Ns b m → (hidT s.heap H).Ns b m := by
    rintro b m ⟨o, es, ep, e, d, r⟩
    exact ⟨o, es, ep, hidT_get e (noD b o es ep e d), d, r⟩
  have inB : K.In (hidT s.heap H) := fun b o e => hidT_get (KX b o e) (noK b o e)
  obtain ⟨mc, l1, l2⟩ := lim
  have md : Mod K mg (hidT s.heap H) := ⟨inB, nsOf hm, ⟨mb, nsOf hb, hbb⟩, mc, nsOf l1, l2⟩
  have en : Env0 P w K mg (hidT s.heap H) callerA [] s H := ⟨rfl, md, fun b o e => of_hidT e, Nat.le_of_eq (hidT_size _ _), trivial, (fun b z => nomatch (show b ∈ ([] : List Addr) from z)), ok, .of_eq hg⟩
  refine codeAny_mono ((F _ inB (nsOf hm)).run callerA [] s H ⟨[.ref a], []⟩ [.ref a] [.ref a] _ _ callerFree room en (bnd s (.ref a)) (.cons rfl .nil) (hsp H only seen)) fun r s2 q => ?_
  match r, q with
  | .error e, q => exact (show False from q).elim
  | .ok .next, q => exact q.elim
  | .ok .brk, q => exact q.elim
  | .ok .cont, q => exact q.elim
  | .ok (.ret u), ⟨v, H2, os, bare, un, ok2, rv, qv⟩ =>
    cases (show v = V.bl true from qv)
    cases rv
    refine ⟨rfl, OldK.of_keep fun b o e => ?_, os, bare⟩
    rcases only b with z | ⟨ob, xs, z⟩
    · exact un.keep b o e z (fun m => nomatch (show b ∈ ([] : List Addr) from m)) (fun m => nomatch m)
    · obtain ⟨g1, _⟩ := ok b _ z
      obtain ⟨g2, _⟩ := ok2 b _ (un.frzs b ob _ z)
      rw [e] at g1
      cases g1
      exact g2
theorem walkG {l : PySem.W.OpenLaw} {n k : Nat} {q : Program} {loose : List Str} {XP : (Str → Option Value) → Heap → Prop} {YP : World → Heap → Prop} {d : DefRec} {K : Params → PySem.W.Frag} {sp : World → Sp} {x : Str}
    (hn : l.most = some n) (hn2 : n ≤ sizeLine) (hdf : d.params.defaults = []) (hr : Room k callerA) (hY : ∀ (w : World) (h : Heap), YP w h → (K w.params).In h)
    (F : ∀ (w : World) (mg : Str → Option Value) (fa : Addr) (h : Heap), (K w.params).In h → h.Ns mainGlobals mg → mg d.name = some (.ref fa) →
      ∃ fd : FuncData, (∀ (s : Shared) (u : Value), BindsTo s fd ⟨[u], []⟩ [(x, u)]) ∧ ∀ base : Heap, (K w.params).In base → base.Ns mainGlobals mg → FnG l.prog w (K w.params) mg base k fa fd [x] (sp w))
    (hsp : ∀ (w : World) (H : Hp) (a : Addr) (ns : List Int), ns.length ≤ n → (∀ z ∈ ns, Builtin.Int.intBits z ≤ 1048576) → Only H → SqL (K w.params) H a (ns.map V.int) → sp w [.ref a] H (fun v _ => v = .bl true) fun _ _ _ => False) :
    PySem.W.WalkO q loose XP YP l.row.toRowW d [] (fun f vs => PySem.call f vs) := by
  refine Att.attach_callB hn hdf fun w s₀ s mg mb fa o pm cd doc a vs ns G Y ho hd hcd hmg hobj hints hlen hbits hg => ?_
  obtain ⟨fd, bnd, hF⟩ := F w mg fa _ (hY w _ Y) G.T.g hmg
  exact lawG_call (hY w _ Y) G.T.g G.T.b G.T.builtins G.T.nolimit hg hobj hints (Nat.le_trans hlen hn2) hr hF bnd fun H hO hS => hsp w H a ns hlen hbits hO hS
end Gk
/-! Gk14: repr of data, < of data. -/
namespace Gk
open PySem PySem.Spec PyProof.Rows L2
/-- a scalar -/
inductive Sc : V → PyData → Prop
  | non : Sc .non .none
  | bl (b : Bool) : Sc (.bl b) (.bool b)
  | int (i : Int) : Sc (.int i) (.int i)
  | str (x : Str) : Sc (.str x) (.str x)
def dKey : L2.Key → PyData
  | .inl i => .int i
  | .inr x => .str x
abbrev ScP (p : L2.Key × V) (q : PyData × PyData) : Prop := q.1 = dKey p.1 ∧ Sc p.2 q.2
/-- data of which repr is known: no dict, or a dict of scalars -/
inductive Sh (K : PySem.W.Frag) (H : Hp) : V → PyData → Prop
  | dp {v : V} {d : PyData} : Dp K H v d → Sh K H v d
  | dict {a : Addr} {kvs : List (L2.Key × V)} {ds : List (PyData × PyData)} : H a = some (.dK kvs) → Paired ScP kvs ds → Sh K H (.ref a) (.dict ds)
theorem Sh.keep0 {K : PySem.W.Frag} {H H2 : Hp} {v : V} {d : PyData} (h : Sh K H v d) (k : Kp T0 H H2) : Sh K H2 v d := by
  cases h with
  | dp h => exact .dp (dp_keep k h)
  | dict e p => exact .dict (k.at0 e) p
mutual
theorem dp_nodict {K : PySem.W.Frag} {H : Hp} : ∀ {v : V} {d : PyData}, Dp K H v d → d.hasDict = false
  | _, _, .non => rfl
  | _, _, .bl _ => rfl
  | _, _, .int _ => rfl
  | _, _, .str _ => rfl
  | _, _, .lst _ t => dpa_nodict t
  | _, _, .tup _ t => dpa_nodict t
theorem dpa_nodict {K : PySem.W.Frag} {H : Hp} : ∀ {vs : List V} {ds : List PyData}, DpAll K H vs ds → PyData.hasDictAll ds = false
  | _, _, .nil => rfl
  | _, _, .cons a t => by
    show (PyData.hasDict _ || PyData.hasDictAll _) = false
    rw [dp_nodict a, dpa_nodict t]
    rfl
end
section
variable {X : Cx}
def rRepr (K : PySem.W.Frag) : List V → Hp → VK → Prop := fun xs H Q => ∃ (v : V) (d : PyData), xs = [v] ∧ Sh K H v d ∧ d.showable = true ∧ d.depth ≤ 64 ∧ d.shown.length ≤ sizeLine ∧ Q (.str d.shown) H
theorem sc_reads {v : V} {u : Value} {d : PyData} {h : Heap} (s : Sc v d) (r : RelV v u) : Reads h u d [] := by
  cases s with
  | non => cases r; exact .none
  | bl b => cases r; exact .bool b
  | int i => obtain ⟨t, rfl⟩ := (show ∃ t, u = Value.int i t from r); exact .int i t
  | str x => obtain ⟨t, rfl⟩ := (show ∃ t, u = Value.str x t from r); exact .str x t
theorem all_cons0 {h : Heap} {v : Value} {vs : List Value} {d : PyData} {ds : List PyData} (a : Reads h v d []) (b : ReadsAll h vs ds []) : ReadsAll h (v :: vs) (d :: ds) [] := ReadsAll.cons a b
theorem dict_reads {P : Program} {w : World} {h : Heap} : ∀ {kvs : List (L2.Key × V)} {vs : List (L2.Key × Value)} {es : List DictEntry} {ds : List (PyData × PyData)}, Paired ScP kvs ds → KV kvs vs → Pairs (mixKind P w) es vs →
    ReadsAll h (es.map (·.key)) (ds.map (·.1)) [] ∧ ReadsAll h (es.map (·.val)) (ds.map (·.2)) []
  | _, _, _, _, .nil, .nil, .nil => ⟨.nil, .nil⟩
  | _, _, _, _, .cons p ps, .cons r rs, .cons k e t => by
    obtain ⟨i1, i2⟩ := dict_reads (h := h) ps rs t
    obtain ⟨r1, r2⟩ := r
    obtain ⟨p1, p2⟩ := p
    refine ⟨all_cons0 ?_ i1, all_cons0 ?_ i2⟩
    · dsimp only
      rw [p1, r1]
      rcases keyIs_shape k with ⟨i, t, e1, e2⟩ | ⟨x, t, e1, e2⟩
      · rw [e1, e2]
        exact .int i t
      · rw [e1, e2]
        exact .str x t
    · dsimp only
      rw [e]
      exact sc_reads p2 r2
theorem call_reprD (hf : Free X.A) (hu : X.A.units + 70 < cLine) : CallR X (.builtin "repr") (rRepr X.K) := by
  intro pins s σ H xs us Q I r h
  obtain ⟨v, d, rfl, sh, sw, dd, sz, q⟩ := h
  obtain ⟨u, rfl, ru⟩ := vals1 r
  have fin : ∀ (h2 : Heap) (t : Tok) (tk : Nat), (∀ b o, s.heap.get? b = some o → h2.get? b = some o) → EP X pins σ Q (.str d.shown t) { s with heap := h2, toks := tk } := fun h2 t tk hk => ⟨.str d.shown, H, I.kept hk, ⟨t, rfl⟩, q⟩
  cases sh with
  | dp h =>
    cases h with
    | non =>
      cases ru
      exact PySem.P.repr_of_none (fin s.heap _ _ fun _ _ e => e)
    | bl b =>
      cases ru
      exact PySem.P.repr_of_bool (fin s.heap _ _ fun _ _ e => e)
    | int i =>
      obtain ⟨t, rfl⟩ := (show ∃ t, u = Value.int i t from ru)
      exact PySem.P.repr_of_int (of_decide_eq_true sw) (fin s.heap _ _ fun _ _ e => e)
    | str x =>
      obtain ⟨t, rfl⟩ := (show ∃ t, u = Value.str x t from ru)
      exact PySem.P.repr_of_str (fin s.heap _ _ fun _ _ e => e) sz
    | lst a t =>
      obtain ⟨as, rd⟩ := Dp.reads I _ _ u (.lst a t) ru
      cases ru
      refine repr_of_reads' rd sw (fun e => ?_) hf (by omega) (fun _ _ e => e) (fun h2 t tk hk => fin h2 t tk hk) sz
      rw [dp_nodict (.lst a t)] at e
      cases e
    | tup a t =>
      obtain ⟨as, rd⟩ := Dp.reads I _ _ u (.tup a t) ru
      cases ru
      refine repr_of_reads' rd sw (fun e => ?_) hf (by omega) (fun _ _ e => e) (fun h2 t tk hk => fin h2 t tk hk) sz
      rw [dp_nodict (.tup a t)] at e
      cases e
  | dict e p =>
    cases ru
    obtain ⟨_, ns, vs, kv, o, es, ep, ho, ex, hd, _, pr, _⟩ := dk_of I.hok e
    obtain ⟨q1, q2⟩ := dict_reads (h := s.heap) p kv pr
    refine repr_of_reads' (Reads.dict ho ex.1 hd q1 q2) sw (fun _ m => ?_) hf (by omega) (fun _ _ e => e) (fun h2 t tk hk => fin h2 t tk hk) sz
    rcases List.mem_cons.mp m with m | m
    · rw [← m] at ns
      simp at ns
    · exact absurd m (by simp)
/-- a < b, data that are alike -/
def rLtD (K : PySem.W.Frag) : R2 := fun x y H Q => ∃ d e, Dp K H x d ∧ Dp K H y e ∧ PySem.W.alike d e = true ∧ d ≠ .none ∧ d.depth ≤ 64 ∧ Q (.bl (PySem.W.dataLt d e)) H
theorem op_ltD (hu : X.A.units + 64 < cLine) : OpR X (compareOp .Lt) (rLtD X.K) := by
  intro pins s σ H x y v u Q I rx ry h
  obtain ⟨d, e, hd, he, al, nn, dp, q⟩ := h
  obtain ⟨as, r1⟩ := Dp.reads I d x v hd rx
  obtain ⟨bs, r2⟩ := Dp.reads I e y u he ry
  exact PySem.W.rcLt_alike d e X.A s v u as bs r1 r2 al nn (by omega) X.prog X.w X.xe _ ⟨.bl _, H, I, rfl, q⟩
end
end Gk
/-! Gk15: values by kind: texts, numbers, flags, others. -/
namespace Gk
open PySem PySem.Spec PyProof.Rows L2
def NoTy (K : PySem.W.Frag) (H : Hp) (T : String) (v : V) : Prop := ∃ t, TyX K H v t ∧ PySem.W.kitOne K t (.type T) = some false
inductive Kd
  | s (x : Str)
  | i (n : Int)
  | b (c : Bool)
  | o
def KdAt (K : PySem.W.Frag) (H : Hp) (v : V) : Kd → Prop
  | .s x => v = .str x ∧ x.length < sizeLine
  | .i n => v = .int n
  | .b c => v = .bl c
  | .o => NoTy K H "str" v ∧ NoTy K H "int" v ∧ NoTy K H "bool" v
theorem NoTy.keep0 {K : PySem.W.Frag} {H H2 : Hp} {T : String} {v : V} (h : NoTy K H T v) (k : Kp T0 H H2) : NoTy K H2 T v := by
  obtain ⟨t, a, b⟩ := h
  exact ⟨t, tyx_keep a k, b⟩
theorem KdAt.keep0 {K : PySem.W.Frag} {H H2 : Hp} {v : V} {kd : Kd} (h : KdAt K H v kd) (k : Kp T0 H H2) : KdAt K H2 v kd := by
  cases kd with
  | s x => exact h
  | i n => exact h
  | b c => exact h
  | o => exact ⟨h.1.keep0 k, h.2.1.keep0 k, h.2.2.keep0 k⟩
def nameK : Kd → Bool
  | .s x => isNm x
  | _ => false
def textK : Kd → Bool
  | .s x => isLet x 0 12
  | _ => false
def numK : Kd → Bool
  | .i n => decide (0 ≤ n)
  | _ => false
def flagK : Kd → Bool
  | .b _ => true
  | _ => false
/-- a def that tells something of a value by its kind -/
def spKd (K : PySem.W.Frag) (g : Kd → Bool) : Sp := fun vs H Q _ => ∃ (v : V) (kd : Kd), vs = [v] ∧ KdAt K H v kd ∧ ∀ H2, Kp T0 H H2 → Q (.bl (g kd)) H2
/-- every value of a kind is a text or none -/
theorem KdAt.str {K : PySem.W.Frag} {H : Hp} {v : V} {kd : Kd} (h : KdAt K H v kd) : (∃ x, kd = .s x ∧ v = .str x ∧ x.length < sizeLine) ∨ ((∀ x, kd ≠ .s x) ∧ NoStr K H v) := by
  cases kd with
  | s x => exact .inl ⟨x, rfl, h.1, h.2⟩
  | i n =>
    refine .inr ⟨(fun x e => nomatch e), .type "int", ?_, kit_ty (by decide +kernel)⟩
    rw [show v = .int n from h]
    exact .base (.int n)
  | b c =>
    refine .inr ⟨(fun x e => nomatch e), .type "bool", ?_, kit_ty (by decide +kernel)⟩
    rw [show v = .bl c from h]
    exact .base (.bl c)
  | o => exact .inr ⟨(fun x e => nomatch e), h.1⟩
theorem KdAt.item {K : PySem.W.Frag} {H : Hp} {v : V} {kd : Kd} (h : KdAt K H v kd) : ItN K H v (nameK kd) := by
  rcases h.str with ⟨x, rfl, e, l⟩ | ⟨ne, ns⟩
  · exact .inl ⟨x, e, l, rfl⟩
  · refine .inr ⟨ns, ?_⟩
    cases kd with
    | s x => exact absurd rfl (ne x)
    | _ => rfl
/-- isinstance(v, T) for T of str, int, bool -/
def isK (T : String) : Kd → Bool
  | .s _ => T == "str"
  | .i _ => T == "int"
  | .b _ => T == "int" || T == "bool"
  | .o => false
theorem KdAt.isi {K : PySem.W.Frag} {H : Hp} {v : V} {kd : Kd} {T : String} (h : KdAt K H v kd) (hT : T = "str" ∨ T = "int" ∨ T = "bool") : ∃ t, TyX K H v t ∧ PySem.W.kitOne K t (.type T) = some (isK T kd) := by
  cases kd with
  | s x =>
    refine ⟨.type "str", ?_, ?_⟩
    · rw [h.1]
      exact .base (.str x)
    · rcases hT with rfl | rfl | rfl
      · exact (kit_ty (show kitB "str" "str" = some ("str" == "str") by decide +kernel))
      · exact (kit_ty (show kitB "str" "int" = some ("int" == "str") by decide +kernel))
      · exact (kit_ty (show kitB "str" "bool" = some ("bool" == "str") by decide +kernel))
  | i n =>
    refine ⟨.type "int", ?_, ?_⟩
    · rw [show v = .int n from h]
      exact .base (.int n)
    · rcases hT with rfl | rfl | rfl
      · exact (kit_ty (show kitB "int" "str" = some ("str" == "int") by decide +kernel))
      · exact (kit_ty (show kitB "int" "int" = some ("int" == "int") by decide +kernel))
      · exact (kit_ty (show kitB "int" "bool" = some ("bool" == "int") by decide +kernel))
  | b c =>
    refine ⟨.type "bool", ?_, ?_⟩
    · rw [show v = .bl c from h]
      exact .base (.bl c)
    · rcases hT with rfl | rfl | rfl
      · exact (kit_ty (show kitB "bool" "str" = some ("str" == "int" || "str" == "bool") by decide +kernel))
      · exact (kit_ty (show kitB "bool" "int" = some ("int" == "int" || "int" == "bool") by decide +kernel))
      · exact (kit_ty (show kitB "bool" "bool" = some ("bool" == "int" || "bool" == "bool") by decide +kernel))
  | o =>
    rcases hT with rfl | rfl | rfl
    · exact h.1
    · exact h.2.1
    · exact h.2.2
/-- the reading of isinstance(v, T) -/
theorem rd_isi {K : PySem.W.Frag} {H : Hp} {v : V} {kd : Kd} {T : String} {Q : VK} (h : KdAt K H v kd) (hT : T = "str" ∨ T = "int" ∨ T = "bool") (k : Q (.bl (isK T kd)) H) : rIsi K [v, .ty T] H Q := by
  obtain ⟨t, ty, e⟩ := h.isi hT
  exact ⟨v, .ty T, t, .type T, isK T kd, rfl, .ty T, ty, e, k⟩
/-- value_key: texts by length and themselves, others as they are -/
def spKey (K : PySem.W.Frag) : Sp := fun vs H Q _ => ∃ (v : V) (kd : Kd), vs = [v] ∧ KdAt K H v kd ∧ ((∃ x, kd = .s x ∧ ∀ p, H p = none → Q (.ref p) (upd H p (.tup [.int (x.length : Nat), .str x]))) ∨ ((∀ x, kd ≠ .s x) ∧ Q v H))
end Gk
/-! Gk16: texts repeated; what k01's own defs promise. -/
namespace Gk
open PySem PySem.Spec PyProof.Rows L2
open PySem.Builtin PySem.Builtin.Str in
theorem short_tool {k : Nat} (h : k ≤ 1000000) : tooLong k = false := by
  have : ¬ k > 2 ^ 24 := by omega
  simpa [tooLong, sizeLine] using this
def repS (x : Str) (n : Nat) : Str := ⟨(List.replicate n x.cps).foldl (· ++ ·) #[]⟩
theorem repS_one (x : Str) : repS x 1 = x := by
  unfold repS
  show (⟨#[] ++ x.cps⟩ : Str) = x
  rw [Array.empty_append]
def rMulS : R2 := fun x y H Q => ∃ (z : Str) (n : Nat), x = .str z ∧ y = .int (n : Int) ∧ n ≤ 1000 ∧ 1 ≤ z.length ∧ z.length ≤ 1000 ∧ Q (.str (repS z n)) H
theorem op_mulS {X : Cx} : OpR X (binaryOp .Mult) rMulS := by
  intro pins s σ H x y v u Q I rx ry h
  obtain ⟨z, n, rfl, rfl, hn, z1, hz, q⟩ := h
  obtain ⟨t, rfl⟩ := (show ∃ t, v = Value.str z t from rx)
  obtain ⟨t2, rfl⟩ := (show ∃ t, u = Value.int (n : Int) t from ry)
  have big : z.length * n ≤ 1000000 := Nat.mul_le_mul hz hn
  have fin : EP X pins σ Q (.str (repS z n) s.toks) { s with toks := s.toks + 1 } := ⟨.str (repS z n), H, I.tok _, ⟨_, rfl⟩, q⟩
  refine PySem.P.mul_str ?_ (fun h1 _ => ?_) (fun _ _ => ?_) ?_
  · rw [decide_eq_false (by omega), decide_eq_false (by omega)] <;> rfl
  · have : (z.length : Int) ≤ (2 ^ 63 - 1) / (n : Int) := by
      refine (Int.le_ediv_iff_mul_le (by omega)).mpr ?_
      have e : ((z.length : Int) * (n : Int)) = ((z.length * n : Nat) : Int) := by rw [Int.natCast_mul]
      rw [e]
      omega
    omega
  · rw [Int.toNat_natCast]
    exact short_tool big
  · by_cases c0 : (n : Int) < 1
    · rw [if_pos c0]
      have e : n = 0 := by omega
      subst e
      exact ⟨by decide, fin⟩
    · rw [if_neg c0]
      by_cases c1 : n = 1
      · have e : (((n : Int) == 1) || z.length == 0) = true := by rw [c1]; rfl
        rw [if_pos e]
        rw [c1, repS_one] at q
        exact ⟨.str z, H, I, ⟨_, rfl⟩, q⟩
      · have e : ¬ (((n : Int) == 1) || z.length == 0) = true := by
          rw [Bool.or_eq_true, beq_iff_eq, beq_iff_eq]
          omega
        rw [if_neg e, Int.toNat_natCast]
        exact ⟨fits_reps (short_tool big), fin⟩
/-! ### promises -/
def letters (x : Str) : Bool := x.cps.toList.all fun c => decide (c ∈ LET.cps.toList)
def spLett : Sp := fun vs H Q _ => ∃ x : Str, vs = [.str x] ∧ x.length < sizeLine ∧ PyData.strOk x = true ∧ ∀ H2, Kp T0 H H2 → Q (.bl (letters x)) H2
def notLet : R2 := fun x y H Q => ∃ (c : Nat) (z : Str), x = .str ⟨#[c]⟩ ∧ y = .str z ∧ Q (.bl (!decide (c ∈ z.cps.toList))) H
def sing (c : Nat) : Str := ⟨#[c]⟩
def others (l : List Nat) : List Nat := l.filter fun c => !decide (c ∈ LET.cps.toList)
theorem others_nil (l : List Nat) : (others l).isEmpty = l.all fun c => decide (c ∈ LET.cps.toList) := by
  unfold others
  induction l with
  | nil => rfl
  | cons c l ih =>
    by_cases h : c ∈ LET.cps.toList
    · rw [List.filter_cons_of_neg (by rw [decide_eq_true h]; exact Bool.false_ne_true), ih, List.all_cons, decide_eq_true h, Bool.true_and]
    · rw [List.filter_cons_of_pos (by rw [decide_eq_false h]; rfl), List.all_cons, decide_eq_false h, Bool.false_and]
      rfl
theorem isLet_letters (x : Str) (lo hi : Int) : isLet x lo hi = (decide (lo ≤ (x.length : Int)) && decide ((x.length : Int) ≤ hi) && letters x) := rfl
theorem dp_strs2 {K : PySem.W.Frag} {H : Hp} : ∀ l : List Str, DpAll K H (l.map V.str) (l.map PyData.str)
  | [] => .nil
  | x :: l => .cons (.str x) (dp_strs2 l)
theorem shaped_strs {l : List Str} (h : ∀ x ∈ l, PyData.strOk x = true) : SeqAt.shaped (.list (l.map PyData.str)) = true := by
  have h1 : PyData.canLayAll0 (l.map PyData.str) = true := by
    induction l with
    | nil => rfl
    | cons x l ih =>
      show (PyData.canLay0 (.str x) && PyData.canLayAll0 (l.map PyData.str)) = true
      rw [ih fun y hy => h y (List.mem_cons_of_mem _ hy), Bool.and_true]
      exact h x List.mem_cons_self
  have h2 : PyData.depthAll (l.map PyData.str) = 0 := by
    clear h1 h
    induction l with
    | nil => rfl
    | cons x l ih =>
      show max (PyData.depth (.str x)) (PyData.depthAll (l.map PyData.str)) = 0
      rw [ih] <;> rfl
  unfold SeqAt.shaped
  rw [show (PyData.list (l.map PyData.str)).canLay0 = true from h1, Bool.true_and]
  exact decide_eq_true (by show PyData.depthAll (l.map PyData.str) + 1 ≤ 64; omega)
/-- what is due of a value, as four bools in a new list -/
def dueL (kd : Kd) : List Bool := [nameK kd, textK kd, numK kd, flagK kd]
def OkK (kd : Kd) : Prop := ∀ x, kd = .s x → PyData.strOk x = true
def spDue (K : PySem.W.Frag) : Sp := fun vs H Q _ => ∃ (v : V) (kd : Kd), vs = [v] ∧ KdAt K H v kd ∧ OkK kd ∧ ∀ H2 l, Kp T0 H H2 → H2 l = some (.lst ((dueL kd).map V.bl)) → Q (.ref l) H2
end Gk
/-! Gk17: k01's things. -/
namespace Gk
open PySem PySem.Spec PyProof.Rows L2
structure Fine (d : PyData) : Prop where
  sw : d.showable = true
  dd : d.depth ≤ 64
  sz : d.shown.length ≤ 1000
theorem Fine.line {d : PyData} (h : Fine d) : d.shown.length ≤ sizeLine := Nat.le_trans h.sz (by rw [sizeLine_eq]; decide)
/-- a drawn value -/
def Thing (K : PySem.W.Frag) (H : Hp) (v : V) : Prop := ∃ kd d, KdAt K H v kd ∧ OkK kd ∧ Sh K H v d ∧ Fine d
theorem Thing.keep0 {K : PySem.W.Frag} {H H2 : Hp} {v : V} (h : Thing K H v) (k : Kp T0 H H2) : Thing K H2 v := by
  obtain ⟨kd, d, a, b, c, e⟩ := h
  exact ⟨kd, d, a.keep0 k, b, c.keep0 k, e⟩
def dB (bs : List Bool) : PyData := .list (bs.map PyData.bool)
theorem dp_bools {K : PySem.W.Frag} {H : Hp} : ∀ bs : List Bool, DpAll K H (bs.map V.bl) (bs.map PyData.bool)
  | [] => .nil
  | b :: bs => .cons (.bl b) (dp_bools bs)
theorem fine4 (a b c d : Bool) : Fine (dB [a, b, c, d]) := by
  have h1 : (dB [a, b, c, d]).showable = true := by cases a <;> cases b <;> cases c <;> cases d <;> rfl
  have h2 : (dB [a, b, c, d]).depth ≤ 64 := by cases a <;> cases b <;> cases c <;> cases d <;> decide +kernel
  have h3 : (dB [a, b, c, d]).shown.length ≤ 1000 := by cases a <;> cases b <;> cases c <;> cases d <;> decide +kernel
  exact ⟨h1, h2, h3⟩
def spRight (K : PySem.W.Frag) : Sp := fun vs H Q _ => ∃ v, vs = [v] ∧ Thing K H v ∧ ∀ H2, Kp T0 H H2 → Q (.bl true) H2
/-- the reading of repr -/
theorem rd_repr {K : PySem.W.Frag} {H : Hp} {v : V} {d : PyData} {Q : VK} (h : Sh K H v d) (f : Fine d) (k : Q (.str d.shown) H) : rRepr K [v] H Q := ⟨v, d, rfl, h, f.sw, f.dd, f.line, k⟩
/-- an item of the list that values are drawn from -/
inductive El (t : Addr) (H : Hp) : V → Prop
  | non : El t H .non
  | bl (b : Bool) : El t H (.bl b)
  | int (i : Int) : Fine (.int i) → El t H (.int i)
  | str (x : Str) : x.length ≤ 1000 → PyData.strOk x = true → Fine (.str x) → El t H (.str x)
  | tup (a : Addr) (l : List Str) : a ≠ t → H a = some (.tup (l.map V.str)) → Fine (.tuple (l.map PyData.str)) → El t H (.ref a)
  | lst (a : Addr) (l : List Str) : a ≠ t → H a = some (.lst (l.map V.str)) → Fine (.list (l.map PyData.str)) → El t H (.ref a)
  | dict (a : Addr) (kvs : List (L2.Key × V)) (ds : List (PyData × PyData)) : a ≠ t → H a = some (.dK kvs) → Paired ScP kvs ds → Fine (.dict ds) → El t H (.ref a)
theorem El.keep {t : Addr} {H H2 : Hp} {v : V} (h : El t H v) (k : Kp (At t) H H2) : El t H2 v := by
  cases h with
  | non => exact .non
  | bl b => exact .bl b
  | int i f => exact .int i f
  | str x l s f => exact .str x l s f
  | tup a l n e f => exact .tup a l n (k a _ n e) f
  | lst a l n e f => exact .lst a l n (k a _ n e) f
  | dict a kvs ds n e p f => exact .dict a kvs ds n (k a _ n e) p f
theorem noTy_of {K : PySem.W.Frag} {H : Hp} {v : V} {T U : String} (h : TyX K H v (.type U)) (k : kitB U T = some false) : NoTy K H T v := ⟨_, h, kit_ty k⟩
theorem El.thing {K : PySem.W.Frag} {t : Addr} {H : Hp} {v : V} (h : El t H v) : Thing K H v := by
  have other : ∀ U : String, TyX K H v (.type U) → kitB U "str" = some false → kitB U "int" = some false → kitB U "bool" = some false → KdAt K H v .o := fun U ty a b c => ⟨noTy_of ty a, noTy_of ty b, noTy_of ty c⟩
  have ok0 : OkK .o := fun x e => nomatch e
  cases h with
  | non => exact ⟨.o, .none, other "NoneType" (.base .non) (by decide +kernel) (by decide +kernel) (by decide +kernel), ok0, .dp .non, ⟨rfl, by decide +kernel, by decide +kernel⟩⟩
  | bl b => exact ⟨.b b, .bool b, rfl, (fun x e => nomatch e), .dp (.bl b), ⟨rfl, (by cases b <;> decide +kernel), (by cases b <;> decide +kernel)⟩⟩
  | int i f => exact ⟨.i i, .int i, rfl, (fun x e => nomatch e), .dp (.int i), f⟩
  | str x l s f =>
    refine ⟨.s x, .str x, ⟨rfl, ?_⟩, fun y e => ?_, .dp (.str x), f⟩
    · rw [sizeLine_eq]
      omega
    · injection e with e
      rw [← e]
      exact s
  | tup a l n e f => exact ⟨.o, _, other "tuple" (.base (.tup e)) (by decide +kernel) (by decide +kernel) (by decide +kernel), ok0, .dp (.tup (SqT.of e) (dp_strs2 l)), f⟩
  | lst a l n e f => exact ⟨.o, _, other "list" (.base (.lst e)) (by decide +kernel) (by decide +kernel) (by decide +kernel), ok0, .dp (.lst (SqL.of e) (dp_strs2 l)), f⟩
  | dict a kvs ds n e p f => exact ⟨.o, _, other "dict" (.base (.dK e)) (by decide +kernel) (by decide +kernel) (by decide +kernel), ok0, .dict e p, f⟩
def spAny (K : PySem.W.Frag) : Sp := fun vs H Q _ => ∃ t, vs = [.ref t] ∧ TapeAt H t ∧ ∀ H2 v, Kp (At t) H H2 → TapeAt H2 t → Thing K H2 v → Q v H2
/-! ### two values of a kind -/
inductive Pk
  | s (x y : Str)
  | i (n m : Int)
  | b (c d : Bool)
def Pk.fst : Pk → V
  | .s x _ => .str x
  | .i n _ => .int n
  | .b c _ => .bl c
def Pk.snd : Pk → V
  | .s _ y => .str y
  | .i _ m => .int m
  | .b _ d => .bl d
def Pk.ok : Pk → Prop
  | .s x y => x.length < sizeLine ∧ y.length < sizeLine
  | _ => True
def before : Pk → Bool
  | .s x y => decide ((x.length : Int) < (y.length : Int)) || (decide ((x.length : Int) = (y.length : Int)) && decide (x.cps.toList < y.cps.toList))
  | .i n m => decide (n < m)
  | .b c d => PySem.W.dataLt (.bool c) (.bool d)
def spBefore : Sp := fun vs H Q _ => ∃ pk : Pk, vs = [pk.fst, pk.snd] ∧ pk.ok ∧ Q (.bl (before pk)) H
theorem lt_nil : PyProof.Rows.lexLt itemOrd (PySem.W.keyToksAll []) (PySem.W.keyToksAll []) = false := by decide +kernel
theorem cps_irrefl (l : List Nat) : decide (l < l) = false := decide_eq_false (List.lt_irrefl l)
/-- texts by their length and themselves -/
theorem key_lt (n m : Int) (x y : Str) : PySem.W.dataLt (.tuple [.int n, .str x]) (.tuple [.int m, .str y]) = (decide (n < m) || (decide (n = m) && decide (x.cps.toList < y.cps.toList))) := by
  rw [PySem.W.dataLt_tuple]
  have a1 : PySem.W.alike (.int n) (.int m) = true := by unfold PySem.W.alike; rfl
  have a2 : PySem.W.alike (.str x) (.str y) = true := by unfold PySem.W.alike; rfl
  by_cases e : n = m
  · subst e
    rw [PySem.W.dataLt_all_yes a1 (by show decide (n = n) = true; exact decide_eq_true rfl), decide_eq_false (by omega : ¬ n < n), decide_eq_true rfl, Bool.false_or, Bool.true_and]
    by_cases c : x = y
    · subst c
      rw [PySem.W.dataLt_all_yes a2 (by show decide (x = x) = true; exact decide_eq_true rfl), lt_nil, cps_irrefl]
    · rw [PySem.W.dataLt_all_no a2 (by show decide (x = y) = false; exact decide_eq_false c), PySem.W.dataLt_str]
  · rw [PySem.W.dataLt_all_no a1 (by show decide (n = m) = false; exact decide_eq_false e), PySem.W.dataLt_int, decide_eq_false e, Bool.false_and, Bool.or_false]
/-! ### texts told by their letters -/
theorem rd_txt {K : PySem.W.Frag} {g : Kd → Bool} {H : Hp} {z : Str} {Q : VK} {E : XK} (l : z.length ≤ 1000) (k : ∀ H2, Kp T0 H H2 → Q (.bl (g (.s z))) H2) : spKd K g [.str z] H Q E :=
  ⟨_, .s z, rfl, ⟨rfl, by rw [sizeLine_eq]; omega⟩, k⟩
theorem letters_app (x y : Str) : letters (x ++ y) = (letters x && letters y) := by
  unfold letters
  show ((x.cps ++ y.cps).toList.all _) = _
  rw [Array.toList_append, List.all_append]
theorem letters_sing (c : Nat) : letters ⟨#[c]⟩ = decide (c ∈ LET.cps.toList) := by
  unfold letters
  show ([c].all _) = _
  rw [List.all_cons, List.all_nil, Bool.and_true]
theorem len_sing (c : Nat) : (⟨#[c]⟩ : Str).length = 1 := rfl
theorem nm_ok {z : Str} (h1 : 1 ≤ z.length) (h8 : z.length ≤ 8) (l : letters z = true) : nameK (.s z) = true := by
  show (decide (1 ≤ (z.length : Int)) && decide ((z.length : Int) ≤ 8) && letters z) = true
  rw [decide_eq_true (by omega), decide_eq_true (by omega), l] <;> rfl
theorem tx_ok {z : Str} (h : z.length ≤ 12) (l : letters z = true) : textK (.s z) = true := by
  show (decide ((0 : Int) ≤ (z.length : Int)) && decide ((z.length : Int) ≤ 12) && letters z) = true
  rw [decide_eq_true (by omega), decide_eq_true (by omega), l] <;> rfl
theorem nm_no {z : Str} (l : letters z = false) : nameK (.s z) = false := by
  show (_ && letters z) = false
  rw [l, Bool.and_false]
theorem tx_no {z : Str} (l : letters z = false) : textK (.s z) = false := by
  show (_ && letters z) = false
  rw [l, Bool.and_false]
theorem z_names : ∀ i, i < 15 → nameK (.s (repS "z" i)) = (decide (1 ≤ i) && decide (i ≤ 8)) := by decide +kernel
theorem z_texts : ∀ i, i < 15 → textK (.s (repS "z" i)) = decide (i ≤ 12) := by decide +kernel
theorem z_len : ∀ i, i < 15 → (repS "z" i).length ≤ 1000 := by decide +kernel
def OTH : Str := " !\"#$&'()*+,-./0123456789:;<=>?@ABCDEFGHIJKLMNOPQRSTUVWXYZ[\\]^_`{|}~\n\t"
theorem oth_no : ∀ c ∈ OTH.cps.toList, decide (c ∈ LET.cps.toList) = false := by decide +kernel
theorem mem_cps {x : Str} {i c : Nat} (h : x.cps[i]? = some c) : c ∈ x.cps.toList := by
  rw [← Array.getElem?_toList] at h
  exact List.mem_of_getElem? h
/-- a row of values of one kind -/
def RowK (xs : List V) : Prop := (∃ ss : List Str, xs = ss.map V.str ∧ ∀ s ∈ ss, s.length ≤ 1000) ∨ (∃ ns : List Int, xs = ns.map V.int) ∨ ∃ bs : List Bool, xs = bs.map V.bl
theorem RowK.two {xs : List V} (h : RowK xs) {i j : Nat} {v u : V} (hv : xs[i]? = some v) (hu : xs[j]? = some u) : ∃ pk : Pk, v = pk.fst ∧ u = pk.snd ∧ pk.ok := by
  have small : ∀ s : Str, s.length ≤ 1000 → s.length < sizeLine := fun s h => by rw [sizeLine_eq]; omega
  have mv := List.mem_of_getElem? hv
  have mu := List.mem_of_getElem? hu
  rcases h with ⟨ss, rfl, hs⟩ | ⟨ns, rfl⟩ | ⟨bs, rfl⟩
  · obtain ⟨x, hx, rfl⟩ := List.mem_map.mp mv
    obtain ⟨y, hy, rfl⟩ := List.mem_map.mp mu
    exact ⟨.s x y, rfl, rfl, small x (hs x hx), small y (hs y hy)⟩
  · obtain ⟨x, hx, rfl⟩ := List.mem_map.mp mv
    obtain ⟨y, hy, rfl⟩ := List.mem_map.mp mu
    exact ⟨.i x y, rfl, rfl, trivial⟩
  · obtain ⟨x, hx, rfl⟩ := List.mem_map.mp mv
    obtain ⟨y, hy, rfl⟩ := List.mem_map.mp mu
    exact ⟨.b x y, rfl, rfl, trivial⟩
def SOME : List Str := ["", "a", "b", "ab", "aa", "z", "ba", "abcdefghijkl", "abcdefghijkm", "zzz"]
theorem some_short : ∀ s ∈ SOME, s.length ≤ 1000 := by decide +kernel
/-- rows in the heap -/
inductive Rows (K : PySem.W.Frag) (H : Hp) : List V → Prop
  | nil : Rows K H []
  | cons {l : Addr} {xs ys : List V} : H l = some (.lst xs) → RowK xs → Rows K H ys → Rows K H (.ref l :: ys)
theorem Rows.get {K : PySem.W.Frag} {H : Hp} : ∀ {vs : List V} {i : Nat} {v : V}, Rows K H vs → vs[i]? = some v → ∃ l xs, v = .ref l ∧ H l = some (.lst xs) ∧ RowK xs
  | _, _, _, .nil, e => nomatch e
  | _, 0, _, .cons a b _, e => by
    cases Option.some.inj e
    exact ⟨_, _, rfl, a, b⟩
  | _, _ + 1, _, .cons _ _ t, e => Rows.get t e
theorem not_ne {p : Prop} [Decidable p] (h : p) : ¬ (!decide p) = true := by
  rw [decide_eq_true h]
  decide
end Gk
/-! Gk29: an own exception (below ValueError) whose __init__ says super().__init__(a text) and keeps its argument: what such an __init__ promises. -/
namespace Gk
open PySem PySem.Spec PyProof.Rows L2
/-- the scope of such an __init__ -/
structure SupScope (prm : Str) (sc : Scope) : Prop where
  kind : sc.kind = .function
  co : sc.isCoroutine = false
  gen : sc.isGenerator = false
  sup : sc.names.lookup ("super" : Str) = some .globalImplicit
  cls : sc.names.lookup ("__class__" : Str) = some .free
  lself : sc.names.lookup ("self" : Str) = some .local
  lprm : sc.names.lookup prm = some .local
  nocell : ∀ x ∈ sc.names, x.2 ≠ .cell
  one : ∀ x ∈ sc.names, x.2 = .free → x.1 = ("__class__" : Str)
  ne : prm ≠ ("self" : Str)
/-- the context of its body -/
def cxS (CX : CXT) (P : Program) (w : World) (K : PySem.W.Frag) (mg : Str → Option Value) (base : Heap) (prm : Str) (env : Env) (A : Around) (outer : List Env) (s : Shared) (H : Hp) (E : XK) : Cx where
  prog := P
  w := w
  K := K
  mg := mg
  base := base
  A := A.deeper env
  N := ["self", prm]
  s_0 := s
  H_0 := H
  env := env
  outer := outer
  stack := env :: outer
  ex := []
  calm := true
  fn := fun _ => false
  pn := []
  xe := fun e s' => wpAny (model P w) (A.deeper env) (leaving env e) (fun _ s'' => CX outer H s E e s'') (fun e' s'' => CX outer H s E e' s'') s'
theorem one_cell {cc c : Addr} {x : Str} (h : ([("__class__", cc)] : List (Str × Addr)).lookup x = some c) : x = ("__class__" : Str) ∧ c = cc := by
  rw [List.lookup_cons] at h
  cases e : x == ("__class__" : Str) with
  | true =>
    rw [e] at h
    exact ⟨beq_iff_eq.mp e, (Option.some.inj h).symm⟩
  | false =>
    rw [e] at h
    cases h
section
variable {CX : CXT} {P : Program} {w : World} {K : PySem.W.Frag} {mg : Str → Option Value} {base : Heap} {prm qual : Str} {sc : Scope} {f cc D : Addr} {cd : Value} {A : Around} {outer : List Env} {s : Shared} {H : Hp} {E : XK} {e : Addr} {u : Value} {v : V} {h0 : Heap} {tk : Nat}
theorem inv_sup (S : SupScope prm sc) (hd : A.handled = none) (e0 : Env0 P w K mg base A outer s H) {oc : Obj} (hc : K.lookup cc = some oc) (hoc : oc.data = .cell (some (.ref D)))
    (hns : h0.Ns s.heap.objs.size (fun x => ([(("self" : Str), Value.ref e), (prm, u)] : List (Str × Value)).reverse.lookup x)) (hk : ∀ b o, s.heap.get? b = some o → h0.get? b = some o) (rv : RelV v u) :
    Inv (cxS CX P w K mg base prm (PySem.W.ksEnv qual sc s.heap.objs.size f cd cc) A outer s H E) [] [some (.ref e), some v] H { s with heap := h0, toks := tk } := by
  have hbase := e0.mod.kin _ _ hc
  obtain ⟨hheap, hH⟩ := e0.bs _ _ hbase
  refine ⟨⟨e0.mod, S.kind, rfl, rfl, Nat.le_refl _, fun x y c h1 h2 => ?_, fun x hx => ?_, (fun x c h _ => nomatch h), fun _ => hd, Around.frames_deeper e0.frames, .inr ⟨rfl, rfl⟩, (fun b z => nomatch z), e0.bs, e0.bsz, (fun b _ _ z => nomatch z), (fun b z => nomatch z), e0.funs, e0.frf⟩,
    rfl, e0.bare, Un.kept hk, ⟨_, hns, fun i x v' h1 h2 h3 => ?_⟩, fun x c h => ?_, e0.hok.fresh (Nat.le_refl _), fun x c h => ?_, (fun p hp => nomatch hp), e0.hok.kept hk, rfl⟩
  · rw [(one_cell h1).1, (one_cell h2).1]
  · have hx : sc.names.lookup x = some .cell ∨ sc.names.lookup x = some .free := hx
    rcases hx with hx | hx
    · exact absurd rfl (S.nocell _ (PySem.mem_of_lookup hx))
    · have z := S.one _ (PySem.mem_of_lookup hx) rfl
      have z : x = ("__class__" : Str) := z
      subst z
      exact ⟨cc, by show ([("__class__", cc)] : List (Str × Addr)).lookup _ = _; rw [List.lookup_cons, beq_self_eq_true]⟩
  · match i, h1, h2 with
    | 0, h1, h2 =>
      cases Option.some.inj h1
      cases Option.some.inj (Option.some.inj h2)
      refine ⟨.ref e, rfl, .inl ⟨S.lself, ?_⟩⟩
      show ([(prm, u), (("self" : Str), Value.ref e)] : List (Str × Value)).lookup ("self" : Str) = _
      rw [List.lookup_cons, beq_eq_false_iff_ne.mpr (fun z => S.ne z.symm), List.lookup_cons, beq_self_eq_true]
    | 1, h1, h2 =>
      cases Option.some.inj h1
      cases Option.some.inj (Option.some.inj h2)
      refine ⟨u, rv, .inl ⟨S.lprm, ?_⟩⟩
      show ([(prm, u), (("self" : Str), Value.ref e)] : List (Str × Value)).lookup prm = _
      rw [List.lookup_cons, beq_self_eq_true]
    | n + 2, h1, h2 => cases h1
  · obtain ⟨rfl, rfl⟩ := one_cell h
    exact ⟨_, _, hk _ _ hheap, hoc⟩
  · obtain ⟨rfl, rfl⟩ := one_cell h
    exact hH
end
/-- what such an __init__ promises: the exception at e gets its dict with the one field -/
def spErr (C : Addr) (fld : Str) : Sp := fun vs H Q _ => ∃ (e : Addr) (v : V), vs = [.ref e, v] ∧ H e = some (exo e C none) ∧ ∀ d, H d = none → d ≠ e → Q .non (upd (upd H d (exd d [(fld, v)])) e (exo e C (some d)))
section
variable {CX : CXT} {P : Program} {w : World} {K : PySem.W.Frag} {mg : Str → Option Value} {base : Heap} {prm name qual fld tx file : Str} {params : Arguments} {body : List Stmt} {sc : Scope} {f cc C cda : Addr} {dV kV doc pm ct oc : Value} {an od : Option Addr}
  {osl ccs csl : Array (Option Value)} {ccl cl : Value} {cdd cld : Option Addr} {vs : Array Value} {tf : Tok} {k jj : Nat} {p0 p1 p2 p3 p4 pc q1 q2 q3 q4 : Pos} {ar : Arg}
/-- what the text's places give -/
structure SupText (qual prm fld tx : Str) (sc : Scope) (jj : Nat) (p0 p1 p2 p3 p4 pc q1 q2 q3 q4 : Pos) : Prop where
  inter : ∀ (L a : Addr) (cd : Value) (cc : Addr), interactive (PySem.W.ksEnv qual sc L a cd cc) = false
  sw1 : ∀ (L a : Addr) (cd : Value) (cc : Addr), swapsWith (.Call (.Attribute (.Call (.Name "super" p0) [] [] p1) "__init__" p2) [.Constant (.str tx) jj pc] [] p3) none p4.line (PySem.W.ksEnv qual sc L a cd cc) = pure false
  ev : ∀ (L a : Addr) (cd : Value) (cc : Addr), ∃ pl : Sem Bool, eval (.Call (.Attribute (.Call (.Name "super" p0) [] [] p1) "__init__" p2) [.Constant (.str tx) jj pc] [] p3) (PySem.W.ksEnv qual sc L a cd cc) = (do
      let ov ← attributeBase (.Call (.Name "super" p0) [] [] p1) "__init__" (PySem.W.ksEnv qual sc L a cd cc) (eval (.Call (.Name "super" p0) [] [] p1) (PySem.W.ksEnv qual sc L a cd cc))
      standAt p2.atName
      let (f, first) ← holding [ov] (getMethod ov "__init__" pl)
      callWith p3 f first (backTo p3 (starEach [.Constant (.str tx) jj pc] (PySem.W.ksEnv qual sc L a cd cc))) [])
  st : ∀ (L a : Addr) (cd : Value) (cc : Addr), starEach [.Constant (.str tx) jj pc] (PySem.W.ksEnv qual sc L a cd cc) = (false, eval (.Constant (.str tx) jj pc) (PySem.W.ksEnv qual sc L a cd cc)) :: starEach [] (PySem.W.ksEnv qual sc L a cd cc)
  sw2 : ∀ (L a : Addr) (cd : Value) (cc : Addr), swapsWith (.Name prm q3) (some (.Attribute (.Name "self" q1) fld q2)) q4.line (PySem.W.ksEnv qual sc L a cd cc) = pure false
theorem call_mw {prog : Program} {w : World} {A : Around} {E : Value → Shared → Prop} {h : Heap} {g : Array GenState} {d : _root_.PySem.Drawn} {t : Nat} {os : OsState} {nm q : Str} {C N : Addr} {bs bm : List Value} {hdct : Bool} {sn : List Str} {sub : List Value} {ab : Bool} {col : Option Bool}
    {dd : Option Addr} {k0 k1 k2 k3 k5 : Option Value} {u e t0 : Addr} {rest : List Value} {Q : Value → Shared → Prop}
    (hC : h.get? C = some (excClassObj nm q C N bs bm hdct sn sub ab col dd k0 k1 k2 k3 k5 "ValueError.__new__")) (he : h.get? e = some (HandSPX.excO C t0)) (hu : h.get? u = some (PySem.W.kxs_mw "ValueError.__init__" e)) (hrest : rest.length ≤ sizeLine)
    (hq : ∀ h' t1, (∀ b o, b ≠ e → h.get? b = some o → h'.get? b = some o) → h'.get? e = some (HandSPX.excO C t1) → Q .none ⟨h', g, d, t, os⟩) :
    wpAny (model prog w) A (call (.ref u) rest) Q E ⟨h, g, d, t, os⟩ := by
  refine wpAny_call (codeAny_of_tree ?_)
  show wpAny _ A.in1 (callAny (.ref u) ⟨rest, []⟩) _ _ _
  simp only [callAny]
  refine wpAny_bind (wpAny_load hu ?_)
  simp only [PySem.W.kxs_mw, show (Value.type "method-wrapper" == Value.type "method" || Value.type "method-wrapper" == Value.type "builtin_function_or_method" || Value.type "method-wrapper" == Value.type "method-wrapper") = true by decide, if_true]
  refine W.KFB.if_so (by decide) ?_
  refine wpAny_bind (ESX.check_bound F.excBase_ValueError hC he rfl ?_)
  refine wpAny_bind (wpAny_pure (wpAny_pure ?_))
  refine ⟨Code.quiet_builtin _ (by decide +kernel), codeAny_builtin F.excBase_ValueError.initEntry ?_⟩
  rw [Around.under_plainId F.excBase_ValueError.init.plain _]
  wp_walk
  refine hq _ h.objs.size (fun b o hb ho => ?_) ?_
  · rw [Heap.get?_update_other _ _ (Ne.symm hb)]
    exact Heap.get?_push_of_some _ ho
  · rw [Heap.get?_update_self _ (Heap.get?_push_of_some _ he) rfl]
    rfl
theorem fn_sup (lk : K.lookup f = some ⟨oc, od, .func (PySem.W.ksFn name qual params body sc dV kV doc pm an (.ref cda) ct cc), osl⟩) (hcd : PySem.W.codeIn K (.ref cda) qual = true) (S : SupScope prm sc)
    (hp : (params.posonlyargs ++ params.args).head? = some ar) (har : ar.arg = ("self" : Str)) (hcode : K.lookup cda = some ⟨ccl, cdd, .fields vs, ccs⟩) (hvs : vs[2]? = some (.str file tf)) (hfile : ((P.main.file : Str) == file) = true)
    (htop : (P.main.scope.names.lookup ("super" : Str)).isSome = false) (hcell : K.lookup cc = some ⟨cl, cld, .cell (some (.ref C)), csl⟩) (hsup : mg "super" = none) (hop : PySem.W.nsIn K cStatics "thirdparty.any" = some none)
    (hsi : PySem.W.ks_superIn K C C "__init__" = some (some (.builtin "ValueError.__init__"))) (T : OexC K C) (hno : PySem.W.findIn K (.ref C) fld = some none)
    (hbody : body = [.Expr (.Call (.Attribute (.Call (.Name "super" p0) [] [] p1) "__init__" p2) [.Constant (.str tx) jj pc] [] p3) p4, .Assign [.Attribute (.Name "self" q1) fld q2] (.Name prm q3) q4])
    (hx : SupText qual prm fld tx sc jj p0 p1 p2 p3 p4 pc q1 q2 q3 q4) (hnd : (prm == ("__debug__" : Str)) = false) (hncd : (prm == ("__classdict__" : Str)) = false) :
    FnOk P w K mg base CX (k + 1) f (PySem.W.ksFn name qual params body sc dV kV doc pm an (.ref cda) ct cc) ["self", prm] (spErr C fld) := by
  have len : ∀ vs H Q E, spErr C fld vs H Q E → vs.length = (["self", prm] : List Str).length := fun vs H Q E h => by
    obtain ⟨e, v, rfl, _⟩ := h
    rfl
  refine ⟨len, fun A outer s H args us vs' Q E hr e0 hb r hsp => ?_⟩
  obtain ⟨e, v, rfl, he, kq⟩ := hsp
  obtain ⟨u1, u, rfl, ru1, ru⟩ := r.two
  obtain rfl : u1 = Value.ref e := ru1
  have KX : K.In s.heap := e0.mod.kin.keeps fun b o e => (e0.bs b o e).1
  have lim : s.heap.NoLimit := e0.mod.nolimit.keeps fun b o e => (e0.bs b o e).1
  refine PySem.ks_codeAny_call_defAt (fd := PySem.W.ksFn name qual params body sc dV kV doc pm an (.ref cda) ct cc) (body := body) (binds := [(("self" : Str), Value.ref e), (prm, u)]) hr.depth (KX _ _ lk) rfl lim (PySem.W.codeRec_of KX hcd) rfl hb S.nocell (fun x hm => ?_) (fun h0 hns hk => ?_) S.co S.gen S.kind
  · rcases List.mem_cons.mp hm with rfl | hm
    · exact S.lself
    · rw [List.mem_singleton.mp hm]
      exact S.lprm
  subst hbody
  have I := inv_sup (CX := CX) (E := E) (qual := qual) (f := f) (cd := .ref cda) (tk := s.toks + 2) S hr.hd e0 hcell rfl hns hk ru
  change PySem.wpAt (model P w) (A.deeper (PySem.W.ksEnv qual sc s.heap.objs.size f (.ref cda) cc)) (.func _ (PySem.W.ksEnv qual sc s.heap.objs.size f (.ref cda) cc)) (execs _ (PySem.W.ksEnv qual sc s.heap.objs.size f (.ref cda) cc)) _ _ _
  have K0 : K.In h0 := KX.keeps hk
  obtain ⟨nm, qn, N, bs, bm, sn, sub, ab, col, dd, k0, k1, k2, k3, k5, hC, hbm⟩ := T.cls
  have hcl : PySem.W.clsIn K C = some { name := nm, bases := bs, mro := .ref C :: bm, ns := N, qualname := qn, hasDict := true, slotNames := sn, subclasses := sub, abstract := ab, collection := col, hasDel := false } := by unfold PySem.W.clsIn; rw [hC] <;> rfl
  obtain ⟨t1, hoe⟩ := exo_at I.hok he
  obtain ⟨pl, hev⟩ := hx.ev s.heap.objs.size f (.ref cda) cc
  refine PySem.ks_wpAt_execs_cons (PySem.ks_wpAt_Expr_any (PySem.ks_wpAt_MethodCall (pl := pl) (PySem.ks_wpAt_super_base S.sup S.cls (by decide) rfl (K0 _ _ lk) rfl hp rfl (K0 _ _ hcode) rfl hvs hfile htop ?_) hev) (hx.inter _ _ _ _) (hx.sw1 _ _ _ _))
  obtain ⟨mb, b1, b2⟩ := I.mod.blt
  refine PySem.W.ks_loadName_global S.kind S.sup (Calls.loadGlobal_builtin (I.mod.glob.keeps I.bk) hsup (b1.keeps I.bk) ((b2 _ (by decide)).trans (show bootBuiltins "super" = some (.type "super") by decide +kernel)) ⟨rfl, ?_⟩)
  refine wpAny_loadName_free S.kind S.cls rfl ⟨_, K0 _ _ hcell, rfl⟩ ?_
  simp only [har]
  refine wpAny_loadName_local S.kind S.lself hns (show ([(prm, u), (("self" : Str), Value.ref e)] : List (Str × Value)).lookup ("self" : Str) = some (.ref e) by rw [List.lookup_cons, beq_eq_false_iff_ne.mpr (fun z => S.ne z.symm), List.lookup_cons, beq_self_eq_true]) ?_
  refine PySem.ks_wpAny_isType_cls (K0 _ _ hC) rfl ⟨rfl, ?_⟩
  have hmC : PySem.W.mroIn K C (.ref C) = some true := by
    unfold PySem.W.mroIn
    rw [hcl, Option.bind_some, if_neg (show ¬ (List.isEmpty (Value.ref C :: bm) = true) from Bool.false_ne_true), List.contains_cons, beq_self_eq_true, Bool.true_or]
  have hmV : PySem.W.mroIn K C (.type "ValueError") = some true := by
    unfold PySem.W.mroIn
    rw [hcl, Option.bind_some, if_neg (show ¬ (List.isEmpty (Value.ref C :: bm) = true) from Bool.false_ne_true), List.contains_cons, PySem.HandSPX.refsVE_contains "ValueError" bm hbm, show PySem.HandSPX.veTail.contains (Value.type "ValueError") = true by decide +kernel, Bool.or_true]
  refine PySem.ks_wpAny_call_super (K0 _ _ hC) rfl hoe rfl (fun c z => nomatch z) (PySem.W.looks_mroIn K0 hmC) (fun h1 e1 k1 => ?_)
  have K1 := K0.keeps k1
  have IA : PySem.W.InstAt h1 e ({ cls := .ref C, dict := none, data := .fields #[.ref t1, .none, .none, .none, .bool false, .none] } : Obj) C none := ⟨k1 _ _ hoe, rfl, rfl, trivial⟩
  have hsi' : PySem.W.alongIn K "__init__" (((Value.ref C :: bm).dropWhile (· != .ref C)).drop 1) = some (some (.builtin "ValueError.__init__")) := by
    unfold PySem.W.ks_superIn at hsi
    rw [hcl] at hsi
    exact hsi
  refine PySem.W.kxs_getMethod PySem.W.kxs_ValueError e1 (PySem.W.looks_opaque K1 hop) (l₀ := .ref C :: bm) (fun A Q E s k q => wpAny_bind ((PySem.W.looks_clsIn K1 hcl) A _ E s k (wpAny_pure q))) rfl K1 hsi' (IA.type.andThen (PySem.W.looks_mroIn K1 hmV)) (PySem.W.ks_ne K1 IA hcl) (by decide) ?_
  have kp : ∀ b o, h1.get? b = some o → (h1.push (PySem.W.kxs_mw "ValueError.__init__" e)).get? b = some o := fun b o z => Heap.get?_push_of_some _ z
  rw [hx.st]
  refine PySem.W.kxs_callWith (i := "ValueError.__init__") (x := e) rfl (Calls.evalArgs_plain ?_)
  show wpAny _ _ (spliced [(false, eval (.Constant (.str tx) jj pc) (PySem.W.ksEnv qual sc s.heap.objs.size f (.ref cda) cc))]) _ _ _
  refine Calls.spliced_cons (Calls.Constant_str (Calls.spliced_nil ⟨Heap.get?_push_at rfl rfl, ?_⟩))
  refine call_mw (kp _ _ (K1 _ _ hC)) (t0 := t1) (kp _ _ (k1 _ _ hoe)) (Heap.get?_push_at rfl rfl) (by rw [sizeLine_eq]; show 1 ≤ 16777216; decide) (fun h2 t2 k2 hx2 => ?_)
  refine PySem.wpAt_of_wpAny ?_
  have J1 := I.kept (h' := h1.push (PySem.W.kxs_mw "ValueError.__init__" e)) (t' := 0) fun b o z => kp b o (k1 b o z)
  have J2 := J1.write (t' := s.toks + 4) (x := e) (e := e) (o := exo e C none) (by rw [he]; exact True.intro) (.inl rfl) k2 ⟨_, hx2⟩ (exo_ok hx2)
  have eu : upd H e (exo e C none) = H := by
    funext b
    by_cases hb : b = e
    · rw [hb, upd_same, he]
    · rw [upd_ne hb]
  rw [eu] at J2
  have oN : (["self", prm] : List Str)[0]? = some ("self" : Str) := rfl
  have ht : PSs (cxS CX P w K mg base prm (PySem.W.ksEnv qual sc s.heap.objs.size f (.ref cda) cc) A outer s H E) [.Assign [.Attribute (.Name "self" q1) fld q2] (.Name prm q3) q4] _ :=
    pss_one (ps_ost (pe_var (i := 0) rfl (Or.inl S.lself) (by decide) (by decide)) (pe_var (i := 1) rfl (Or.inl S.lprm) hnd hncd) (hx.sw2 _ _ _ _))
  refine wpAny_mono (ht.run [] _ _ H { nx := fun _ H' => Q .non H', rt := Q } J2 ⟨v, rfl, .ref e, rfl, e, C, rfl, T, hno, .inl ⟨he, fun dx hdx ne => kq dx hdx ne⟩⟩) (fun fl s' hs => ?_) fun e s' hs => hs
  cases fl with
  | ret u =>
    obtain ⟨v, σ', H', J, rv, q⟩ := hs
    exact ⟨v, H', J.os, J.bare, J.base, J.hok, rv, q⟩
  | next =>
    obtain ⟨σ', H', J, q⟩ := hs
    exact ⟨V.non, H', J.os, J.bare, J.base, J.hok, rfl, q⟩
  | brk =>
    obtain ⟨_, _, _, q⟩ := hs
    exact False.elim q
  | cont =>
    obtain ⟨_, _, _, q⟩ := hs
    exact False.elim q
end
end Gk
/-! Gk30: own exceptions as values: C(e), C(k = e). -/
namespace Gk
open PySem PySem.Spec PyProof.Rows L2
section
variable {M : Model} {prog : Program} {w : World} {A : Around} {E : Value → Shared → Prop} {R : Result → Shared → Prop} {h : Heap} {g : Array GenState} {d : _root_.PySem.Drawn} {t : Nat} {os : OsState}
variable {nm q : Str} {C N : Addr} {bs bm bmB : List Value} {hdct : Bool} {sn : List Str} {sub : List Value} {ab : Bool} {col : Option Bool} {dd : Option Addr} {k0 k1 k2 k3 k5 : Option Value} {B newId initId : String} {n : Str} {u : Value}
theorem check_new_kw (F : ExcBaseFacts B newId initId bmB) (hT : ∀ X : String, bm.contains (.type X) = bmB.contains (.type X)) {Q : Unit → Shared → Prop}
    (hC : h.get? C = some (excClassObj nm q C N bs bm hdct sn sub ab col dd k0 k1 k2 k3 k5 newId)) (hq : Q () ⟨h, g, d, t, os⟩) : wpAny M A (checkBuiltinCall newId ⟨[.ref C], [(n, u)]⟩) Q E ⟨h, g, d, t, os⟩ := by
  have hcont : (Value.ref C :: bm).contains (.type B) = true := by rw [List.contains_cons, hT, F.hasB, Bool.or_true]
  have hstar := F.noStar
  simp only [checkBuiltinCall, F.newKind, F.newSplit, F.newRow]
  repeat (first | refine wpAny_loadPart_at hC ?_ | (refine wpAny_isSubtype_exc hC ?_; rw [hcont]) | refine wpAny_staticBase_exc hC ?_ | refine wpAny_madeBy_exc hC ?_ | simp only [bne_self_eq_false, Bool.false_eq_true, if_false] | wp_step)
  exact hq
theorem new_kw (F : ExcBaseFacts B newId initId bmB) (hT : ∀ X : String, bm.contains (.type X) = bmB.contains (.type X))
    (hC : h.get? C = some (excClassObj nm q C N bs bm hdct sn sub ab col dd k0 k1 k2 k3 k5 newId))
    (hq : R (.ok (.ret (.ref (h.objs.size + 1)))) ⟨(h.push { cls := .type "tuple", data := .seq #[] }).push
      { cls := .ref C, data := .fields #[.ref h.objs.size, .none, .none, .none, .bool false, .none] }, g, d, t, os⟩) :
    codeAny (model prog w) A (.builtin newId ⟨[.ref C], [(n, u)]⟩) R ⟨h, g, d, t, os⟩ := by
  have hends := F.ends
  have hcB : (Value.ref C :: bm).contains (.type B) = true := by rw [List.contains_cons, hT, F.hasB, Bool.or_true]
  have hcA : (Value.ref C :: bm).contains (.type "AttributeError") = false := by rw [List.contains_cons, hT, F.noAttr]; rfl
  have hcN : (Value.ref C :: bm).contains (.type "NameError") = false := by rw [List.contains_cons, hT, F.noName]; rfl
  have hrest : ([] : List Value).length ≤ sizeLine := Nat.zero_le _
  refine codeAny_builtinAt F.entry ?_
  unfold Builtin.«BaseException.__new__»
  refine PySem.wpAt_bind ?_
  show PySem.wpAt _ _ _ (stack >>= _) _ _ _
  refine PySem.wpAt_bind (PySem.wpAt_stack fun p below => PySem.wpAt_of_wpAny ?_)
  wp_walk
  refine PySem.wpAt_of_wpAny ?_
  rw [F.owner]
  repeat (first | with_reducible refine HandSPX.wpAny_madeHere_exc F.canon hC ?_ | with_reducible refine wpAny_madeHere_exc F.canon hC ?_ | with_reducible refine wpAny_loadPart_at hC ?_ | (with_reducible refine wpAny_isSubtype_exc hC ?_; first | rw [hcB] | rw [hcA] | rw [hcN]) | wp_step)
  show R _ _
  rw [Heap.size_push]
  exact hq
theorem check_call_kw {Q : Unit → Shared → Prop} (hC : h.get? C = some (excClassObj nm q C N bs bm hdct sn sub ab col dd k0 k1 k2 k3 k5 newId))
    (hq : Q () ⟨h, g, d, t, os⟩) : wpAny M A (checkBuiltinCall "type.__call__" ⟨[.ref C], [(n, u)]⟩) Q E ⟨h, g, d, t, os⟩ := by
  have f3 := tc_sub
  have hT : (⟨h, g, d, t, os⟩ : Shared).TypeIs (.ref C) "type" := ⟨_, hC, rfl⟩
  simp only [checkBuiltinCall, tc_kind, tc_split]
  repeat (any_goals (first | assumption | with_reducible refine wpAny_loadPart_at hC ?_ | with_reducible refine wpAny_onRaise ?_ | with_reducible refine wpAny_map ?_ | wp_step))
theorem type_call_kw (F : ExcBaseFacts B newId initId bmB) (hT : ∀ X : String, bm.contains (.type X) = bmB.contains (.type X)) {fI : Addr} {Q : Fin → Shared → Prop}
    (hC : h.get? C = some (excClassObj nm q C N bs bm hdct sn sub ab col dd k0 k1 k2 k3 k5 newId))
    (hi : W.Looks (model prog w) h (typeLookup (.ref C) "__init__") (some (.ref fI))) (hb : ∀ self, W.Looks (model prog w) h (bindSpecial (.ref fI) self) (.ref fI, [self]))
    (hq : codeAny (model prog w) A (.call (.ref fI) ⟨[.ref (h.objs.size + 1)], [(n, u)]⟩)
      (fun r s' => match r with | .ok (.ret v) => v = .none ∧ Q (.done (.ret (.ref (h.objs.size + 1)))) s' | .ok _ => False | .error e => E e s')
      ⟨(h.push (W.kdv_tup [])).push (HandSPX.excO C h.objs.size), g, d, t, os⟩) :
    wpAny (model prog w) A (Builtin.«type.__call__» ⟨[.ref C], [(n, u)]⟩) Q E ⟨h, g, d, t, os⟩ := by
  repeat (first | with_reducible refine wpAny_loadPart_at hC ?_ | with_reducible refine wpAny_madeBy_exc hC ?_ | wp_step)
  refine codeAny_call_builtin_code (Code.quiet_builtin _ F.quiet) (check_new_kw F hT hC ?_)
  refine new_kw F hT hC ?_
  show wpAny _ _ _ _ _ _
  have k : ∀ b o, h.get? b = some o → ((h.push (W.kdv_tup [])).push (HandSPX.excO C h.objs.size)).get? b = some o := fun b o e => Heap.get?_push_of_some _ (Heap.get?_push_of_some _ e)
  have hC₁ := k _ _ hC
  have hget : ((h.push (W.kdv_tup [])).push (HandSPX.excO C h.objs.size)).get? (h.objs.size + 1) = some (HandSPX.excO C h.objs.size) := by heap_get
  have hcC : (Value.ref C :: bm).contains (.ref C) = true := by simp
  have i1 := hi.keeps k
  have b1 := (hb (.ref (h.objs.size + 1))).keeps k
  unfold isInstance
  repeat (first | with_reducible refine wpAny_loadPart_at hget ?_ | (with_reducible refine wpAny_isSubtype_exc hC₁ ?_; rw [hcC]) | wp_step)
  show wpAny _ _ (typeLookup (.ref C) _) _ _ _
  refine i1.at ?_
  refine wpAny_holding (wpAny_bind (b1.at ?_))
  refine wpAny_bind (wpAny_call (codeAny_mono hq fun r s' z => ?_))
  rcases r with e | (v | _ | _ | _) <;> first | exact z | exact z.elim | skip
  obtain ⟨rfl, z⟩ := z
  first
    | exact wpAny_pure (wpAny_pure z)
    | (wp_walk; exact z)
theorem call_kw (F : ExcBaseFacts B newId initId bmB) (hT : ∀ X : String, bm.contains (.type X) = bmB.contains (.type X)) {fI : Addr}
    (hC : h.get? C = some (excClassObj nm q C N bs bm hdct sn sub ab col dd k0 k1 k2 k3 k5 newId))
    (hi : W.Looks (model prog w) h (typeLookup (.ref C) "__init__") (some (.ref fI))) (hb : ∀ self, W.Looks (model prog w) h (bindSpecial (.ref fI) self) (.ref fI, [self]))
    (hq : codeAny (model prog w) (A.under (.builtin "type.__call__" ⟨[.ref C], [(n, u)]⟩)) (.call (.ref fI) ⟨[.ref (h.objs.size + 1)], [(n, u)]⟩) (W.InitBack (h.objs.size + 1) R)
      ⟨(h.push (W.kdv_tup [])).push (HandSPX.excO C h.objs.size), g, d, t, os⟩) :
    codeAny (model prog w) A (.call (.ref C) ⟨[], [(n, u)]⟩) R ⟨h, g, d, t, os⟩ := by
  have f1 := tc_lookup
  have f2 := tc_bind (.ref C)
  have hTy : (⟨h, g, d, t, os⟩ : Shared).TypeIs (.ref C) "type" := ⟨_, hC, rfl⟩
  refine codeAny_of_tree ?_
  show wpAny _ _ (callAny (.ref C) _) _ _ _
  repeat (any_goals (first | assumption | with_reducible refine wpAny_loadPart_at hC ?_ | wp_step))
  refine ⟨rfl, ?_⟩
  refine codeAny_call_builtin_at (Code.quiet_builtin _ (by decide +kernel)) _root_.PySem.entry_typeCall (check_call_kw hC (type_call_kw F hT hC hi hb ?_))
  refine codeAny_mono hq fun r s' z => ?_
  rcases r with e | (v | _ | _ | _) <;> exact z
end
/-- an exception class of the program's own and its __init__ -/
structure ErC (P : Program) (w : World) (K : PySem.W.Frag) (mg : Str → Option Value) (base : Heap) (k : Nat) (x : Str) (C : Addr) (prm fld : Str) : Prop where
  T : OexC K C
  gl : mg x = some (.ref C)
  ex : ∃ (fI : Addr) (fd : FuncData), PySem.W.findIn K (.ref C) "__init__" = some (some (.ref fI)) ∧ PySem.W.typeIn K (.ref fI) = some (.type "function") ∧ FnOk P w K mg base CX0 k fI fd ["self", prm] (spErr C fld) ∧
    (∀ s u v, BindsTo s fd ⟨[u, v], []⟩ [(("self" : Str), u), (prm, v)]) ∧ ∀ s u v, BindsTo s fd ⟨[u], [(prm, v)]⟩ [(("self" : Str), u), (prm, v)]
/-- C(e): the exception at a, its dict at d -/
def tMkV (C : Addr) (fld : Str) (te : TE) : TE := fun σ H Q => te σ H fun v H1 => ∀ H2 a d, Kp T0 H1 H2 → H1 a = none → H2 a = some (exo a C (some d)) → H2 d = some (exd d [(fld, v)]) → Q (.ref a) H2
section
variable {X : Cx} {C : Addr} {k : Nat} {x prm fld : Str} {p pos kpos : Pos} {e : Expr} {te : TE}
theorem run_exc {pins : List (Addr × Obj)} {σ : L2.St} {H1 : Hp} {s1 : Shared} {Q : VK} {v : V} {u : Value} {args : Args} (T : ErC X.prog X.w X.K X.mg X.base k x C prm fld) (hr : Room (k + 1) X.A) (I1 : Inv X pins σ H1 s1) (ru : RelV v u)
    (ha : args = ⟨[u], []⟩ ∨ args = ⟨[], [(prm, u)]⟩) (q : ∀ H2 a d, Kp T0 H1 H2 → H1 a = none → H2 a = some (exo a C (some d)) → H2 d = some (exd d [(fld, v)]) → Q (.ref a) H2) :
    wpAny (model X.prog X.w) X.A (call (.ref C) args.pos args.kw) (EP X pins σ Q) X.xe s1 := by
  obtain ⟨nm, qn, N, bs, bm, sn, sub, ab, col, dd, k0, k1, k2, k3, k5, hC, hbm⟩ := T.T.cls
  obtain ⟨fI, fd, iC, tI, F1, hb1, hb2⟩ := T.ex
  obtain ⟨hp, g, dr, tk, os⟩ := s1
  have hsz : hp.objs.size ≤ hp.objs.size + 1 := Nat.le_succ _
  have hn : H1 (hp.objs.size + 1) = none := I1.hok.fresh hsz
  have main : ∀ (ts : List Value), ∃ I2 : Inv X pins σ (upd H1 (hp.objs.size + 1) (exo (hp.objs.size + 1) C none)) ⟨(hp.push (PySem.W.kdv_tup ts)).push (PySem.HandSPX.excO C hp.objs.size), g, dr, tk, os⟩, True := fun ts => by
    have kk : ∀ b o, hp.get? b = some o → ((hp.push (PySem.W.kdv_tup ts)).push (PySem.HandSPX.excO C hp.objs.size)).get? b = some o := fun b o e => Heap.get?_push_of_some _ (Heap.get?_push_of_some _ e)
    have hget : ((hp.push (PySem.W.kdv_tup ts)).push (PySem.HandSPX.excO C hp.objs.size)).get? (hp.objs.size + 1) = some (PySem.HandSPX.excO C hp.objs.size) := by heap_get
    exact ⟨I1.laid (t' := tk) (a := hp.objs.size + 1) (o := exo (hp.objs.size + 1) C none) (h' := (hp.push (PySem.W.kdv_tup ts)).push (PySem.HandSPX.excO C hp.objs.size)) kk hsz (exo_ok hget), trivial⟩
  have sp : spErr C fld [.ref (hp.objs.size + 1), v] (upd H1 (hp.objs.size + 1) (exo (hp.objs.size + 1) C none)) (fun v2 H2 => v2 = .non ∧ Q (.ref (hp.objs.size + 1)) H2) E0 := by
    refine ⟨_, v, rfl, upd_same, fun d hd ne => ⟨rfl, q _ _ d ?_ hn upd_same (by rw [upd_ne ne]; exact upd_same)⟩⟩
    have hd1 : H1 d = none := by rw [upd_ne ne] at hd; exact hd
    exact (((Kp.refl (T := T0) H1).over hn).over hd1).over hn
  have r2 : Vals [V.ref (hp.objs.size + 1), v] [Value.ref (hp.objs.size + 1), u] := .cons rfl (.cons ru .nil)
  have fin : ∀ (ts : List Value) (I2 : Inv X pins σ (upd H1 (hp.objs.size + 1) (exo (hp.objs.size + 1) C none)) ⟨(hp.push (PySem.W.kdv_tup ts)).push (PySem.HandSPX.excO C hp.objs.size), g, dr, tk, os⟩) (r : Result) (s' : Shared),
      CR CX0 X.stack X.prog X.w (upd H1 (hp.objs.size + 1) (exo (hp.objs.size + 1) C none)) ⟨(hp.push (PySem.W.kdv_tup ts)).push (PySem.HandSPX.excO C hp.objs.size), g, dr, tk, os⟩ (fun v2 H2 => v2 = .non ∧ Q (.ref (hp.objs.size + 1)) H2) E0 r s' →
      PySem.W.InitBack (hp.objs.size + 1) (fun r s' => match r with | .ok (.ret v) => EP X pins σ Q v s' | .ok _ => False | .error e => X.xe e s') r s' := fun ts I2 r s' hq' => by
    cases r with
    | error er => exact pass0 pins σ _ _ er s' I2 hq'
    | ok fl =>
      cases fl with
      | ret u2 =>
        obtain ⟨v2, H', I3, rv, ev, q3⟩ := I2.after hq'
        subst ev
        exact ⟨rv, ⟨V.ref (hp.objs.size + 1), H', I3, rfl, q3⟩⟩
      | next => exact False.elim hq'
      | brk => exact False.elim hq'
      | cont => exact False.elim hq'
  rcases ha with rfl | rfl
  · obtain ⟨I2, _⟩ := main [u]
    refine wpAny_call (PySem.HandSPX.call_own F.excBase_ValueError (fun Y => PySem.HandSPX.refsVE_contains Y bm hbm) (I1.kIn _ _ hC) (PySem.W.looks_findIn I1.kIn iC) (fun self => PySem.W.bind_fn I1.kIn self tI) (by rw [sizeLine_eq]; show 1 ≤ 16777216; decide) ?_)
    refine codeAny_mono (F1.run _ X.stack _ _ ⟨[Value.ref (hp.objs.size + 1), u], []⟩ [Value.ref (hp.objs.size + 1), u] _ _ E0 (hr.make C [u] []) (I2.env0.make C [u] []) (hb1 _ _ _) r2 sp) fun r s' hq' => fin [u] I2 r s' hq'
  · obtain ⟨I2, _⟩ := main []
    refine wpAny_call (call_kw F.excBase_ValueError (fun Y => PySem.HandSPX.refsVE_contains Y bm hbm) (I1.kIn _ _ hC) (PySem.W.looks_findIn I1.kIn iC) (fun self => PySem.W.bind_fn I1.kIn self tI) ?_)
    refine codeAny_mono (F1.run _ X.stack _ _ ⟨[Value.ref (hp.objs.size + 1)], [(prm, u)]⟩ [Value.ref (hp.objs.size + 1), u] _ _ E0 (hr.make C [] [(prm, u)]) (I2.env0.make C [] [(prm, u)]) (hb2 _ _ _) r2 sp) fun r s' hq' => fin [] I2 r s' hq'
/-- one value -/
def One (Q : V → Hp → Prop) (vs : List V) (H : Hp) : Prop := match vs with
  | [v] => Q v H
  | _ => False
theorem one_of {Q : V → Hp → Prop} {vs : List V} {us : List Value} {H : Hp} (r : Vals vs us) (h : One Q vs H) : ∃ v u, vs = [v] ∧ us = [u] ∧ RelV v u ∧ Q v H := by
  match vs, us, r, h with
  | [], _, _, h => exact False.elim h
  | _ :: _ :: _, _, _, h => exact False.elim h
  | [v], _, r, h =>
    cases r with
    | cons ru rn =>
      cases rn
      exact ⟨v, _, rfl, rfl, ru, h⟩
theorem pe_exc (T : ErC X.prog X.w X.K X.mg X.base k x C prm fld) (hr : Room (k + 1) X.A) (hg : Gl X x) (he : PE X e te) (hdb : (x == ("__debug__" : Str)) = false := by decide)
    (hst : starEach [e] X.env = (false, eval e X.env) :: starEach [] X.env := by rfl) (hpl : (backTo pos (starEach [] X.env)).any (·.1) = false := by rfl) : PE X (.Call (.Name x p) [e] [] pos) (tMkV C fld te) := by
  refine ⟨fun pins s σ H Q I h => ?_⟩
  refine wpAny_Call_Name_kw (ld_glob I hg T.gl ?_ hdb)
  refine PySem.W.callWith_K (h₀ := X.base) I.ok.mod.kin T.T.kC (thn ((pa_cons he pa_nil (hs := hst)).run pos pins s σ H (One fun v H1 => ∀ H2 a d, Kp T0 H1 H2 → H1 a = none → H2 a = some (exo a C (some d)) → H2 d = some (exd d [(fld, v)]) → Q (.ref a) H2) I h) fun us s1 ⟨vs, H1, I1, r1, q1⟩ => ⟨I1.kIn, ?_⟩) hst hpl
  obtain ⟨v, u, rfl, rfl, ru, q⟩ := one_of r1 q1
  exact run_exc T hr I1 ru (.inl rfl) q
theorem pe_excK (T : ErC X.prog X.w X.K X.mg X.base k x C prm fld) (hr : Room (k + 1) X.A) (hg : Gl X x) (he : PE X e te) (hdb : (x == ("__debug__" : Str)) = false := by decide)
    (hall : (backToKw pos (keywordEach [⟨some prm, e, kpos⟩] X.env)).all (·.1.isSome) = true := by rfl) (hks : (backToKw pos (keywordEach [⟨some prm, e, kpos⟩] X.env)).filterMap (·.1) = [prm] := by rfl)
    (hpl : ((backTo pos (starEach [] X.env)).any (·.1) || (backToKw pos (keywordEach [⟨some prm, e, kpos⟩] X.env)).any (·.1.isNone)) = false := by rfl) : PE X (.Call (.Name x p) [] [⟨some prm, e, kpos⟩] pos) (tMkV C fld te) := by
  refine ⟨fun pins s σ H Q I h => ?_⟩
  refine wpAny_Call_Name_kw (ld_glob I hg T.gl ?_ hdb)
  refine PySem.W.callWith_KW0 (first := []) (h₀ := X.base) I.ok.mod.kin T.T.kC hall ?_ hpl
  refine thn ((pk_cons he pk_nil).run pos pins s σ H (One fun v H1 => ∀ H2 a d, Kp T0 H1 H2 → H1 a = none → H2 a = some (exo a C (some d)) → H2 d = some (exd d [(fld, v)]) → Q (.ref a) H2) I h) fun us s1 ⟨vs, H1, I1, r1, q1⟩ => ⟨I1.kIn, ?_⟩
  obtain ⟨v, u, rfl, rfl, ru, q⟩ := one_of r1 q1
  rw [hks]
  exact run_exc T hr I1 ru (.inr rfl) q
/-- o.f of an exception that is a value -/
def tExf (K : PySem.W.Frag) (n : Str) (te : TE) : TE := fun σ H Q => te σ H fun x H1 => ∃ (a C d : Addr) (fs : List (Str × V)) (v : V), x = .ref a ∧ H1 a = some (exo a C (some d)) ∧ H1 d = some (exd d fs) ∧ fs.lookup n = some v ∧ XfC K C ∧ PySem.W.findIn K (.ref C) n = some none ∧ Q v H1
theorem pe_exf {n : Str} (he : PE X e te) (hb : attributeBase e n X.env (eval e X.env) = eval e X.env := by rfl) : PE X (.Attribute e n pos) (tExf X.K n te) := by
  refine ⟨fun pins s σ H Q I h => ?_⟩
  refine attr_of hb (thn (he.run pins s σ H _ I h) fun u s1 hh => ?_)
  obtain ⟨x, H1, I1, rx, a, C, d, fs, v, ex, ea, ed, l, T, hno, q⟩ := hh
  subst ex
  obtain rfl : u = Value.ref a := rx
  obtain ⟨t1, ha⟩ := exo_at I1.hok ea
  obtain ⟨mA, hns, hr⟩ := exd_at I1.hok ed
  obtain ⟨od, ho, hl⟩ := lookIn_ns hns
  obtain ⟨u, hu, ru⟩ := RelO.some_of (v := v) (o := mA n) (by rw [← l]; exact hr n)
  have J : PySem.W.InstAt s1.heap a ({ cls := .ref C, dict := some d, data := .fields #[.ref t1, .none, .none, .none, .bool false, .none] } : Obj) C (some od) := ⟨ha, rfl, rfl, ho⟩
  exact HandSPX.exc_get I1.kIn J T.ga T.gg T.exC (PySem.W.findObj_own T.hdC hno rfl (by rw [hl, hu])) (handed_of ru) ⟨v, H1, I1.tok _, ru, q⟩
/-- what isinstance asks of an own exception class -/
structure IsC (K : PySem.W.Frag) (C : Addr) : Prop where
  xf : XfC K C
  ca : PySem.W.findIn K (.ref C) "__class__" = some (some (.builtin "object.__class__"))
  cn : PySem.W.specialIn K (.builtin "object.__class__") "__get__" = some (some (.builtin "getset_descriptor.__get__"))
  ct : PySem.W.takesIn K (.builtin "object.__class__") = some true
  cm : PySem.W.mroIn K C (.type "object") = some true
/-- isinstance(e, c) of an exception that is a value -/
def rIsX (K : PySem.W.Frag) : List V → Hp → VK → Prop := fun xs H Q => ∃ (a C d : Addr) (fs : List (Str × V)) (c : V) (u : Value) (b : Bool), xs = [.ref a, c] ∧ ClsV c u ∧ H a = some (exo a C (some d)) ∧ H d = some (exd d fs) ∧ OexC K C ∧ IsC K C ∧ PySem.W.kitOne K (.ref C) u = some b ∧ Q (.bl b) H
theorem call_isX : CallR X (.builtin "isinstance") (rIsX X.K) := by
  intro pins s σ H xs us Q I r h
  obtain ⟨a, C, d, fs, c, u, b, rfl, k, ea, ed, T, Z, e, q⟩ := h
  obtain ⟨u1, u2, rfl, r1, r2⟩ := vals2 r
  obtain rfl := k.eq r2
  obtain rfl : u1 = Value.ref a := r1
  obtain ⟨t1, ha⟩ := exo_at I.hok ea
  obtain ⟨mA, hns, hr⟩ := exd_at I.hok ed
  obtain ⟨od, ho, hl⟩ := lookIn_ns hns
  have J : PySem.W.InstAt s.heap a ({ cls := .ref C, dict := some d, data := .fields #[.ref t1, .none, .none, .none, .bool false, .none] } : Obj) C (some od) := ⟨ha, rfl, rfl, ho⟩
  have hcl : (PySem.W.clsIn X.K C).isSome = true := by
    obtain ⟨nm, q, N, bs, bm, sn, sub, ab, col, dd, k0, k1, k2, k3, k5, hC, hbm⟩ := T.cls
    unfold PySem.W.clsIn
    rw [hC]
    rfl
  exact PySem.W.kia_one (PySem.W.kitx_exc hcl Z.xf.ga Z.xf.gg Z.xf.exC Z.ca Z.cn Z.ct Z.cm) I.kIn J e (fun z => nomatch z) fun tk => ⟨.bl b, H, I.tok tk, rfl, q⟩
end
end Gk
/-! Gk31: repr of a list whose data may hold dicts at any depth (no dict of it is sys.modules, which is known of each tracked dict). -/
namespace Gk
open PySem PySem.Spec PyProof.Rows L2
mutual
/-- a value's data as the heap has it, no dict being sys.modules -/
inductive RS (h : Heap) : Value → PyData → Prop
  | none : RS h .none .none
  | bool (b : Bool) : RS h (.bool b) (.bool b)
  | int (i : Int) (t : Tok) : RS h (.int i t) (.int i)
  | str (x : Str) (t : Tok) : RS h (.str x t) (.str x)
  | list {a : Addr} {o : Obj} {vs : Array Value} {n : Nat} {xs : List PyData} : h.get? a = some o → o.cls = .type "list" → o.data = .seq vs n → RSs h vs.toList xs → RS h (.ref a) (.list xs)
  | tuple {a : Addr} {o : Obj} {vs : Array Value} {n : Nat} {xs : List PyData} : h.get? a = some o → o.cls = .type "tuple" → o.data = .seq vs n → RSs h vs.toList xs → RS h (.ref a) (.tuple xs)
  | dict {a : Addr} {o : Obj} {es : Array DictEntry} {n : Nat} {kvs : List (PyData × PyData)} : h.get? a = some o → o.cls = .type "dict" → o.data = .dict es n → (a == sysModules) = false → RSs h (es.toList.map (·.key)) (kvs.map (·.1)) → RSs h (es.toList.map (·.val)) (kvs.map (·.2)) → RS h (.ref a) (.dict kvs)
inductive RSs (h : Heap) : List Value → List PyData → Prop
  | nil : RSs h [] []
  | cons {v : Value} {vs : List Value} {d : PyData} {ds : List PyData} : RS h v d → RSs h vs ds → RSs h (v :: vs) (d :: ds)
end
mutual
theorem RS.reads {h : Heap} : ∀ {v : Value} {d : PyData}, RS h v d → ∃ as, Reads h v d as
  | _, _, .none => ⟨_, .none⟩
  | _, _, .bool b => ⟨_, .bool b⟩
  | _, _, .int i t => ⟨_, .int i t⟩
  | _, _, .str x t => ⟨_, .str x t⟩
  | _, _, .list e1 e2 e3 r => let ⟨_, q⟩ := RSs.reads r; ⟨_, .list e1 e2 e3 q⟩
  | _, _, .tuple e1 e2 e3 r => let ⟨_, q⟩ := RSs.reads r; ⟨_, .tuple e1 e2 e3 q⟩
  | _, _, .dict e1 e2 e3 _ r1 r2 => let ⟨_, q1⟩ := RSs.reads r1; let ⟨_, q2⟩ := RSs.reads r2; ⟨_, .dict e1 e2 e3 q1 q2⟩
theorem RSs.reads {h : Heap} : ∀ {vs : List Value} {ds : List PyData}, RSs h vs ds → ∃ as, ReadsAll h vs ds as
  | _, _, .nil => ⟨_, .nil⟩
  | _, _, .cons r rs => let ⟨_, q1⟩ := RS.reads r; let ⟨_, q2⟩ := RSs.reads rs; ⟨_, .cons q1 q2⟩
end
section
variable {P : Program} {w : World} {h : Heap}
mutual
theorem RS.repr : ∀ {v : Value} {d : PyData}, RS h v d → d.showable = true → d.shown.length ≤ sizeLine → ∃ bs, ReadAtMost h d.depth bs ∧ ReprK P w bs h d.depth v d.shown
  | _, _, .none, _, _ => ⟨[], (fun _ m => nomatch m), by simp only [PyData.shown]; exact .of_is ReprIs.none _ _ _⟩
  | _, _, .bool b, _, _ => ⟨[], (fun _ m => nomatch m), by simp only [PyData.shown]; exact .of_is (ReprIs.bool b) _ _ _⟩
  | _, _, .int i t, hs, _ => ⟨[], (fun _ m => nomatch m), by simp only [PyData.shown]; exact .of_is (ReprIs.int t (by simpa [PyData.showable] using hs)) _ _ _⟩
  | _, _, .str x t, _, hz => ⟨[], (fun _ m => nomatch m), by simp only [PyData.shown]; exact .of_is (ReprIs.str x t (by simpa only [PyData.shown] using hz)) _ _ _⟩
  | _, _, .list (a := a) (vs := vs) (xs := xs) e1 e2 e3 r, hs, hz => by
    have hz2 : (listText (PyData.shownAll xs)).length ≤ sizeLine := by simpa only [PyData.shown] using hz
    obtain ⟨bs, hb, hk⟩ := RSs.repr r (by simpa [PyData.showable] using hs) fun t ht => Nat.le_trans (listText_mem_le ht) hz2
    obtain ⟨as, rd⟩ := RS.reads (.list e1 e2 e3 r)
    have na : a ∉ bs := not_mem_of_deeper rd (by simp only [PyData.depth]; omega) hb
    refine ⟨a :: bs, ReadAtMost.cons rd (by simp only [PyData.depth]; omega) hb, ?_⟩
    simp only [PyData.depth, PyData.shown]
    obtain ⟨l⟩ := vs
    cases l with
    | nil =>
      cases (show RSs h [] xs from r)
      simp only [PyData.shownAll, listText_nil]
      exact ReprK.listEmpty e1 e2 e3
    | cons x l => exact ReprK.list e1 e2 e3 na (by simpa using hk.length_eq) fun i y e => hk.item i y (by simpa using e)
  | _, _, .tuple (a := a) (xs := xs) e1 e2 e3 r, hs, hz => by
    have hz2 : (tupleText (PyData.shownAll xs)).length ≤ sizeLine := by simpa only [PyData.shown] using hz
    obtain ⟨bs, hb, hk⟩ := RSs.repr r (by simpa [PyData.showable] using hs) fun t ht => Nat.le_trans (tupleText_mem_le ht) hz2
    obtain ⟨as, rd⟩ := RS.reads (.tuple e1 e2 e3 r)
    have na : a ∉ bs := not_mem_of_deeper rd (by simp only [PyData.depth]; omega) hb
    refine ⟨a :: bs, ReadAtMost.cons rd (by simp only [PyData.depth]; omega) hb, ?_⟩
    simp only [PyData.depth, PyData.shown]
    exact ReprK.tuple e1 e2 e3 na hk
  | _, _, .dict (a := a) (es := es) (kvs := kvs) e1 e2 e3 sy r1 r2, hs, hz => by
    have hz2 : (dictText (PyData.shownKv kvs)).length ≤ sizeLine := by simpa only [PyData.shown] using hz
    obtain ⟨hs1, hs2⟩ := PyData.showableKv_split kvs (by simpa [PyData.showable] using hs)
    obtain ⟨b1, hb1, k1⟩ := RSs.repr r1 hs1 fun t ht => let ⟨p, hp, hl⟩ := PyData.shownKv_key_le kvs t ht; Nat.le_trans hl (Nat.le_trans (dictText_mem_le hp) hz2)
    obtain ⟨b2, hb2, k2⟩ := RSs.repr r2 hs2 fun t ht => let ⟨p, hp, hl⟩ := PyData.shownKv_val_le kvs t ht; Nat.le_trans hl (Nat.le_trans (dictText_mem_le hp) hz2)
    obtain ⟨as, rd⟩ := RS.reads (.dict e1 e2 e3 sy r1 r2)
    have hb : ReadAtMost h (PyData.depthKv kvs) (b1 ++ b2) := (hb1.mono (PyData.depthAll_keys_le kvs)).append (hb2.mono (PyData.depthAll_vals_le kvs))
    have na : a ∉ b1 ++ b2 := not_mem_of_deeper rd (by simp only [PyData.depth]; omega) hb
    refine ⟨a :: (b1 ++ b2), ReadAtMost.cons rd (by simp only [PyData.depth]; omega) hb, ?_⟩
    simp only [PyData.depth, PyData.shown, PyData.shownKv_eq]
    exact ReprK.dict e1 e2 e3 sy na (ReprEntriesK.of_two es.toList _ _ (k1.more_le (fun b m => List.mem_append_left _ m) (PyData.depthAll_keys_le kvs)) (k2.more_le (fun b m => List.mem_append_right _ m) (PyData.depthAll_vals_le kvs)))
theorem RSs.repr : ∀ {vs : List Value} {ds : List PyData}, RSs h vs ds → PyData.showableAll ds = true → (∀ t ∈ PyData.shownAll ds, t.length ≤ sizeLine) → ∃ bs, ReadAtMost h (PyData.depthAll ds) bs ∧ ReprAllK P w bs h (PyData.depthAll ds) vs (PyData.shownAll ds)
  | _, _, .nil, _, _ => ⟨[], (fun _ m => nomatch m), by simp only [PyData.shownAll]; exact .nil⟩
  | _, _, .cons (d := d) (ds := ds) r rs, hs, hz => by
    have hs2 : d.showable = true ∧ PyData.showableAll ds = true := by simpa [PyData.showableAll] using hs
    obtain ⟨b1, hb1, k1⟩ := RS.repr r hs2.1 (hz _ (by simp only [PyData.shownAll]; exact List.mem_cons_self ..))
    obtain ⟨b2, hb2, k2⟩ := RSs.repr rs hs2.2 fun t ht => hz t (by simp only [PyData.shownAll]; exact List.mem_cons_of_mem _ ht)
    simp only [PyData.depthAll, PyData.shownAll]
    refine ⟨b1 ++ b2, (hb1.mono (Nat.le_max_left _ _)).append (hb2.mono (Nat.le_max_right _ _)), ?_⟩
    exact .cons ((k1.more fun b m => List.mem_append_left _ m).level_le (Nat.le_max_left _ _)) (k2.more_le (fun b m => List.mem_append_right _ m) (Nat.le_max_right _ _))
end
end
mutual
/-- a tracked value's data, with dicts, outside T -/
inductive Dd (T : Addr → Prop) (H : Hp) : V → PyData → Prop
  | sc {v : V} {d : PyData} : Sc v d → Dd T H v d
  | lst {a : Addr} {vs : List V} {ds : List PyData} : ¬ T a → H a = some (.lst vs) → Dds T H vs ds → Dd T H (.ref a) (.list ds)
  | tup {a : Addr} {vs : List V} {ds : List PyData} : ¬ T a → H a = some (.tup vs) → Dds T H vs ds → Dd T H (.ref a) (.tuple ds)
  | dict {a : Addr} {kvs : List (L2.Key × V)} {ds : List (PyData × PyData)} : ¬ T a → H a = some (.dK kvs) → DdK T H kvs ds → Dd T H (.ref a) (.dict ds)
inductive Dds (T : Addr → Prop) (H : Hp) : List V → List PyData → Prop
  | nil : Dds T H [] []
  | cons {v : V} {vs : List V} {d : PyData} {ds : List PyData} : Dd T H v d → Dds T H vs ds → Dds T H (v :: vs) (d :: ds)
inductive DdK (T : Addr → Prop) (H : Hp) : List (L2.Key × V) → List (PyData × PyData) → Prop
  | nil : DdK T H [] []
  | cons {k : L2.Key} {v : V} {kvs : List (L2.Key × V)} {d : PyData} {ds : List (PyData × PyData)} : Dd T H v d → DdK T H kvs ds → DdK T H ((k, v) :: kvs) ((dKey k, d) :: ds)
end
mutual
theorem Dd.keep {T : Addr → Prop} {H H2 : Hp} (k : Kp T H H2) : ∀ {v : V} {d : PyData}, Dd T H v d → Dd T H2 v d
  | _, _, .sc s => .sc s
  | _, _, .lst n e r => .lst n (k _ _ n e) (Dds.keep k r)
  | _, _, .tup n e r => .tup n (k _ _ n e) (Dds.keep k r)
  | _, _, .dict n e r => .dict n (k _ _ n e) (DdK.keep k r)
theorem Dds.keep {T : Addr → Prop} {H H2 : Hp} (k : Kp T H H2) : ∀ {vs : List V} {ds : List PyData}, Dds T H vs ds → Dds T H2 vs ds
  | _, _, .nil => .nil
  | _, _, .cons a r => .cons (Dd.keep k a) (Dds.keep k r)
theorem DdK.keep {T : Addr → Prop} {H H2 : Hp} (k : Kp T H H2) : ∀ {kvs : List (L2.Key × V)} {ds : List (PyData × PyData)}, DdK T H kvs ds → DdK T H2 kvs ds
  | _, _, .nil => .nil
  | _, _, .cons a r => .cons (Dd.keep k a) (DdK.keep k r)
end
mutual
/-- other places to be apart from: new ones -/
theorem Dd.out {T U : Addr → Prop} {H : Hp} (h : ∀ a, U a → T a ∨ H a = none) : ∀ {v : V} {d : PyData}, Dd T H v d → Dd U H v d
  | _, _, .sc s => .sc s
  | _, _, .lst n e r => .lst (fun z => (h _ z).elim n fun q => by rw [e] at q; cases q) e (Dds.out h r)
  | _, _, .tup n e r => .tup (fun z => (h _ z).elim n fun q => by rw [e] at q; cases q) e (Dds.out h r)
  | _, _, .dict n e r => .dict (fun z => (h _ z).elim n fun q => by rw [e] at q; cases q) e (DdK.out h r)
theorem Dds.out {T U : Addr → Prop} {H : Hp} (h : ∀ a, U a → T a ∨ H a = none) : ∀ {vs : List V} {ds : List PyData}, Dds T H vs ds → Dds U H vs ds
  | _, _, .nil => .nil
  | _, _, .cons a r => .cons (Dd.out h a) (Dds.out h r)
theorem DdK.out {T U : Addr → Prop} {H : Hp} (h : ∀ a, U a → T a ∨ H a = none) : ∀ {kvs : List (L2.Key × V)} {ds : List (PyData × PyData)}, DdK T H kvs ds → DdK U H kvs ds
  | _, _, .nil => .nil
  | _, _, .cons a r => .cons (Dd.out h a) (DdK.out h r)
end
section
variable {X : Cx} {pins : List (Addr × Obj)} {σ : L2.St} {H : Hp} {s : Shared}
theorem sc_rs {h : Heap} {v : V} {u : Value} {d : PyData} (s : Sc v d) (r : RelV v u) : RS h u d := by
  cases s with
  | non => cases r; exact .none
  | bl b => cases r; exact .bool b
  | int i => obtain ⟨t, rfl⟩ := (show ∃ t, u = Value.int i t from r); exact .int i t
  | str x => obtain ⟨t, rfl⟩ := (show ∃ t, u = Value.str x t from r); exact .str x t
theorem key_rs {h : Heap} {u : Value} {k : L2.Key} (e : keyIs k u = true) : RS h u (dKey k) := by
  rcases keyIs_shape e with ⟨i, t, e1, e2⟩ | ⟨x, t, e1, e2⟩
  · rw [e1, e2]
    exact .int i t
  · rw [e1, e2]
    exact .str x t
mutual
theorem Dd.rs {T : Addr → Prop} (I : Inv X pins σ H s) : ∀ {v : V} {d : PyData} (u : Value), Dd T H v d → RelV v u → RS s.heap u d
  | _, _, _, .sc c, r => sc_rs c r
  | _, _, u, .lst _ e q, r => by
    obtain rfl : u = Value.ref _ := r
    obtain ⟨z, its, n, rv, hl, ho⟩ := I.lstM e
    exact .list ho rfl rfl (by rw [List.toList_toArray]; exact Dds.rs I its q rv)
  | _, _, u, .tup _ e q, r => by
    obtain rfl : u = Value.ref _ := r
    obtain ⟨_, its, rv, o, h1, h2, n, h3⟩ := (show ObjOk X.prog X.w H s.heap _ (.tup _) from I.hok _ _ e)
    exact .tuple h1 h2 h3 (by rw [List.toList_toArray]; exact Dds.rs I its q rv)
  | _, _, u, .dict _ e q, r => by
    obtain rfl : u = Value.ref _ := r
    obtain ⟨_, ns, vs, kv, o, es, ep, ho, ex, hd, _, pr, _⟩ := dk_of I.hok e
    obtain ⟨r1, r2⟩ := DdK.rs I vs es.toList q kv pr
    exact .dict ho ex.1 hd ns r1 r2
theorem Dds.rs {T : Addr → Prop} (I : Inv X pins σ H s) : ∀ {vs : List V} {ds : List PyData} (us : List Value), Dds T H vs ds → Vals vs us → RSs s.heap us ds
  | _, _, _, .nil, .nil => .nil
  | _, _, _ :: _, .cons a q, .cons r t => .cons (Dd.rs I _ a r) (Dds.rs I _ q t)
theorem DdK.rs {T : Addr → Prop} (I : Inv X pins σ H s) : ∀ {kvs : List (L2.Key × V)} {ds : List (PyData × PyData)} (vs : List (L2.Key × Value)) (es : List DictEntry), DdK T H kvs ds → KV kvs vs → Pairs (mixKind X.prog X.w) es vs →
    RSs s.heap (es.map (·.key)) (ds.map (·.1)) ∧ RSs s.heap (es.map (·.val)) (ds.map (·.2))
  | _, _, _, _, .nil, .nil, .nil => ⟨.nil, .nil⟩
  | _, _, _, _, .cons a q, .cons r t, .cons k e p => by
    obtain ⟨i1, i2⟩ := DdK.rs I _ _ q t p
    refine ⟨.cons ?_ i1, .cons ?_ i2⟩
    · have k2 := k
      rw [← r.1] at k2
      exact key_rs k2
    · dsimp only
      rw [e]
      exact Dd.rs I _ a r.2
end
/-- repr of a list -/
def rReprL : List V → Hp → VK → Prop := fun xs H Q => ∃ (a : Addr) (vs : List V) (ds : List PyData) (T : Addr → Prop), xs = [.ref a] ∧ H a = some (.lst vs) ∧ Dds T H vs ds ∧ PyData.showableAll ds = true ∧ PyData.depthAll ds ≤ 60 ∧ (PyData.list ds).shown.length ≤ sizeLine ∧ Q (.str (PyData.list ds).shown) H
theorem call_reprL (hf : Free X.A) (hu : X.A.units + 70 < cLine) : CallR X (.builtin "repr") rReprL := by
  intro pins s σ H xs us Q I r h
  obtain ⟨a, vs, ds, T, rfl, e, dd, sw, dp, sz, q⟩ := h
  obtain ⟨u, rfl, ru⟩ := vals1 r
  obtain rfl : u = Value.ref a := ru
  obtain ⟨z, its, n, rv, hl, ho⟩ := I.lstM e
  have sz2 : (listText (PyData.shownAll ds)).length ≤ sizeLine := by simpa only [PyData.shown] using sz
  have rs := Dds.rs I its dd rv
  obtain ⟨bs, hb, hk⟩ := RSs.repr (P := X.prog) (w := X.w) rs sw fun t ht => Nat.le_trans (listText_mem_le ht) sz2
  have fin : ∀ (h2 : Heap) (t : Tok) (tk : Nat), (∀ b o, s.heap.get? b = some o → h2.get? b = some o) → EP X pins σ Q (.str (PyData.list ds).shown t) { s with heap := h2, toks := tk } := fun h2 t tk hk => ⟨.str (PyData.list ds).shown, H, I.kept hk, ⟨t, rfl⟩, q⟩
  obtain ⟨as, rd⟩ := RS.reads (RS.list ho rfl rfl (by rw [List.toList_toArray]; exact rs))
  have na : a ∉ bs := not_mem_of_deeper rd (by simp only [PyData.depth]; omega) hb
  refine call_repr_slot (by omega) (⟨_, ho, rfl⟩ : s.TypeIs (.ref a) "list") F.slot_list_repr.toG ?_
  simp only [PyData.shown] at fin
  cases its with
  | nil =>
    cases rs
    simp only [PyData.shownAll, listText_nil] at fin
    exact call_list_repr_empty ⟨_, ho, rfl⟩ ho rfl ⟨_, _, rfl, fin s.heap _ _ fun _ _ e => e⟩
  | cons x l =>
    refine call_list_reprK ho rfl rfl na (by simpa using hk.length_eq) (fun i y e => hk.item i y (by simpa using e)) (g := []) hf (fun b _ => Clear.nil b) (by show X.A.units + 1 + _ < cLine; omega) (fun _ _ e => e) (fun h2 u tk hk2 => ⟨_, _, rfl, fin h2 u tk hk2⟩) sz2
end
end Gk
/-! Gk32: a def of one parameter called by its name; the text of a list of fourteen equal things. -/
namespace Gk
open PySem PySem.Spec PyProof.Rows L2
structure D1 (P : Program) (w : World) (K : PySem.W.Frag) (mg : Str → Option Value) (base : Heap) (k : Nat) (f : Addr) (x prm : Str) (sp : Sp) : Prop where
  ex : ∃ fd, FnOk P w K mg base CX0 k f fd [prm] sp ∧ Binds K fd [prm] [] ∧ ∀ s u, BindsTo s fd ⟨[], [(prm, u)]⟩ [(prm, u)]
  mgx : mg x = some (.ref f)
  kp : PySem.W.keepIn K (.ref f) = true
theorem D1.df {P : Program} {w : World} {K : PySem.W.Frag} {mg : Str → Option Value} {base : Heap} {k : Nat} {f : Addr} {x prm : Str} {sp : Sp} (D : D1 P w K mg base k f x prm sp) : Df P w K mg base k f x [prm] sp := by
  obtain ⟨fd, F, b, _⟩ := D.ex
  exact ⟨⟨fd, F, b⟩, D.mgx, D.kp⟩
section
variable {X : Cx} {k : Nat} {f : Addr} {x prm : Str} {sp : Sp} {p pos kpos : Pos} {e : Expr} {te : TE}
theorem pe_d1K (D : D1 X.prog X.w X.K X.mg X.base k f x prm sp) (hr : Room k X.A) (hg : Gl X x) (he : PE X e te) (hdb : (x == ("__debug__" : Str)) = false := by decide)
    (hall : (backToKw pos (keywordEach [⟨some prm, e, kpos⟩] X.env)).all (·.1.isSome) = true := by rfl) (hks : (backToKw pos (keywordEach [⟨some prm, e, kpos⟩] X.env)).filterMap (·.1) = [prm] := by rfl)
    (hpl : ((backTo pos (starEach [] X.env)).any (·.1) || (backToKw pos (keywordEach [⟨some prm, e, kpos⟩] X.env)).any (·.1.isNone)) = false := by rfl) : PE X (.Call (.Name x p) [] [⟨some prm, e, kpos⟩] pos) (tCall sp [] E0 (tCons te tNil)) := by
  obtain ⟨fd, F, b, bk⟩ := D.ex
  refine ⟨fun pins s σ H Q I h => ?_⟩
  refine wpAny_Call_Name_kw (ld_glob I hg D.mgx ?_ hdb)
  refine PySem.W.callWith_KW0 (first := []) (h₀ := X.base) I.ok.mod.kin D.kp hall ?_ hpl
  refine thn ((pk_cons he pk_nil).run pos pins s σ H (fun vs H1 => sp (vs ++ []) H1 Q E0) I h) fun us s1 ⟨vs, H1, I1, r1, q1⟩ => ⟨I1.kIn, ?_⟩
  rw [hks]
  have kb : KBinds X.K fd [prm] [prm] (fun us ws => us ++ ws) (fun vs zs => vs ++ zs) := ⟨fun s us ws kin hl => by
    match us, ws, hl with
    | [u], [], _ => exact b s [u] kin rfl
    | [], [u], _ => exact bk s u
    | [], [], hl => cases hl
    | [], _ :: _ :: _, hl => simp at hl
    | [_], _ :: _, hl => simp at hl
    | _ :: _ :: _, _, hl => simp at hl, fun r z => r.append z⟩
  refine run_fnk (us := []) (vs := []) F hr kb pass0 I1 .nil r1 ?_
  have q2 : sp (vs ++ []) H1 Q E0 := q1
  rw [List.append_nil] at q2
  exact q2
end
theorem textFrom_le : ∀ (ts : List Str) (k : Nat) (acc : Str) (m : Nat), (∀ t ∈ ts, t.length ≤ m) → (textFrom k acc ts).length ≤ acc.length + ts.length * (m + 2)
  | [], k, acc, m, _ => by
    show acc.length ≤ _
    exact Nat.le_add_right _ _
  | t :: ts, k, acc, m, h => by
    have i := textFrom_le ts (k + 1) (acc ++ (if k > 0 then ", " else "" : String) ++ t) m fun x hx => h x (List.mem_cons_of_mem _ hx)
    have ht := h t List.mem_cons_self
    have hs : (PySem.Str.ofString (if k > 0 then ", " else "" : String)).length ≤ 2 := by
      by_cases c : k > 0
      · rw [if_pos c]; decide
      · rw [if_neg c]; decide
    show (textFrom (k + 1) (acc ++ (if k > 0 then ", " else "" : String) ++ t) ts).length ≤ _
    rw [strLen_append, strLen_append] at i
    rw [List.length_cons, Nat.succ_mul]
    omega
theorem listText_le {ts : List Str} {m : Nat} (h : ∀ t ∈ ts, t.length ≤ m) : (listText ts).length ≤ 2 + ts.length * (m + 2) := by
  have i := textFrom_le ts 0 "[" m h
  show (textFrom 0 "[" ts ++ "]").length ≤ _
  rw [strLen_append]
  have a : (PySem.Str.ofString "[").length = 1 := rfl
  have b : (PySem.Str.ofString "]").length = 1 := rfl
  omega
theorem rep_shown (d : PyData) : ∀ n, PyData.shownAll (List.replicate n d) = List.replicate n d.shown
  | 0 => by simp [PyData.shownAll]
  | n + 1 => by rw [List.replicate_succ, List.replicate_succ, PyData.shownAll, rep_shown d n]
theorem rep_sw {d : PyData} (h : d.showable = true) : ∀ n, PyData.showableAll (List.replicate n d) = true
  | 0 => by simp [PyData.showableAll]
  | n + 1 => by rw [List.replicate_succ, PyData.showableAll, rep_sw h n, h]; rfl
theorem rep_depth (d : PyData) : ∀ n, PyData.depthAll (List.replicate n d) ≤ d.depth
  | 0 => by simp [PyData.depthAll]
  | n + 1 => by
    rw [List.replicate_succ, PyData.depthAll]
    exact Nat.max_le.mpr ⟨Nat.le_refl _, rep_depth d n⟩
theorem rep_dds {T : Addr → Prop} {H : Hp} {v : V} {d : PyData} (h : Dd T H v d) : ∀ n, Dds T H (List.replicate n v) (List.replicate n d)
  | 0 => .nil
  | n + 1 => .cons h (rep_dds h n)
/-- the reading of repr of fourteen times the same -/
theorem rd_rep {T : Addr → Prop} {H : Hp} {a : Addr} {v : V} {d : PyData} {Q : VK} (e : H a = some (.lst (List.replicate 14 v))) (h : Dd T H v d) (sw : d.showable = true) (dd : d.depth ≤ 60) (sz : d.shown.length ≤ 1000) (k : Q (.str (PyData.list (List.replicate 14 d)).shown) H) : rReprL [.ref a] H Q := by
  refine ⟨a, _, List.replicate 14 d, T, rfl, e, rep_dds h 14, rep_sw sw 14, Nat.le_trans (rep_depth d 14) dd, ?_, k⟩
  simp only [PyData.shown]
  rw [rep_shown]
  have l := listText_le (ts := List.replicate 14 d.shown) (m := 1000) fun t m => by rw [List.eq_of_mem_replicate m]; exact sz
  rw [List.length_replicate] at l
  rw [sizeLine_eq]
  omega
end Gk
namespace Lw
open PySem L2 Gk
def topS (i : Nat) : Stmt := PySem.Challenge.pw_maskwrites_k02_errors_and_names_of_argum.main.body.getD i (.Pass ⟨0, 0, 0, 0⟩)
abbrev sIsLetters : Stmt := topS 20
abbrev sIsName : Stmt := topS 21

structure TxtN (K : PySem.W.Frag) (mg : Str → Option Value) : Prop where
  z_isinstance : mg "isinstance" = none
  z_str : mg "str" = none
  z_len : mg "len" = none
  z_all : mg "all" = none
  v_LETTERS : ∃ t, mg "LETTERS" = some (.str LET t)
  v_MOST_NAME : ∃ t, mg "MOST_NAME" = some (.int 8 t)
section
variable {P : Program} {w : World} {K : PySem.W.Frag} {mg : Str → Option Value} {base : Heap}
theorem scIsLetters : FnScope ["value", "least", "most", "sign"] ["value", "least", "most"] (defScope sIsLetters) := ⟨rfl, rfl, rfl, by decide +kernel, rfl, by decide +kernel, by decide +kernel⟩
theorem ok_is_letters {f : Addr} {fd : FuncData} (F : Fun K "is_letters" "is_letters" sIsLetters f fd) (T : TxtN K mg) : FnOk P w K mg base CX0 1 f fd ["value", "least", "most"] (spIsLetters K) := by
  refine F.ok scIsLetters (fun vs H Q E h => ?_) (fun cdv A outer s H vs Q E hr h => ?_)
  · obtain ⟨v, lo, hi, rfl, _⟩ := h
    rfl
  · obtain ⟨v, lo, hi, rfl, h⟩ := h
    obtain ⟨tL, mL⟩ := T.v_LETTERS
    refine ⟨_, pss_one (ps_ret (pe_and (pe_callB call_isi (by rfl) T.z_isinstance (by decide +kernel) (pa_cons (pv 0) (pa_cons (pe_bltn (v := .ty "str") (by rfl) T.z_str (by decide +kernel) rfl) pa_nil)))
      (pe_and (pe_chain op_le op_le (pv 1) (pe_callB call_len (by rfl) T.z_len PySem.boot_len (pa_cons (pv 0) pa_nil)) (pv 2))
      (pe_one (pe_callB (cr_all rfl) (by rfl) T.z_all (by decide +kernel) (pa_cons (pe_lc (own := [("sign", 3)]) (g := gName 3) (tt := tYes) rfl scIsLetters.nd (pi_str (pv 0))
        (blkOk_by (N := ["value", "least", "most", "sign"]) (sc := defScope sIsLetters) (by decide +kernel)) (fun _ _ _ _ _ => pg_name (i := 3) scIsLetters.nd rfl (Or.inl rfl)) (fun _ _ _ _ _ => pts_nil)
        (fun _ _ _ _ _ => pe_cmpR op_in_sign (pv 3) (pe_glob (v := .str LET) (by rfl) mL ⟨_, rfl⟩) (by rfl))) pa_nil)))))), ?_⟩
    rcases h with ⟨x, rfl, hx, k⟩ | ⟨⟨t, ty, kit⟩, k⟩
    · refine ⟨_, rfl, _, _, _, _, true, rfl, .ty "str", .base (.str x), kit_ty (by decide +kernel), true, rfl, ?_⟩
      refine iteT ?_
      refine ⟨_, rfl, _, rfl, _, _, rfl, ⟨Nat.le_of_lt hx, rfl⟩, _, _, rfl, rfl, _, rfl, ?_⟩
      have fls : ∀ H2 : Hp, Kp T0 H H2 → isLet x lo hi = false → Q (.bl false) H2 := fun H2 k2 e => by
        have q := k H2 k2
        rw [e] at q
        exact q
      refine ite2 (fun h1 => ?_) (fun h1 => ?_)
      · refine ⟨_, rfl, _, _, rfl, rfl, _, rfl, ?_⟩
        refine ite2 (fun h2 => ?_) (fun h2 => ?_)
        · refine ⟨_, rfl, x, rfl, fun D hD => ?_⟩
          refine lc_kp (T := T0) walk_str (i0 := 3) (fun i v => ∃ c, x.cps[i]? = some c ∧ v = .str ⟨#[c]⟩) (fun i ys _ => ys.length = i ∧ ∀ (j : Nat) v, ys[j]? = some v → ∃ b, v = .bl b ∧ ∃ c, x.cps[j]? = some c ∧ b = decide (c ∈ LET.cps.toList))
            (fun i H1 v H2 _ y => y) hD id hx (wipe1 _ 3) (fun _ _ => True.intro) ⟨rfl, fun j v e => by simp at e⟩ (fun i v ys H1 Ky Kn hi sx _ _ p ky _ => ?_) (fun ys H1 k1 d1 _ p => ?_)
          · obtain ⟨c, hc, rfl⟩ := sx
            refine yes_ ?_
            refine ⟨_, rfl, c, LET, rfl, rfl, ky _ _ (Kp.refl _) ⟨by rw [List.length_append, p.1]; rfl, snoc_at p.2 ⟨_, rfl, c, by rw [p.1]; exact hc, rfl⟩⟩⟩
          · obtain ⟨bs, eb, lb, hb⟩ := bools_of p.2
            refine ⟨D, bs, rfl, SqL.of (by rw [d1, eb]), ?_⟩
            have q := k H1 k1
            have ea := all_seq (fun c => decide (c ∈ LET.cps.toList)) x bs (lb.trans p.1) hb
            unfold isLet at q
            rw [h1, h2, Bool.true_and, Bool.true_and, ← ea] at q
            exact q
        · exact fls H (Kp.refl H) (by unfold isLet; rw [(Bool.not_eq_true _).mp h2, Bool.and_false, Bool.false_and])
      · exact ⟨false, rfl, iteF (fls H (Kp.refl H) (by unfold isLet; rw [(Bool.not_eq_true _).mp h1, Bool.false_and, Bool.false_and]))⟩
    · refine ⟨_, rfl, _, _, _, _, false, rfl, .ty "str", ty, kit, false, rfl, ?_⟩
      exact iteF k
theorem scIsName : FnScope ["value"] ["value"] (defScope sIsName) := ⟨rfl, rfl, rfl, by decide +kernel, rfl, by decide +kernel, by decide +kernel⟩
theorem ok_is_name {f fL : Addr} {fd : FuncData} (F : Fun K "is_name" "is_name" sIsName f fd) (T : TxtN K mg) (DL : Df P w K mg base 1 fL "is_letters" ["value", "least", "most"] (spIsLetters K)) :
    FnOk P w K mg base CX0 2 f fd ["value"] (spIsName K) := by
  refine F.ok scIsName (fun vs H Q E h => ?_) (fun cdv A outer s H vs Q E hr h => ?_)
  · obtain ⟨v, r, rfl, _⟩ := h
    rfl
  · obtain ⟨v, r, rfl, it, k⟩ := h
    obtain ⟨tM, mM⟩ := T.v_MOST_NAME
    refine ⟨_, pss_one (ps_ret (pe_df DL hr (by rfl) (pa_cons (pv 0) (pa_cons pe_int (pa_cons (pe_glob (v := .int 8) (by rfl) mM ⟨_, rfl⟩) pa_nil))))), ?_⟩
    refine ⟨_, rfl, _, 1, 8, rfl, ?_⟩
    rcases it with ⟨x, rfl, hx, rfl⟩ | ⟨ns, rfl⟩
    · exact .inl ⟨x, rfl, hx, k⟩
    · exact .inr ⟨ns, k H (Kp.refl H)⟩
end
end Lw
namespace Lw
open PySem L2 Gk
abbrev sIsText : Stmt := topS 22
abbrev sIsNumber : Stmt := topS 23
abbrev sIsFlag : Stmt := topS 24
abbrev sKey : Stmt := topS 25
structure TxtV (mg : Str → Option Value) : Prop where
  z_isinstance : mg "isinstance" = none
  z_str : mg "str" = none
  z_int : mg "int" = none
  z_bool : mg "bool" = none
  z_len : mg "len" = none
  v_MOST_TEXT : ∃ t, mg "MOST_TEXT" = some (.int 12 t)
section
variable {P : Program} {w : World} {K : PySem.W.Frag} {mg : Str → Option Value} {base : Heap}
theorem name_kd {f : Addr} {fd : FuncData} (F : FnOk P w K mg base CX0 2 f fd ["value"] (spIsName K)) : FnOk P w K mg base CX0 2 f fd ["value"] (spKd K nameK) :=
  F.imp fun vs H Q E h => by
    obtain ⟨v, kd, rfl, h, k⟩ := h
    exact ⟨v, _, rfl, h.item, k⟩
theorem scIsText : FnScope ["value"] ["value"] (defScope sIsText) := ⟨rfl, rfl, rfl, by decide +kernel, rfl, by decide +kernel, by decide +kernel⟩
theorem ok_is_text {f fL : Addr} {fd : FuncData} (F : Fun K "is_text" "is_text" sIsText f fd) (T : TxtV mg) (DL : Df P w K mg base 1 fL "is_letters" ["value", "least", "most"] (spIsLetters K)) :
    FnOk P w K mg base CX0 2 f fd ["value"] (spKd K textK) := by
  refine F.ok scIsText (fun vs H Q E h => ?_) (fun cdv A outer s H vs Q E hr h => ?_)
  · obtain ⟨v, r, rfl, _⟩ := h
    rfl
  · obtain ⟨v, kd, rfl, h, k⟩ := h
    obtain ⟨tM, mM⟩ := T.v_MOST_TEXT
    refine ⟨_, pss_one (ps_ret (pe_df DL hr (by rfl) (pa_cons (pv 0) (pa_cons pe_int (pa_cons (pe_glob (v := .int 12) (by rfl) mM ⟨_, rfl⟩) pa_nil))))), ?_⟩
    refine ⟨_, rfl, _, 0, 12, rfl, ?_⟩
    rcases h.str with ⟨x, rfl, e, l⟩ | ⟨ne, ns⟩
    · exact .inl ⟨x, e, l, k⟩
    · refine .inr ⟨ns, ?_⟩
      have q := k H (Kp.refl H)
      cases kd with
      | s x => exact absurd rfl (ne x)
      | _ => exact q
theorem scIsFlag : FnScope ["value"] ["value"] (defScope sIsFlag) := ⟨rfl, rfl, rfl, by decide +kernel, rfl, by decide +kernel, by decide +kernel⟩
theorem ok_is_flag {f : Addr} {fd : FuncData} (F : Fun K "is_flag" "is_flag" sIsFlag f fd) (T : TxtV mg) : FnOk P w K mg base CX0 1 f fd ["value"] (spKd K flagK) := by
  refine F.ok scIsFlag (fun vs H Q E h => ?_) (fun cdv A outer s H vs Q E hr h => ?_)
  · obtain ⟨v, r, rfl, _⟩ := h
    rfl
  · obtain ⟨v, kd, rfl, h, k⟩ := h
    refine ⟨_, pss_one (ps_ret (pe_callB call_isi (by rfl) T.z_isinstance (by decide +kernel) (pa_cons (pv 0) (pa_cons (pe_bltn (v := .ty "bool") (by rfl) T.z_bool (by decide +kernel) rfl) pa_nil)))), ?_⟩
    refine ⟨_, rfl, rd_isi h (.inr (.inr rfl)) ?_⟩
    have q := k H (Kp.refl H)
    cases kd <;> exact q
theorem scIsNumber : FnScope ["value"] ["value"] (defScope sIsNumber) := ⟨rfl, rfl, rfl, by decide +kernel, rfl, by decide +kernel, by decide +kernel⟩
theorem ok_is_number {f : Addr} {fd : FuncData} (F : Fun K "is_number" "is_number" sIsNumber f fd) (T : TxtV mg) : FnOk P w K mg base CX0 1 f fd ["value"] (spKd K numK) := by
  refine F.ok scIsNumber (fun vs H Q E h => ?_) (fun cdv A outer s H vs Q E hr h => ?_)
  · obtain ⟨v, r, rfl, _⟩ := h
    rfl
  · obtain ⟨v, kd, rfl, h, k⟩ := h
    refine ⟨_, pss_one (ps_ret (pe_and (pe_callB call_isi (by rfl) T.z_isinstance (by decide +kernel) (pa_cons (pv 0) (pa_cons (pe_bltn (v := .ty "int") (by rfl) T.z_int (by decide +kernel) rfl) pa_nil)))
      (pe_and (pe_not (pe_callB call_isi (by rfl) T.z_isinstance (by decide +kernel) (pa_cons (pv 0) (pa_cons (pe_bltn (v := .ty "bool") (by rfl) T.z_bool (by decide +kernel) rfl) pa_nil))))
      (pe_one (pe_cmpR op_ge (pv 0) pe_int (nomark _)))))), ?_⟩
    refine ⟨_, rfl, ?_⟩
    dsimp only [tCons, tC, tNil]
    refine rd_isi h (.inr (.inl rfl)) ?_
    refine ⟨_, rfl, ?_⟩
    have q := k H (Kp.refl H)
    cases kd with
    | s x => exact iteF q
    | o => exact iteF q
    | i n =>
      refine iteT ⟨_, rfl, ?_⟩
      dsimp only [tCons, tC, tNil]
      refine rd_isi h (.inr (.inr rfl)) ?_
      refine ⟨_, rfl, ?_⟩
      refine ⟨_, rfl, ?_⟩
      refine iteT ⟨_, rfl, _, _, ?_, rfl, q⟩
      exact h
    | b c =>
      refine iteT ⟨_, rfl, ?_⟩
      dsimp only [tCons, tC, tNil]
      refine rd_isi h (.inr (.inr rfl)) ?_
      refine ⟨_, rfl, ?_⟩
      refine ⟨_, rfl, ?_⟩
      exact iteF q
theorem scKey : FnScope ["value"] ["value"] (defScope sKey) := ⟨rfl, rfl, rfl, by decide +kernel, rfl, by decide +kernel, by decide +kernel⟩
theorem ok_key {f : Addr} {fd : FuncData} (F : Fun K "value_key" "value_key" sKey f fd) (T : TxtV mg) : FnOk P w K mg base CX0 1 f fd ["value"] (spKey K) := by
  refine F.ok scKey (fun vs H Q E h => ?_) (fun cdv A outer s H vs Q E hr h => ?_)
  · obtain ⟨v, r, rfl, _⟩ := h
    rfl
  · obtain ⟨v, kd, rfl, h, k⟩ := h
    refine ⟨_, pss_one (ps_ret (pe_ifExp (pt_val (pe_callB call_isi (by rfl) T.z_isinstance (by decide +kernel) (pa_cons (pv 0) (pa_cons (pe_bltn (v := .ty "str") (by rfl) T.z_str (by decide +kernel) rfl) pa_nil))))
      (pe_tup (pa_cons (pe_callB call_len (by rfl) T.z_len PySem.boot_len (pa_cons (pv 0) pa_nil)) (pa_cons (pv 0) pa_nil))) (pv 0))), ?_⟩
    refine ⟨_, rfl, ?_⟩
    dsimp only [tCons, tC, tNil]
    refine rd_isi h (.inl rfl) ?_
    refine ⟨_, rfl, ?_⟩
    rcases k with ⟨x, rfl, k⟩ | ⟨ne, k⟩
    · obtain ⟨rfl, l⟩ := h
      refine iteT ⟨_, rfl, _, _, rfl, ⟨Nat.le_of_lt l, rfl⟩, _, rfl, ?_⟩
      exact ⟨(by show 2 ≤ sizeLine; rw [PySem.sizeLine_eq]; decide), k⟩
    · cases kd with
      | s x => exact absurd rfl (ne x)
      | i n => exact iteF ⟨_, rfl, k⟩
      | b c => exact iteF ⟨_, rfl, k⟩
      | o => exact iteF ⟨_, rfl, k⟩
end
end Lw
namespace Lw
open PySem L2 Gk
abbrev sTape : Stmt := topS 27
abbrev sPick : Stmt := topS 28
abbrev sOneOf : Stmt := topS 29
abbrev NM : List Str := ["a", "b", "aa", "m"]
structure TxtT (mg : Str → Option Value) : Prop where
  z_int : mg "int" = none
  z_len : mg "len" = none
  z_range : mg "range" = none
  z_tuple : mg "tuple" = none
theorem boot_int : bootBuiltins "int" = some (.type "int") := by decide +kernel
theorem boot_tuple6 : bootBuiltins "tuple" = some (.type "tuple") := by decide +kernel
section
variable {P : Program} {w : World} {K : PySem.W.Frag} {mg : Str → Option Value} {base : Heap}
theorem scTape : FnScope ["script", "start", "mixed", "entry", "digits"] ["script", "start"] (defScope sTape) := ⟨rfl, rfl, rfl, by decide +kernel, rfl, by decide +kernel, by decide +kernel⟩
theorem ok_tape {f : Addr} {fd : FuncData} (F : Fun K "_law_well" "_law_well" sTape f fd) (T : TxtT mg) : FnOk P w K mg base CX0 1 f fd ["script", "start"] (spTape K) := by
  refine F.ok scTape (fun vs H Q E h => ?_) (fun cdv A outer s H vs Q E hr h => ?_)
  · obtain ⟨a, ns, st, rfl, _⟩ := h
    rfl
  · obtain ⟨a, ns, st, rfl, hs, ln, hb, s0, s1, k⟩ := h
    refine ⟨_, pss_cons (ps_set (i := 2) scTape.nd rfl (Or.inl rfl) (pe_op op_add pe_int (pe_op op_mul (pv 1) pe_int)))
      (pss_cons (ps_for PassesOwn.never rfl (pi_list (pv 0)) (pg_name (i := 3) scTape.nd rfl (Or.inl rfl))
        (pss_one (ps_set (i := 2) scTape.nd rfl (Or.inl rfl) (pe_op op_add (pe_op op_mod (pe_callTy call_int1 (by rfl) T.z_int boot_int (pa_cons
          (pe_op op_powB (pe_op op_add (pe_op op_add (pe_op op_mul (pv 2) pe_int) (pe_op op_mulB (pv 3) (pv 3))) pe_int) pe_int) pa_nil)) pe_int) pe_int))))
      (pss_cons (ps_set (i := 4) scTape.nd rfl (Or.inl rfl) (pe_ifExp (PW.pt (pw_and (pt_cmpR op_lt (pv 1) (pe_callB call_len (by rfl) T.z_len PySem.boot_len (pa_cons (pv 0) pa_nil)) (nomark _))
          (pw_and1 (pt_cmpR op_ge (pe_ix ix_list (pv 0) (pv 1) (fun _ _ => rfl)) (pe_op op_pow pe_int pe_int) (nomark _)))))
          (pe_op op_sub (pe_ix ix_list (pv 0) (pv 1) (fun _ _ => rfl)) (pe_op op_pow pe_int pe_int)) pe_int))
      (pss_one (ps_ret (pe_disp (pps_cons pe_str (pv 4) (pps_cons pe_str (pv 2) pps_nil)) (by rfl) (by rfl) (fun z => by cases z) (by decide)))))), ?_⟩
    have small : ∀ x : Int, 0 ≤ x → x < 4294967296 → CMul x 70121 := fun x h0 h1 => .inl ⟨by omega, by omega⟩
    refine ⟨_, rfl, _, _, rfl, rfl, .inl ⟨by omega, by omega⟩, _, _, rfl, rfl, ?_⟩
    refine ⟨_, rfl, a, rfl, ⟨_, hs⟩, for_list (K := K) (a := a) (xs := ns.map V.int) (fun _ σ H2 => H2 = H ∧ ∃ (m : Int) (c : Option V), σ = [some (.ref a), some (.int st), some (.int m), c, none] ∧ 0 ≤ m ∧ m < 4294967296)
      ⟨rfl, _, none, rfl, by omega, by omega⟩ (fun i σ H2 _ p => by rw [p.1]; exact hs) (fun i y σ H2 hi p => ?_) (fun σ H2 p => ?_)⟩
    · obtain ⟨rfl, m, c, rfl, m0, m1⟩ := p
      obtain ⟨z, hz, rfl⟩ : ∃ z, z ∈ ns ∧ y = V.int z := by
        rw [List.getElem?_map] at hi
        cases e : ns[i]? with
        | none => rw [e] at hi; cases hi
        | some z =>
          rw [e] at hi
          exact ⟨z, List.mem_of_getElem? e, (Option.some.inj hi).symm⟩
      have bz := hb z hz
      have bs := well_step m0 m1 bz
      have cz : CMulB z z := by unfold CMulB; omega
      have cp : CPowB (m * 70121 + z * z + 41) 2 := ⟨by decide, by omega⟩
      refine ⟨_, rfl, _, _, rfl, rfl, small m m0 m1, _, rfl, _, rfl, _, _, rfl, rfl, cz, _, _, rfl, rfl, _, _, rfl, rfl, _, _, rfl, rfl, cp, .inl ⟨_, rfl, _, _, rfl, rfl, (by show (0 : Int) < 2147483563; decide), _, _, rfl, rfl, ?_⟩⟩
      refine ⟨rfl, _, _, rfl, ?_, ?_⟩
      · have := Int.emod_nonneg ((m * 70121 + z * z + 41) ^ (2 : Int).toNat) (show (2147483563 : Int) ≠ 0 by decide)
        omega
      · have := Int.emod_lt_of_pos ((m * 70121 + z * z + 41) ^ (2 : Int).toNat) (show (0 : Int) < 2147483563 by decide)
        omega
    · obtain ⟨rfl, m, c, rfl, m0, m1⟩ := p
      have fin : ∀ d : Int, TapeOk d m → ∀ p, H2 p = none → Q (.ref p) (upd (upd H2 p (.dK [])) p (.dK (mergeK [] [(kD, .int d), (kX, .int m)]))) := by
        intro d ok p hp
        rw [upd_upd, merge_tape]
        exact k p d m hp ok
      have zero : TapeOk 0 m := ⟨Int.le_refl _, by decide, m0, m1⟩
      have pow : CPow 10 18 := ⟨by decide, by decide, by decide⟩
      refine ⟨_, rfl, _, rfl, _, ns.length, rfl, .inl ⟨_, hs, by rw [List.length_map]⟩, _, _, rfl, rfl, _, rfl, ?_⟩
      by_cases c1 : st < (ns.length : Int)
      · rw [decide_eq_true c1]
        refine iteT ?_
        obtain ⟨z, hz⟩ : ∃ z, ns[st.toNat]? = some z := ⟨_, List.getElem?_eq_getElem (by omega)⟩
        have ha : atI (ns.map V.int) st = some (.int z) := by
          have e : st = (st.toNat : Int) := by omega
          rw [e]
          exact atI_nat (by rw [List.getElem?_map, hz]; rfl)
        have bz := hb z (List.mem_of_getElem? hz)
        refine ⟨_, rfl, _, rfl, a, _, _, _, rfl, rfl, hs, ha, _, _, rfl, rfl, pow, _, _, rfl, rfl, _, rfl, ?_⟩
        by_cases c2 : (10 : Int) ^ (18 : Int).toNat ≤ z
        · rw [decide_eq_true c2]
          refine iteT ?_
          refine ⟨_, rfl, _, rfl, a, _, _, _, rfl, rfl, hs, ha, _, _, rfl, rfl, pow, _, _, rfl, rfl, ?_⟩
          refine fun p hp => ⟨_, rfl, _, rfl, upd_same, [(kD, .int (z - 10 ^ (18 : Int).toNat)), (kX, .int m)], rfl, (by show 2 ≤ 15; decide), fin _ ⟨by omega, ?_, m0, m1⟩ p hp⟩
          refine Nat.le_trans (intBits_le_of_natAbs (y := z) ?_ bz) (by decide)
          have e : (10 : Int) ^ (18 : Int).toNat = 1000000000000000000 := by decide
          rw [e] at c2 ⊢
          omega
        · rw [decide_eq_false c2]
          refine iteF ?_
          exact fun p hp => ⟨_, rfl, _, rfl, upd_same, [(kD, .int 0), (kX, .int m)], rfl, (by show 2 ≤ 15; decide), fin _ zero p hp⟩
      · rw [decide_eq_false c1]
        refine iteF ?_
        refine iteF ?_
        exact fun p hp => ⟨_, rfl, _, rfl, upd_same, [(kD, .int 0), (kX, .int m)], rfl, (by show 2 ≤ 15; decide), fin _ zero p hp⟩
theorem scPick : FnScope ["well", "bound", "found"] ["well", "bound"] (defScope sPick) := ⟨rfl, rfl, rfl, by decide +kernel, rfl, by decide +kernel, by decide +kernel⟩
theorem ok_pick {f : Addr} {fd : FuncData} (F : Fun K "_law_draw" "_law_draw" sPick f fd) (T : TxtT mg) : FnOk P w K mg base CX0 1 f fd ["well", "bound"] spPick := by
  refine F.ok scPick (fun vs H Q E h => ?_) (fun cdv A outer s H vs Q E hr h => ?_)
  · obtain ⟨t, n, rfl, _⟩ := h
    rfl
  · obtain ⟨t, n, rfl, ⟨d, m, ht, ok⟩, n1, n2, k⟩ := h
    have hu := hu_of hr
    refine ⟨_, pss_cons (ps_if (pt_cmpR op_ge (pe_dget hu (pv 0) pe_str (fun _ _ => rfl)) (pv 1) (nomark _))
        (pss_cons (ps_set (i := 2) scPick.nd rfl (Or.inl rfl) (pe_op op_mod (pe_callTy call_int1 (by rfl) T.z_int boot_int (pa_cons (pe_dget hu (pv 0) pe_str (fun _ _ => rfl)) pa_nil)) (pv 1)))
          (pss_cons (ps_dput hu (pv 0) pe_str (pe_op op_fdivW (pe_dget hu (pv 0) pe_str (fun _ _ => rfl)) (pv 1)) rfl) (pss_one (ps_ret (pv 2))))) pss_nil)
      (pss_cons (ps_dput hu (pv 0) pe_str (pe_op op_mod (pe_callTy call_int1 (by rfl) T.z_int boot_int (pa_cons (pe_op op_add (pe_op op_mul (pe_dget hu (pv 0) pe_str (fun _ _ => rfl)) pe_int) pe_int) pa_nil)) pe_int) rfl)
      (pss_one (ps_ret (pe_op op_mod (pe_op op_fdiv (pe_op op_mod (pe_callTy call_int1 (by rfl) T.z_int boot_int (pa_cons (pe_op op_pow (pe_op op_mod (pe_callTy call_int1 (by rfl) T.z_int boot_int
        (pa_cons (pe_op op_pow (pe_dget hu (pv 0) pe_str (fun _ _ => rfl)) pe_int) pa_nil)) pe_int) pe_int) pa_nil)) pe_int) pe_int) (pv 1))))), ?_⟩
    have np : (0 : Int) < n := by omega
    refine ⟨_, rfl, t, _, rfl, dget_d ht, _, rfl, _, _, rfl, rfl, _, rfl, ?_⟩
    by_cases c : n ≤ d
    · rw [decide_eq_true c]
      refine iteT ?_
      have cd : CDivW d n := wide_div np (b := 32) (by omega) (by decide) (by decide)
      refine ⟨_, rfl, t, _, rfl, dget_d ht, .inl ⟨_, rfl, _, rfl, _, _, rfl, rfl, np, ?_⟩⟩
      refine ⟨_, rfl, t, _, rfl, dget_d ht, _, rfl, _, _, rfl, rfl, cd, _, rfl, t, _, rfl, dput_d ht _, _, rfl, ?_⟩
      have o2 : TapeOk (d / n) m := ⟨Int.ediv_nonneg ok.d0 (by omega), Nat.le_trans (intBits_le_of_natAbs (y := d) (by have := Int.ediv_le_self n ok.d0; have := Int.ediv_nonneg ok.d0 (show 0 ≤ n by omega); omega) ok.db) (Nat.le_refl _), ok.m0, ok.m1⟩
      exact k _ _ ((Kp.refl H).put rfl) (TapeAt.put o2) (Int.emod_nonneg _ (by omega)) (Int.emod_lt_of_pos _ np)
    · rw [decide_eq_false c]
      refine iteF ?_
      have m0 := ok.m0
      have m1 := ok.m1
      refine ⟨_, rfl, t, _, rfl, dget_x ht, _, _, rfl, rfl, .inl ⟨by omega, by omega⟩, _, _, rfl, rfl, .inl ⟨_, rfl, _, _, rfl, rfl, (by show (0 : Int) < 2147483647; decide), _, rfl, t, _, rfl, dput_x ht _, ?_⟩⟩
      generalize ex : (m * 48821 + 6073) % 2147483647 = x
      have x0 : 0 ≤ x := by
        rw [← ex]
        exact Int.emod_nonneg _ (by decide)
      have x1 : x < 2147483647 := by
        rw [← ex]
        exact Int.emod_lt_of_pos _ (by decide)
      have o2 : TapeOk d x := ⟨ok.d0, ok.db, x0, by omega⟩
      refine ⟨_, rfl, t, _, rfl, dget_x upd_same, _, _, rfl, rfl, ⟨by decide, by decide, by omega⟩, .inl ⟨_, rfl, _, _, rfl, rfl, (by show (0 : Int) < 2147483587; decide), ?_⟩⟩
      generalize ey : x ^ (2 : Int).toNat % 2147483587 = y
      have y0 : 0 ≤ y := by
        rw [← ey]
        exact Int.emod_nonneg _ (by decide)
      have y1 : y < 2147483587 := by
        rw [← ey]
        exact Int.emod_lt_of_pos _ (by decide)
      refine ⟨_, _, rfl, rfl, ⟨by decide, by decide, by omega⟩, .inl ⟨_, rfl, _, _, rfl, rfl, (by show (0 : Int) < 1000000087; decide), _, _, rfl, rfl, ⟨by decide, by decide⟩, _, rfl, _, _, rfl, rfl, np, ?_⟩⟩
      exact k _ _ ((Kp.refl H).put rfl) (TapeAt.put o2) (Int.emod_nonneg _ (by omega)) (Int.emod_lt_of_pos _ np)
theorem scOneOf : FnScope ["well", "things"] ["well", "things"] (defScope sOneOf) := ⟨rfl, rfl, rfl, by decide +kernel, rfl, by decide +kernel, by decide +kernel⟩
theorem ok_one_of {f fP : Addr} {fd : FuncData} (F : Fun K "_law_choose" "_law_choose" sOneOf f fd) (T : TxtT mg) (DP : Df P w K mg base 1 fP "_law_draw" ["well", "bound"] spPick) : FnOk P w K mg base CX0 2 f fd ["well", "things"] (spOneOf K) := by
  refine F.ok scOneOf (fun vs H Q E h => ?_) (fun cdv A outer s H vs Q E hr h => ?_)
  · obtain ⟨t, l, xs, rfl, _⟩ := h
    rfl
  · obtain ⟨t, l, xs, rfl, ta, hl, l1, l2, k⟩ := h
    refine ⟨_, pss_one (ps_ret (pe_ix ix_list (pv 1) (pe_df DP hr (by rfl) (pa_cons (pv 0) (pa_cons (pe_callB call_len (by rfl) T.z_len PySem.boot_len (pa_cons (pv 1) pa_nil)) pa_nil))) (fun _ _ => rfl))), ?_⟩
    refine ⟨_, rfl, _, rfl, _, rfl, _, xs.length, rfl, .inl ⟨xs, hl, rfl⟩, t, _, rfl, ta, by omega, by omega, fun H2 r k2 ta2 r0 r1 => ?_⟩
    have hx : xs[r.toNat]? = some (xs[r.toNat]'(by omega)) := List.getElem?_eq_getElem _
    have er : r = (r.toNat : Int) := by omega
    refine ⟨l, xs, r, _, rfl, rfl, sqL_tape ta hl k2, (by rw [er]; exact atI_nat hx), k H2 _ k2 ta2 (List.getElem_mem _)⟩
end
end Lw
namespace Lw
open PySem L2 Gk
abbrev sMade : Stmt := topS 33
abbrev sNamed : Stmt := topS 34
abbrev sKinds : Stmt := topS 31
/-- an error class and all that is asked of it -/
structure EX (P : Program) (w : World) (K : PySem.W.Frag) (mg : Str → Option Value) (base : Heap) (x : Str) (C : Addr) (prm fld : Str) : Prop where
  er : ErC P w K mg base 1 x C prm fld
  is : IsC K C
  no : PySem.W.findIn K (.ref C) fld = some none
/-- an error of the class at C that keeps x in its field -/
def ExAt (H : Hp) (v : V) (C : Addr) (fld : Str) (x : V) : Prop := ∃ a d, v = .ref a ∧ H a = some (exo a C (some d)) ∧ H d = some (exd d [(fld, x)])
theorem ExAt.keep0 {H H2 : Hp} {v x : V} {C : Addr} {fld : Str} (h : ExAt H v C fld x) (k : Kp T0 H H2) : ExAt H2 v C fld x := by
  obtain ⟨a, d, e, ea, ed⟩ := h
  exact ⟨a, d, e, k.at0 ea, k.at0 ed⟩
abbrev Exs (H : Hp) (x : V) (es : List V) (cs : List (Addr × Str)) : Prop := Paired (fun e c => ExAt H e c.1 c.2 x) es cs
def spMade (cs : List (Addr × Str)) : Sp := fun vs H Q _ => ∃ x, vs = [x] ∧ ∀ H2 l es, Kp T0 H H2 → H l = none → H2 l = some (.lst es) → Exs H2 x es cs → Q (.ref l) H2
def spKinds (K : PySem.W.Frag) (cs : List (Addr × Str)) : Sp := fun vs H Q _ => ∃ (e x : V) (C : Addr) (fld : Str) (bs : List Bool), vs = [e] ∧ ExAt H e C fld x ∧ OexC K C ∧ IsC K C ∧ Paired (fun (c : Addr × Str) b => PySem.W.kitOne K (.ref C) (.ref c.1) = some b) cs bs ∧
  ∀ H2 l, Kp T0 H H2 → H l = none → H2 l = some (.lst (bs.map V.bl)) → Q (.ref l) H2
section
variable {P : Program} {w : World} {K : PySem.W.Frag} {mg : Str → Option Value} {base : Heap} {C0 C1 C2 C3 C4 C5 C6 C7 C8 C9 C10 C11 C12 C13 : Addr}
theorem row14 {R : Addr × Str → Bool → Prop} {c0 c1 c2 c3 c4 c5 c6 c7 c8 c9 c10 c11 c12 c13 : Addr × Str} {bs : List Bool} (h : Paired R [c0, c1, c2, c3, c4, c5, c6, c7, c8, c9, c10, c11, c12, c13] bs) : ∃ b0 b1 b2 b3 b4 b5 b6 b7 b8 b9 b10 b11 b12 b13 : Bool, bs = [b0, b1, b2, b3, b4, b5, b6, b7, b8, b9, b10, b11, b12, b13] ∧ R c0 b0 ∧ R c1 b1 ∧ R c2 b2 ∧ R c3 b3 ∧ R c4 b4 ∧ R c5 b5 ∧ R c6 b6 ∧ R c7 b7 ∧ R c8 b8 ∧ R c9 b9 ∧ R c10 b10 ∧ R c11 b11 ∧ R c12 b12 ∧ R c13 b13 := by
  match bs, h with
  | [b0, b1, b2, b3, b4, b5, b6, b7, b8, b9, b10, b11, b12, b13], .cons t0 (.cons t1 (.cons t2 (.cons t3 (.cons t4 (.cons t5 (.cons t6 (.cons t7 (.cons t8 (.cons t9 (.cons t10 (.cons t11 (.cons t12 (.cons t13 (.nil)))))))))))))) => exact ⟨_, _, _, _, _, _, _, _, _, _, _, _, _, _, rfl, t0, t1, t2, t3, t4, t5, t6, t7, t8, t9, t10, t11, t12, t13⟩
theorem scMade : FnScope ["thing", "some"] ["thing"] (defScope sMade) := ⟨rfl, rfl, rfl, by decide +kernel, rfl, by decide +kernel, by decide +kernel⟩
theorem scNamed : FnScope ["thing", "some"] ["thing"] (defScope sNamed) := ⟨rfl, rfl, rfl, by decide +kernel, rfl, by decide +kernel, by decide +kernel⟩
theorem scKin : FnScope ["error", "kinds"] ["error"] (defScope sKinds) := ⟨rfl, rfl, rfl, by decide +kernel, rfl, by decide +kernel, by decide +kernel⟩
theorem ok_made {f : Addr} {fd : FuncData} (F : Fun K "_law_made" "_law_made" sMade f fd) (X0 : EX P w K mg base "BadSchema" C0 "value" "value") (X1 : EX P w K mg base "BadPath" C1 "value" "value") (X2 : EX P w K mg base "BadValue" C2 "value" "value") (X3 : EX P w K mg base "BadPaper" C3 "value" "value") (X4 : EX P w K mg base "BadStep" C4 "value" "value") (X5 : EX P w K mg base "BadProgram" C5 "value" "value") (X6 : EX P w K mg base "BadMask" C6 "value" "value") (X7 : EX P w K mg base "BadText" C7 "value" "value") (X8 : EX P w K mg base "BadCommand" C8 "command" "command") (X9 : EX P w K mg base "Unset" C9 "path" "path") (X10 : EX P w K mg base "Lost" C10 "pair" "pair") (X11 : EX P w K mg base "Refused" C11 "number" "number") (X12 : EX P w K mg base "UnknownNumber" C12 "number" "number") (X13 : EX P w K mg base "NothingToUndo" C13 "many" "many") : FnOk P w K mg base CX0 3 f fd ["thing"] (spMade [(C0, "value"), (C1, "value"), (C2, "value"), (C3, "value"), (C4, "value"), (C5, "value"), (C6, "value"), (C7, "value"), (C8, "command"), (C9, "path"), (C10, "pair"), (C11, "number"), (C12, "number"), (C13, "many")]) := by
  refine F.ok scMade (fun vs H Q E h => ?_) (fun cdv A outer s H vs Q E hr h => ?_)
  · obtain ⟨x, rfl, _⟩ := h
    rfl
  · obtain ⟨x, rfl, k⟩ := h
    have hz : (16777216 : Nat) = PySem.sizeLine := PySem.sizeLine_eq.symm
    refine ⟨_, (pss_cons (ps_set (i := 1) scMade.nd rfl (Or.inl rfl) (pe_lst (pa_cons (pe_exc X0.er hr (by rfl) (pv 0)) (pa_cons (pe_exc X1.er hr (by rfl) (pv 0)) (pa_cons (pe_exc X2.er hr (by rfl) (pv 0)) (pa_cons (pe_exc X3.er hr (by rfl) (pv 0)) (pa_cons (pe_exc X4.er hr (by rfl) (pv 0)) (pa_cons (pe_exc X5.er hr (by rfl) (pv 0)) pa_nil))))))))
      (pss_cons (ps_set (i := 1) scMade.nd rfl (Or.inl rfl) (pe_op op_cat (pv 1) (pe_lst (pa_cons (pe_exc X6.er hr (by rfl) (pv 0)) (pa_cons (pe_exc X7.er hr (by rfl) (pv 0)) (pa_cons (pe_exc X8.er hr (by rfl) (pv 0)) (pa_cons (pe_exc X9.er hr (by rfl) (pv 0)) (pa_cons (pe_exc X10.er hr (by rfl) (pv 0)) (pa_cons (pe_exc X11.er hr (by rfl) (pv 0)) pa_nil)))))))))
      (pss_one (ps_ret (pe_op op_cat (pv 1) (pe_lst (pa_cons (pe_exc X12.er hr (by rfl) (pv 0)) (pa_cons (pe_exc X13.er hr (by rfl) (pv 0)) pa_nil)))))))), ?_⟩
    have KK := Kp.refl (T := T0) H
    refine ⟨_, rfl, fun H0 a0 d0 k0 n0 e0 f0 => ?_⟩
    replace KK := KK.trans k0
    have E0 : ExAt H0 (.ref a0) C0 "value" x := ⟨a0, d0, rfl, e0, f0⟩
    refine ⟨_, rfl, fun H1 a1 d1 k1 n1 e1 f1 => ?_⟩
    replace E0 := E0.keep0 k1
    replace KK := KK.trans k1
    have E1 : ExAt H1 (.ref a1) C1 "value" x := ⟨a1, d1, rfl, e1, f1⟩
    refine ⟨_, rfl, fun H2 a2 d2 k2 n2 e2 f2 => ?_⟩
    replace E0 := E0.keep0 k2
    replace E1 := E1.keep0 k2
    replace KK := KK.trans k2
    have E2 : ExAt H2 (.ref a2) C2 "value" x := ⟨a2, d2, rfl, e2, f2⟩
    refine ⟨_, rfl, fun H3 a3 d3 k3 n3 e3 f3 => ?_⟩
    replace E0 := E0.keep0 k3
    replace E1 := E1.keep0 k3
    replace E2 := E2.keep0 k3
    replace KK := KK.trans k3
    have E3 : ExAt H3 (.ref a3) C3 "value" x := ⟨a3, d3, rfl, e3, f3⟩
    refine ⟨_, rfl, fun H4 a4 d4 k4 n4 e4 f4 => ?_⟩
    replace E0 := E0.keep0 k4
    replace E1 := E1.keep0 k4
    replace E2 := E2.keep0 k4
    replace E3 := E3.keep0 k4
    replace KK := KK.trans k4
    have E4 : ExAt H4 (.ref a4) C4 "value" x := ⟨a4, d4, rfl, e4, f4⟩
    refine ⟨_, rfl, fun H5 a5 d5 k5 n5 e5 f5 => ?_⟩
    replace E0 := E0.keep0 k5
    replace E1 := E1.keep0 k5
    replace E2 := E2.keep0 k5
    replace E3 := E3.keep0 k5
    replace E4 := E4.keep0 k5
    replace KK := KK.trans k5
    have E5 : ExAt H5 (.ref a5) C5 "value" x := ⟨a5, d5, rfl, e5, f5⟩
    refine ⟨(by show 6 ≤ sizeLine; omega), fun l0 m0 => ?_⟩
    have kn := (Kp.refl (T := T0) H5).new (o := .lst [V.ref a0, V.ref a1, V.ref a2, V.ref a3, V.ref a4, V.ref a5]) m0
    replace E0 := E0.keep0 kn
    replace E1 := E1.keep0 kn
    replace E2 := E2.keep0 kn
    replace E3 := E3.keep0 kn
    replace E4 := E4.keep0 kn
    replace E5 := E5.keep0 kn
    replace KK := KK.trans kn
    have dl : (upd H5 l0 (.lst [V.ref a0, V.ref a1, V.ref a2, V.ref a3, V.ref a4, V.ref a5])) l0 = some (.lst [V.ref a0, V.ref a1, V.ref a2, V.ref a3, V.ref a4, V.ref a5]) := upd_same
    clear kn
    generalize upd H5 l0 (.lst [V.ref a0, V.ref a1, V.ref a2, V.ref a3, V.ref a4, V.ref a5]) = G0 at E0 E1 E2 E3 E4 E5 KK dl ⊢
    refine ⟨_, rfl, ?_⟩
    refine ⟨_, rfl, fun H6 a6 d6 k6 n6 e6 f6 => ?_⟩
    replace E0 := E0.keep0 k6
    replace E1 := E1.keep0 k6
    replace E2 := E2.keep0 k6
    replace E3 := E3.keep0 k6
    replace E4 := E4.keep0 k6
    replace E5 := E5.keep0 k6
    replace KK := KK.trans k6
    replace dl := k6.at0 dl
    have E6 : ExAt H6 (.ref a6) C6 "value" x := ⟨a6, d6, rfl, e6, f6⟩
    refine ⟨_, rfl, fun H7 a7 d7 k7 n7 e7 f7 => ?_⟩
    replace E0 := E0.keep0 k7
    replace E1 := E1.keep0 k7
    replace E2 := E2.keep0 k7
    replace E3 := E3.keep0 k7
    replace E4 := E4.keep0 k7
    replace E5 := E5.keep0 k7
    replace E6 := E6.keep0 k7
    replace KK := KK.trans k7
    replace dl := k7.at0 dl
    have E7 : ExAt H7 (.ref a7) C7 "value" x := ⟨a7, d7, rfl, e7, f7⟩
    refine ⟨_, rfl, fun H8 a8 d8 k8 n8 e8 f8 => ?_⟩
    replace E0 := E0.keep0 k8
    replace E1 := E1.keep0 k8
    replace E2 := E2.keep0 k8
    replace E3 := E3.keep0 k8
    replace E4 := E4.keep0 k8
    replace E5 := E5.keep0 k8
    replace E6 := E6.keep0 k8
    replace E7 := E7.keep0 k8
    replace KK := KK.trans k8
    replace dl := k8.at0 dl
    have E8 : ExAt H8 (.ref a8) C8 "command" x := ⟨a8, d8, rfl, e8, f8⟩
    refine ⟨_, rfl, fun H9 a9 d9 k9 n9 e9 f9 => ?_⟩
    replace E0 := E0.keep0 k9
    replace E1 := E1.keep0 k9
    replace E2 := E2.keep0 k9
    replace E3 := E3.keep0 k9
    replace E4 := E4.keep0 k9
    replace E5 := E5.keep0 k9
    replace E6 := E6.keep0 k9
    replace E7 := E7.keep0 k9
    replace E8 := E8.keep0 k9
    replace KK := KK.trans k9
    replace dl := k9.at0 dl
    have E9 : ExAt H9 (.ref a9) C9 "path" x := ⟨a9, d9, rfl, e9, f9⟩
    refine ⟨_, rfl, fun H10 a10 d10 k10 n10 e10 f10 => ?_⟩
    replace E0 := E0.keep0 k10
    replace E1 := E1.keep0 k10
    replace E2 := E2.keep0 k10
    replace E3 := E3.keep0 k10
    replace E4 := E4.keep0 k10
    replace E5 := E5.keep0 k10
    replace E6 := E6.keep0 k10
    replace E7 := E7.keep0 k10
    replace E8 := E8.keep0 k10
    replace E9 := E9.keep0 k10
    replace KK := KK.trans k10
    replace dl := k10.at0 dl
    have E10 : ExAt H10 (.ref a10) C10 "pair" x := ⟨a10, d10, rfl, e10, f10⟩
    refine ⟨_, rfl, fun H11 a11 d11 k11 n11 e11 f11 => ?_⟩
    replace E0 := E0.keep0 k11
    replace E1 := E1.keep0 k11
    replace E2 := E2.keep0 k11
    replace E3 := E3.keep0 k11
    replace E4 := E4.keep0 k11
    replace E5 := E5.keep0 k11
    replace E6 := E6.keep0 k11
    replace E7 := E7.keep0 k11
    replace E8 := E8.keep0 k11
    replace E9 := E9.keep0 k11
    replace E10 := E10.keep0 k11
    replace KK := KK.trans k11
    replace dl := k11.at0 dl
    have E11 : ExAt H11 (.ref a11) C11 "number" x := ⟨a11, d11, rfl, e11, f11⟩
    refine ⟨(by show 6 ≤ sizeLine; omega), fun l1 m1 => ?_⟩
    have kn := (Kp.refl (T := T0) H11).new (o := .lst [V.ref a6, V.ref a7, V.ref a8, V.ref a9, V.ref a10, V.ref a11]) m1
    replace E0 := E0.keep0 kn
    replace E1 := E1.keep0 kn
    replace E2 := E2.keep0 kn
    replace E3 := E3.keep0 kn
    replace E4 := E4.keep0 kn
    replace E5 := E5.keep0 kn
    replace E6 := E6.keep0 kn
    replace E7 := E7.keep0 kn
    replace E8 := E8.keep0 kn
    replace E9 := E9.keep0 kn
    replace E10 := E10.keep0 kn
    replace E11 := E11.keep0 kn
    replace KK := KK.trans kn
    replace dl := kn.at0 dl
    refine ⟨l0, l1, [V.ref a0, V.ref a1, V.ref a2, V.ref a3, V.ref a4, V.ref a5], [V.ref a6, V.ref a7, V.ref a8, V.ref a9, V.ref a10, V.ref a11], rfl, rfl, dl, upd_same, (by show 12 ≤ sizeLine; omega), fun q1 w1 => ?_⟩
    have kn2 := (Kp.refl (T := T0) (upd H11 l1 (.lst [V.ref a6, V.ref a7, V.ref a8, V.ref a9, V.ref a10, V.ref a11]))).new (o := .lst ([V.ref a0, V.ref a1, V.ref a2, V.ref a3, V.ref a4, V.ref a5] ++ [V.ref a6, V.ref a7, V.ref a8, V.ref a9, V.ref a10, V.ref a11])) w1
    replace E0 := E0.keep0 kn2
    replace E1 := E1.keep0 kn2
    replace E2 := E2.keep0 kn2
    replace E3 := E3.keep0 kn2
    replace E4 := E4.keep0 kn2
    replace E5 := E5.keep0 kn2
    replace E6 := E6.keep0 kn2
    replace E7 := E7.keep0 kn2
    replace E8 := E8.keep0 kn2
    replace E9 := E9.keep0 kn2
    replace E10 := E10.keep0 kn2
    replace E11 := E11.keep0 kn2
    replace KK := KK.trans kn2
    have dl2 : (upd (upd H11 l1 (.lst [V.ref a6, V.ref a7, V.ref a8, V.ref a9, V.ref a10, V.ref a11])) q1 (.lst ([V.ref a0, V.ref a1, V.ref a2, V.ref a3, V.ref a4, V.ref a5] ++ [V.ref a6, V.ref a7, V.ref a8, V.ref a9, V.ref a10, V.ref a11]))) q1 = some (.lst ([V.ref a0, V.ref a1, V.ref a2, V.ref a3, V.ref a4, V.ref a5] ++ [V.ref a6, V.ref a7, V.ref a8, V.ref a9, V.ref a10, V.ref a11])) := upd_same
    replace dl := dl2
    clear kn kn2 dl2
    generalize upd (upd H11 l1 (.lst [V.ref a6, V.ref a7, V.ref a8, V.ref a9, V.ref a10, V.ref a11])) q1 (.lst ([V.ref a0, V.ref a1, V.ref a2, V.ref a3, V.ref a4, V.ref a5] ++ [V.ref a6, V.ref a7, V.ref a8, V.ref a9, V.ref a10, V.ref a11])) = G1 at E0 E1 E2 E3 E4 E5 E6 E7 E8 E9 E10 E11 KK dl ⊢
    replace dl : G1 q1 = some (.lst [V.ref a0, V.ref a1, V.ref a2, V.ref a3, V.ref a4, V.ref a5, V.ref a6, V.ref a7, V.ref a8, V.ref a9, V.ref a10, V.ref a11]) := dl
    refine ⟨_, rfl, ?_⟩
    refine ⟨_, rfl, fun H12 a12 d12 k12 n12 e12 f12 => ?_⟩
    replace E0 := E0.keep0 k12
    replace E1 := E1.keep0 k12
    replace E2 := E2.keep0 k12
    replace E3 := E3.keep0 k12
    replace E4 := E4.keep0 k12
    replace E5 := E5.keep0 k12
    replace E6 := E6.keep0 k12
    replace E7 := E7.keep0 k12
    replace E8 := E8.keep0 k12
    replace E9 := E9.keep0 k12
    replace E10 := E10.keep0 k12
    replace E11 := E11.keep0 k12
    replace KK := KK.trans k12
    replace dl := k12.at0 dl
    have E12 : ExAt H12 (.ref a12) C12 "number" x := ⟨a12, d12, rfl, e12, f12⟩
    refine ⟨_, rfl, fun H13 a13 d13 k13 n13 e13 f13 => ?_⟩
    replace E0 := E0.keep0 k13
    replace E1 := E1.keep0 k13
    replace E2 := E2.keep0 k13
    replace E3 := E3.keep0 k13
    replace E4 := E4.keep0 k13
    replace E5 := E5.keep0 k13
    replace E6 := E6.keep0 k13
    replace E7 := E7.keep0 k13
    replace E8 := E8.keep0 k13
    replace E9 := E9.keep0 k13
    replace E10 := E10.keep0 k13
    replace E11 := E11.keep0 k13
    replace E12 := E12.keep0 k13
    replace KK := KK.trans k13
    replace dl := k13.at0 dl
    have E13 : ExAt H13 (.ref a13) C13 "many" x := ⟨a13, d13, rfl, e13, f13⟩
    refine ⟨(by show 2 ≤ sizeLine; omega), fun l2 m2 => ?_⟩
    have kn := (Kp.refl (T := T0) H13).new (o := .lst [V.ref a12, V.ref a13]) m2
    replace E0 := E0.keep0 kn
    replace E1 := E1.keep0 kn
    replace E2 := E2.keep0 kn
    replace E3 := E3.keep0 kn
    replace E4 := E4.keep0 kn
    replace E5 := E5.keep0 kn
    replace E6 := E6.keep0 kn
    replace E7 := E7.keep0 kn
    replace E8 := E8.keep0 kn
    replace E9 := E9.keep0 kn
    replace E10 := E10.keep0 kn
    replace E11 := E11.keep0 kn
    replace E12 := E12.keep0 kn
    replace E13 := E13.keep0 kn
    replace KK := KK.trans kn
    replace dl := kn.at0 dl
    refine ⟨q1, l2, [V.ref a0, V.ref a1, V.ref a2, V.ref a3, V.ref a4, V.ref a5, V.ref a6, V.ref a7, V.ref a8, V.ref a9, V.ref a10, V.ref a11], [V.ref a12, V.ref a13], rfl, rfl, dl, upd_same, (by show 14 ≤ sizeLine; omega), fun q2 w2 => ?_⟩
    have wN := KK.free w2
    have kn2 := (Kp.refl (T := T0) (upd H13 l2 (.lst [V.ref a12, V.ref a13]))).new (o := .lst ([V.ref a0, V.ref a1, V.ref a2, V.ref a3, V.ref a4, V.ref a5, V.ref a6, V.ref a7, V.ref a8, V.ref a9, V.ref a10, V.ref a11] ++ [V.ref a12, V.ref a13])) w2
    replace E0 := E0.keep0 kn2
    replace E1 := E1.keep0 kn2
    replace E2 := E2.keep0 kn2
    replace E3 := E3.keep0 kn2
    replace E4 := E4.keep0 kn2
    replace E5 := E5.keep0 kn2
    replace E6 := E6.keep0 kn2
    replace E7 := E7.keep0 kn2
    replace E8 := E8.keep0 kn2
    replace E9 := E9.keep0 kn2
    replace E10 := E10.keep0 kn2
    replace E11 := E11.keep0 kn2
    replace E12 := E12.keep0 kn2
    replace E13 := E13.keep0 kn2
    replace KK := KK.trans kn2
    exact k _ q2 _ KK wN upd_same (.cons E0 (.cons E1 (.cons E2 (.cons E3 (.cons E4 (.cons E5 (.cons E6 (.cons E7 (.cons E8 (.cons E9 (.cons E10 (.cons E11 (.cons E12 (.cons E13 (.nil)))))))))))))))
theorem ok_named {f : Addr} {fd : FuncData} (F : Fun K "_law_named" "_law_named" sNamed f fd) (X0 : EX P w K mg base "BadSchema" C0 "value" "value") (X1 : EX P w K mg base "BadPath" C1 "value" "value") (X2 : EX P w K mg base "BadValue" C2 "value" "value") (X3 : EX P w K mg base "BadPaper" C3 "value" "value") (X4 : EX P w K mg base "BadStep" C4 "value" "value") (X5 : EX P w K mg base "BadProgram" C5 "value" "value") (X6 : EX P w K mg base "BadMask" C6 "value" "value") (X7 : EX P w K mg base "BadText" C7 "value" "value") (X8 : EX P w K mg base "BadCommand" C8 "command" "command") (X9 : EX P w K mg base "Unset" C9 "path" "path") (X10 : EX P w K mg base "Lost" C10 "pair" "pair") (X11 : EX P w K mg base "Refused" C11 "number" "number") (X12 : EX P w K mg base "UnknownNumber" C12 "number" "number") (X13 : EX P w K mg base "NothingToUndo" C13 "many" "many") : FnOk P w K mg base CX0 3 f fd ["thing"] (spMade [(C0, "value"), (C1, "value"), (C2, "value"), (C3, "value"), (C4, "value"), (C5, "value"), (C6, "value"), (C7, "value"), (C8, "command"), (C9, "path"), (C10, "pair"), (C11, "number"), (C12, "number"), (C13, "many")]) := by
  refine F.ok scNamed (fun vs H Q E h => ?_) (fun cdv A outer s H vs Q E hr h => ?_)
  · obtain ⟨x, rfl, _⟩ := h
    rfl
  · obtain ⟨x, rfl, k⟩ := h
    have hz : (16777216 : Nat) = PySem.sizeLine := PySem.sizeLine_eq.symm
    refine ⟨_, (pss_cons (ps_set (i := 1) scNamed.nd rfl (Or.inl rfl) (pe_lst (pa_cons (pe_excK X0.er hr (by rfl) (pv 0)) (pa_cons (pe_excK X1.er hr (by rfl) (pv 0)) (pa_cons (pe_excK X2.er hr (by rfl) (pv 0)) (pa_cons (pe_excK X3.er hr (by rfl) (pv 0)) pa_nil))))))
      (pss_cons (ps_set (i := 1) scNamed.nd rfl (Or.inl rfl) (pe_op op_cat (pv 1) (pe_lst (pa_cons (pe_excK X4.er hr (by rfl) (pv 0)) (pa_cons (pe_excK X5.er hr (by rfl) (pv 0)) (pa_cons (pe_excK X6.er hr (by rfl) (pv 0)) (pa_cons (pe_excK X7.er hr (by rfl) (pv 0)) pa_nil)))))))
      (pss_cons (ps_set (i := 1) scNamed.nd rfl (Or.inl rfl) (pe_op op_cat (pv 1) (pe_lst (pa_cons (pe_excK X8.er hr (by rfl) (pv 0)) (pa_cons (pe_excK X9.er hr (by rfl) (pv 0)) (pa_cons (pe_excK X10.er hr (by rfl) (pv 0)) (pa_cons (pe_excK X11.er hr (by rfl) (pv 0)) pa_nil)))))))
      (pss_one (ps_ret (pe_op op_cat (pv 1) (pe_lst (pa_cons (pe_excK X12.er hr (by rfl) (pv 0)) (pa_cons (pe_excK X13.er hr (by rfl) (pv 0)) pa_nil))))))))), ?_⟩
    have KK := Kp.refl (T := T0) H
    refine ⟨_, rfl, fun H0 a0 d0 k0 n0 e0 f0 => ?_⟩
    replace KK := KK.trans k0
    have E0 : ExAt H0 (.ref a0) C0 "value" x := ⟨a0, d0, rfl, e0, f0⟩
    refine ⟨_, rfl, fun H1 a1 d1 k1 n1 e1 f1 => ?_⟩
    replace E0 := E0.keep0 k1
    replace KK := KK.trans k1
    have E1 : ExAt H1 (.ref a1) C1 "value" x := ⟨a1, d1, rfl, e1, f1⟩
    refine ⟨_, rfl, fun H2 a2 d2 k2 n2 e2 f2 => ?_⟩
    replace E0 := E0.keep0 k2
    replace E1 := E1.keep0 k2
    replace KK := KK.trans k2
    have E2 : ExAt H2 (.ref a2) C2 "value" x := ⟨a2, d2, rfl, e2, f2⟩
    refine ⟨_, rfl, fun H3 a3 d3 k3 n3 e3 f3 => ?_⟩
    replace E0 := E0.keep0 k3
    replace E1 := E1.keep0 k3
    replace E2 := E2.keep0 k3
    replace KK := KK.trans k3
    have E3 : ExAt H3 (.ref a3) C3 "value" x := ⟨a3, d3, rfl, e3, f3⟩
    refine ⟨(by show 4 ≤ sizeLine; omega), fun l0 m0 => ?_⟩
    have kn := (Kp.refl (T := T0) H3).new (o := .lst [V.ref a0, V.ref a1, V.ref a2, V.ref a3]) m0
    replace E0 := E0.keep0 kn
    replace E1 := E1.keep0 kn
    replace E2 := E2.keep0 kn
    replace E3 := E3.keep0 kn
    replace KK := KK.trans kn
    have dl : (upd H3 l0 (.lst [V.ref a0, V.ref a1, V.ref a2, V.ref a3])) l0 = some (.lst [V.ref a0, V.ref a1, V.ref a2, V.ref a3]) := upd_same
    clear kn
    generalize upd H3 l0 (.lst [V.ref a0, V.ref a1, V.ref a2, V.ref a3]) = G0 at E0 E1 E2 E3 KK dl ⊢
    refine ⟨_, rfl, ?_⟩
    refine ⟨_, rfl, fun H4 a4 d4 k4 n4 e4 f4 => ?_⟩
    replace E0 := E0.keep0 k4
    replace E1 := E1.keep0 k4
    replace E2 := E2.keep0 k4
    replace E3 := E3.keep0 k4
    replace KK := KK.trans k4
    replace dl := k4.at0 dl
    have E4 : ExAt H4 (.ref a4) C4 "value" x := ⟨a4, d4, rfl, e4, f4⟩
    refine ⟨_, rfl, fun H5 a5 d5 k5 n5 e5 f5 => ?_⟩
    replace E0 := E0.keep0 k5
    replace E1 := E1.keep0 k5
    replace E2 := E2.keep0 k5
    replace E3 := E3.keep0 k5
    replace E4 := E4.keep0 k5
    replace KK := KK.trans k5
    replace dl := k5.at0 dl
    have E5 : ExAt H5 (.ref a5) C5 "value" x := ⟨a5, d5, rfl, e5, f5⟩
    refine ⟨_, rfl, fun H6 a6 d6 k6 n6 e6 f6 => ?_⟩
    replace E0 := E0.keep0 k6
    replace E1 := E1.keep0 k6
    replace E2 := E2.keep0 k6
    replace E3 := E3.keep0 k6
    replace E4 := E4.keep0 k6
    replace E5 := E5.keep0 k6
    replace KK := KK.trans k6
    replace dl := k6.at0 dl
    have E6 : ExAt H6 (.ref a6) C6 "value" x := ⟨a6, d6, rfl, e6, f6⟩
    refine ⟨_, rfl, fun H7 a7 d7 k7 n7 e7 f7 => ?_⟩
    replace E0 := E0.keep0 k7
    replace E1 := E1.keep0 k7
    replace E2 := E2.keep0 k7
    replace E3 := E3.keep0 k7
    replace E4 := E4.keep0 k7
    replace E5 := E5.keep0 k7
    replace E6 := E6.keep0 k7
    replace KK := KK.trans k7
    replace dl := k7.at0 dl
    have E7 : ExAt H7 (.ref a7) C7 "value" x := ⟨a7, d7, rfl, e7, f7⟩
    refine ⟨(by show 4 ≤ sizeLine; omega), fun l1 m1 => ?_⟩
    have kn := (Kp.refl (T := T0) H7).new (o := .lst [V.ref a4, V.ref a5, V.ref a6, V.ref a7]) m1
    replace E0 := E0.keep0 kn
    replace E1 := E1.keep0 kn
    replace E2 := E2.keep0 kn
    replace E3 := E3.keep0 kn
    replace E4 := E4.keep0 kn
    replace E5 := E5.keep0 kn
    replace E6 := E6.keep0 kn
    replace E7 := E7.keep0 kn
    replace KK := KK.trans kn
    replace dl := kn.at0 dl
    refine ⟨l0, l1, [V.ref a0, V.ref a1, V.ref a2, V.ref a3], [V.ref a4, V.ref a5, V.ref a6, V.ref a7], rfl, rfl, dl, upd_same, (by show 8 ≤ sizeLine; omega), fun q1 w1 => ?_⟩
    have kn2 := (Kp.refl (T := T0) (upd H7 l1 (.lst [V.ref a4, V.ref a5, V.ref a6, V.ref a7]))).new (o := .lst ([V.ref a0, V.ref a1, V.ref a2, V.ref a3] ++ [V.ref a4, V.ref a5, V.ref a6, V.ref a7])) w1
    replace E0 := E0.keep0 kn2
    replace E1 := E1.keep0 kn2
    replace E2 := E2.keep0 kn2
    replace E3 := E3.keep0 kn2
    replace E4 := E4.keep0 kn2
    replace E5 := E5.keep0 kn2
    replace E6 := E6.keep0 kn2
    replace E7 := E7.keep0 kn2
    replace KK := KK.trans kn2
    have dl2 : (upd (upd H7 l1 (.lst [V.ref a4, V.ref a5, V.ref a6, V.ref a7])) q1 (.lst ([V.ref a0, V.ref a1, V.ref a2, V.ref a3] ++ [V.ref a4, V.ref a5, V.ref a6, V.ref a7]))) q1 = some (.lst ([V.ref a0, V.ref a1, V.ref a2, V.ref a3] ++ [V.ref a4, V.ref a5, V.ref a6, V.ref a7])) := upd_same
    replace dl := dl2
    clear kn kn2 dl2
    generalize upd (upd H7 l1 (.lst [V.ref a4, V.ref a5, V.ref a6, V.ref a7])) q1 (.lst ([V.ref a0, V.ref a1, V.ref a2, V.ref a3] ++ [V.ref a4, V.ref a5, V.ref a6, V.ref a7])) = G1 at E0 E1 E2 E3 E4 E5 E6 E7 KK dl ⊢
    replace dl : G1 q1 = some (.lst [V.ref a0, V.ref a1, V.ref a2, V.ref a3, V.ref a4, V.ref a5, V.ref a6, V.ref a7]) := dl
    refine ⟨_, rfl, ?_⟩
    refine ⟨_, rfl, fun H8 a8 d8 k8 n8 e8 f8 => ?_⟩
    replace E0 := E0.keep0 k8
    replace E1 := E1.keep0 k8
    replace E2 := E2.keep0 k8
    replace E3 := E3.keep0 k8
    replace E4 := E4.keep0 k8
    replace E5 := E5.keep0 k8
    replace E6 := E6.keep0 k8
    replace E7 := E7.keep0 k8
    replace KK := KK.trans k8
    replace dl := k8.at0 dl
    have E8 : ExAt H8 (.ref a8) C8 "command" x := ⟨a8, d8, rfl, e8, f8⟩
    refine ⟨_, rfl, fun H9 a9 d9 k9 n9 e9 f9 => ?_⟩
    replace E0 := E0.keep0 k9
    replace E1 := E1.keep0 k9
    replace E2 := E2.keep0 k9
    replace E3 := E3.keep0 k9
    replace E4 := E4.keep0 k9
    replace E5 := E5.keep0 k9
    replace E6 := E6.keep0 k9
    replace E7 := E7.keep0 k9
    replace E8 := E8.keep0 k9
    replace KK := KK.trans k9
    replace dl := k9.at0 dl
    have E9 : ExAt H9 (.ref a9) C9 "path" x := ⟨a9, d9, rfl, e9, f9⟩
    refine ⟨_, rfl, fun H10 a10 d10 k10 n10 e10 f10 => ?_⟩
    replace E0 := E0.keep0 k10
    replace E1 := E1.keep0 k10
    replace E2 := E2.keep0 k10
    replace E3 := E3.keep0 k10
    replace E4 := E4.keep0 k10
    replace E5 := E5.keep0 k10
    replace E6 := E6.keep0 k10
    replace E7 := E7.keep0 k10
    replace E8 := E8.keep0 k10
    replace E9 := E9.keep0 k10
    replace KK := KK.trans k10
    replace dl := k10.at0 dl
    have E10 : ExAt H10 (.ref a10) C10 "pair" x := ⟨a10, d10, rfl, e10, f10⟩
    refine ⟨_, rfl, fun H11 a11 d11 k11 n11 e11 f11 => ?_⟩
    replace E0 := E0.keep0 k11
    replace E1 := E1.keep0 k11
    replace E2 := E2.keep0 k11
    replace E3 := E3.keep0 k11
    replace E4 := E4.keep0 k11
    replace E5 := E5.keep0 k11
    replace E6 := E6.keep0 k11
    replace E7 := E7.keep0 k11
    replace E8 := E8.keep0 k11
    replace E9 := E9.keep0 k11
    replace E10 := E10.keep0 k11
    replace KK := KK.trans k11
    replace dl := k11.at0 dl
    have E11 : ExAt H11 (.ref a11) C11 "number" x := ⟨a11, d11, rfl, e11, f11⟩
    refine ⟨(by show 4 ≤ sizeLine; omega), fun l2 m2 => ?_⟩
    have kn := (Kp.refl (T := T0) H11).new (o := .lst [V.ref a8, V.ref a9, V.ref a10, V.ref a11]) m2
    replace E0 := E0.keep0 kn
    replace E1 := E1.keep0 kn
    replace E2 := E2.keep0 kn
    replace E3 := E3.keep0 kn
    replace E4 := E4.keep0 kn
    replace E5 := E5.keep0 kn
    replace E6 := E6.keep0 kn
    replace E7 := E7.keep0 kn
    replace E8 := E8.keep0 kn
    replace E9 := E9.keep0 kn
    replace E10 := E10.keep0 kn
    replace E11 := E11.keep0 kn
    replace KK := KK.trans kn
    replace dl := kn.at0 dl
    refine ⟨q1, l2, [V.ref a0, V.ref a1, V.ref a2, V.ref a3, V.ref a4, V.ref a5, V.ref a6, V.ref a7], [V.ref a8, V.ref a9, V.ref a10, V.ref a11], rfl, rfl, dl, upd_same, (by show 12 ≤ sizeLine; omega), fun q2 w2 => ?_⟩
    have kn2 := (Kp.refl (T := T0) (upd H11 l2 (.lst [V.ref a8, V.ref a9, V.ref a10, V.ref a11]))).new (o := .lst ([V.ref a0, V.ref a1, V.ref a2, V.ref a3, V.ref a4, V.ref a5, V.ref a6, V.ref a7] ++ [V.ref a8, V.ref a9, V.ref a10, V.ref a11])) w2
    replace E0 := E0.keep0 kn2
    replace E1 := E1.keep0 kn2
    replace E2 := E2.keep0 kn2
    replace E3 := E3.keep0 kn2
    replace E4 := E4.keep0 kn2
    replace E5 := E5.keep0 kn2
    replace E6 := E6.keep0 kn2
    replace E7 := E7.keep0 kn2
    replace E8 := E8.keep0 kn2
    replace E9 := E9.keep0 kn2
    replace E10 := E10.keep0 kn2
    replace E11 := E11.keep0 kn2
    replace KK := KK.trans kn2
    have dl2 : (upd (upd H11 l2 (.lst [V.ref a8, V.ref a9, V.ref a10, V.ref a11])) q2 (.lst ([V.ref a0, V.ref a1, V.ref a2, V.ref a3, V.ref a4, V.ref a5, V.ref a6, V.ref a7] ++ [V.ref a8, V.ref a9, V.ref a10, V.ref a11]))) q2 = some (.lst ([V.ref a0, V.ref a1, V.ref a2, V.ref a3, V.ref a4, V.ref a5, V.ref a6, V.ref a7] ++ [V.ref a8, V.ref a9, V.ref a10, V.ref a11])) := upd_same
    replace dl := dl2
    clear kn kn2 dl2
    generalize upd (upd H11 l2 (.lst [V.ref a8, V.ref a9, V.ref a10, V.ref a11])) q2 (.lst ([V.ref a0, V.ref a1, V.ref a2, V.ref a3, V.ref a4, V.ref a5, V.ref a6, V.ref a7] ++ [V.ref a8, V.ref a9, V.ref a10, V.ref a11])) = G2 at E0 E1 E2 E3 E4 E5 E6 E7 E8 E9 E10 E11 KK dl ⊢
    replace dl : G2 q2 = some (.lst [V.ref a0, V.ref a1, V.ref a2, V.ref a3, V.ref a4, V.ref a5, V.ref a6, V.ref a7, V.ref a8, V.ref a9, V.ref a10, V.ref a11]) := dl
    refine ⟨_, rfl, ?_⟩
    refine ⟨_, rfl, fun H12 a12 d12 k12 n12 e12 f12 => ?_⟩
    replace E0 := E0.keep0 k12
    replace E1 := E1.keep0 k12
    replace E2 := E2.keep0 k12
    replace E3 := E3.keep0 k12
    replace E4 := E4.keep0 k12
    replace E5 := E5.keep0 k12
    replace E6 := E6.keep0 k12
    replace E7 := E7.keep0 k12
    replace E8 := E8.keep0 k12
    replace E9 := E9.keep0 k12
    replace E10 := E10.keep0 k12
    replace E11 := E11.keep0 k12
    replace KK := KK.trans k12
    replace dl := k12.at0 dl
    have E12 : ExAt H12 (.ref a12) C12 "number" x := ⟨a12, d12, rfl, e12, f12⟩
    refine ⟨_, rfl, fun H13 a13 d13 k13 n13 e13 f13 => ?_⟩
    replace E0 := E0.keep0 k13
    replace E1 := E1.keep0 k13
    replace E2 := E2.keep0 k13
    replace E3 := E3.keep0 k13
    replace E4 := E4.keep0 k13
    replace E5 := E5.keep0 k13
    replace E6 := E6.keep0 k13
    replace E7 := E7.keep0 k13
    replace E8 := E8.keep0 k13
    replace E9 := E9.keep0 k13
    replace E10 := E10.keep0 k13
    replace E11 := E11.keep0 k13
    replace E12 := E12.keep0 k13
    replace KK := KK.trans k13
    replace dl := k13.at0 dl
    have E13 : ExAt H13 (.ref a13) C13 "many" x := ⟨a13, d13, rfl, e13, f13⟩
    refine ⟨(by show 2 ≤ sizeLine; omega), fun l3 m3 => ?_⟩
    have kn := (Kp.refl (T := T0) H13).new (o := .lst [V.ref a12, V.ref a13]) m3
    replace E0 := E0.keep0 kn
    replace E1 := E1.keep0 kn
    replace E2 := E2.keep0 kn
    replace E3 := E3.keep0 kn
    replace E4 := E4.keep0 kn
    replace E5 := E5.keep0 kn
    replace E6 := E6.keep0 kn
    replace E7 := E7.keep0 kn
    replace E8 := E8.keep0 kn
    replace E9 := E9.keep0 kn
    replace E10 := E10.keep0 kn
    replace E11 := E11.keep0 kn
    replace E12 := E12.keep0 kn
    replace E13 := E13.keep0 kn
    replace KK := KK.trans kn
    replace dl := kn.at0 dl
    refine ⟨q2, l3, [V.ref a0, V.ref a1, V.ref a2, V.ref a3, V.ref a4, V.ref a5, V.ref a6, V.ref a7, V.ref a8, V.ref a9, V.ref a10, V.ref a11], [V.ref a12, V.ref a13], rfl, rfl, dl, upd_same, (by show 14 ≤ sizeLine; omega), fun q3 w3 => ?_⟩
    have wN := KK.free w3
    have kn2 := (Kp.refl (T := T0) (upd H13 l3 (.lst [V.ref a12, V.ref a13]))).new (o := .lst ([V.ref a0, V.ref a1, V.ref a2, V.ref a3, V.ref a4, V.ref a5, V.ref a6, V.ref a7, V.ref a8, V.ref a9, V.ref a10, V.ref a11] ++ [V.ref a12, V.ref a13])) w3
    replace E0 := E0.keep0 kn2
    replace E1 := E1.keep0 kn2
    replace E2 := E2.keep0 kn2
    replace E3 := E3.keep0 kn2
    replace E4 := E4.keep0 kn2
    replace E5 := E5.keep0 kn2
    replace E6 := E6.keep0 kn2
    replace E7 := E7.keep0 kn2
    replace E8 := E8.keep0 kn2
    replace E9 := E9.keep0 kn2
    replace E10 := E10.keep0 kn2
    replace E11 := E11.keep0 kn2
    replace E12 := E12.keep0 kn2
    replace E13 := E13.keep0 kn2
    replace KK := KK.trans kn2
    exact k _ q3 _ KK wN upd_same (.cons E0 (.cons E1 (.cons E2 (.cons E3 (.cons E4 (.cons E5 (.cons E6 (.cons E7 (.cons E8 (.cons E9 (.cons E10 (.cons E11 (.cons E12 (.cons E13 (.nil)))))))))))))))
theorem ok_kinds {f : Addr} {fd : FuncData} (F : Fun K "_law_kinds" "_law_kinds" sKinds f fd) (zi : mg "isinstance" = none) (X0 : EX P w K mg base "BadSchema" C0 "value" "value") (X1 : EX P w K mg base "BadPath" C1 "value" "value") (X2 : EX P w K mg base "BadValue" C2 "value" "value") (X3 : EX P w K mg base "BadPaper" C3 "value" "value") (X4 : EX P w K mg base "BadStep" C4 "value" "value") (X5 : EX P w K mg base "BadProgram" C5 "value" "value") (X6 : EX P w K mg base "BadMask" C6 "value" "value") (X7 : EX P w K mg base "BadText" C7 "value" "value") (X8 : EX P w K mg base "BadCommand" C8 "command" "command") (X9 : EX P w K mg base "Unset" C9 "path" "path") (X10 : EX P w K mg base "Lost" C10 "pair" "pair") (X11 : EX P w K mg base "Refused" C11 "number" "number") (X12 : EX P w K mg base "UnknownNumber" C12 "number" "number") (X13 : EX P w K mg base "NothingToUndo" C13 "many" "many") : FnOk P w K mg base CX0 1 f fd ["error"] (spKinds K [(C0, "value"), (C1, "value"), (C2, "value"), (C3, "value"), (C4, "value"), (C5, "value"), (C6, "value"), (C7, "value"), (C8, "command"), (C9, "path"), (C10, "pair"), (C11, "number"), (C12, "number"), (C13, "many")]) := by
  refine F.ok scKin (fun vs H Q E h => ?_) (fun cdv A outer s H vs Q E hr h => ?_)
  · obtain ⟨e, x, C, fld, bs, rfl, _⟩ := h
    rfl
  · obtain ⟨e, x, C, fld, bs, rfl, ⟨a, d, rfl, ea, ed⟩, T, Z, tt, k⟩ := h
    obtain ⟨b0, b1, b2, b3, b4, b5, b6, b7, b8, b9, b10, b11, b12, b13, rfl, t0, t1, t2, t3, t4, t5, t6, t7, t8, t9, t10, t11, t12, t13⟩ := row14 tt
    have hz : (16777216 : Nat) = PySem.sizeLine := PySem.sizeLine_eq.symm
    refine ⟨_, (pss_cons (ps_set (i := 1) scKin.nd rfl (Or.inl rfl) (pe_lst (pa_cons (pe_callB call_isX (by rfl) zi (by decide +kernel) (pa_cons (pv 0) (pa_cons (pe_glob (v := .ref C0) (by rfl) X0.er.gl rfl) pa_nil))) (pa_cons (pe_callB call_isX (by rfl) zi (by decide +kernel) (pa_cons (pv 0) (pa_cons (pe_glob (v := .ref C1) (by rfl) X1.er.gl rfl) pa_nil))) (pa_cons (pe_callB call_isX (by rfl) zi (by decide +kernel) (pa_cons (pv 0) (pa_cons (pe_glob (v := .ref C2) (by rfl) X2.er.gl rfl) pa_nil))) pa_nil)))))
      (pss_cons (ps_set (i := 1) scKin.nd rfl (Or.inl rfl) (pe_op op_cat (pv 1) (pe_lst (pa_cons (pe_callB call_isX (by rfl) zi (by decide +kernel) (pa_cons (pv 0) (pa_cons (pe_glob (v := .ref C3) (by rfl) X3.er.gl rfl) pa_nil))) (pa_cons (pe_callB call_isX (by rfl) zi (by decide +kernel) (pa_cons (pv 0) (pa_cons (pe_glob (v := .ref C4) (by rfl) X4.er.gl rfl) pa_nil))) (pa_cons (pe_callB call_isX (by rfl) zi (by decide +kernel) (pa_cons (pv 0) (pa_cons (pe_glob (v := .ref C5) (by rfl) X5.er.gl rfl) pa_nil))) pa_nil))))))
      (pss_cons (ps_set (i := 1) scKin.nd rfl (Or.inl rfl) (pe_op op_cat (pv 1) (pe_lst (pa_cons (pe_callB call_isX (by rfl) zi (by decide +kernel) (pa_cons (pv 0) (pa_cons (pe_glob (v := .ref C6) (by rfl) X6.er.gl rfl) pa_nil))) (pa_cons (pe_callB call_isX (by rfl) zi (by decide +kernel) (pa_cons (pv 0) (pa_cons (pe_glob (v := .ref C7) (by rfl) X7.er.gl rfl) pa_nil))) (pa_cons (pe_callB call_isX (by rfl) zi (by decide +kernel) (pa_cons (pv 0) (pa_cons (pe_glob (v := .ref C8) (by rfl) X8.er.gl rfl) pa_nil))) pa_nil))))))
      (pss_cons (ps_set (i := 1) scKin.nd rfl (Or.inl rfl) (pe_op op_cat (pv 1) (pe_lst (pa_cons (pe_callB call_isX (by rfl) zi (by decide +kernel) (pa_cons (pv 0) (pa_cons (pe_glob (v := .ref C9) (by rfl) X9.er.gl rfl) pa_nil))) (pa_cons (pe_callB call_isX (by rfl) zi (by decide +kernel) (pa_cons (pv 0) (pa_cons (pe_glob (v := .ref C10) (by rfl) X10.er.gl rfl) pa_nil))) (pa_cons (pe_callB call_isX (by rfl) zi (by decide +kernel) (pa_cons (pv 0) (pa_cons (pe_glob (v := .ref C11) (by rfl) X11.er.gl rfl) pa_nil))) pa_nil))))))
      (pss_one (ps_ret (pe_op op_cat (pv 1) (pe_lst (pa_cons (pe_callB call_isX (by rfl) zi (by decide +kernel) (pa_cons (pv 0) (pa_cons (pe_glob (v := .ref C12) (by rfl) X12.er.gl rfl) pa_nil))) (pa_cons (pe_callB call_isX (by rfl) zi (by decide +kernel) (pa_cons (pv 0) (pa_cons (pe_glob (v := .ref C13) (by rfl) X13.er.gl rfl) pa_nil))) pa_nil)))))))))), ?_⟩
    have KK := Kp.refl (T := T0) H
    refine ⟨_, rfl, a, C, d, _, _, _, b0, rfl, .own C0, KK.at0 ea, KK.at0 ed, T, Z, t0, ?_⟩
    refine ⟨_, rfl, a, C, d, _, _, _, b1, rfl, .own C1, KK.at0 ea, KK.at0 ed, T, Z, t1, ?_⟩
    refine ⟨_, rfl, a, C, d, _, _, _, b2, rfl, .own C2, KK.at0 ea, KK.at0 ed, T, Z, t2, ?_⟩
    refine ⟨(by show 3 ≤ sizeLine; omega), fun l0 m0 => ?_⟩
    replace KK := KK.new (o := .lst [V.bl b0, V.bl b1, V.bl b2]) m0
    have dl : (upd H l0 (.lst [V.bl b0, V.bl b1, V.bl b2])) l0 = some (.lst [V.bl b0, V.bl b1, V.bl b2]) := upd_same
    generalize upd H l0 (.lst [V.bl b0, V.bl b1, V.bl b2]) = G0 at KK dl ⊢
    refine ⟨_, rfl, ?_⟩
    refine ⟨_, rfl, a, C, d, _, _, _, b3, rfl, .own C3, KK.at0 ea, KK.at0 ed, T, Z, t3, ?_⟩
    refine ⟨_, rfl, a, C, d, _, _, _, b4, rfl, .own C4, KK.at0 ea, KK.at0 ed, T, Z, t4, ?_⟩
    refine ⟨_, rfl, a, C, d, _, _, _, b5, rfl, .own C5, KK.at0 ea, KK.at0 ed, T, Z, t5, ?_⟩
    refine ⟨(by show 3 ≤ sizeLine; omega), fun l1 m1 => ?_⟩
    replace KK := KK.new (o := .lst [V.bl b3, V.bl b4, V.bl b5]) m1
    replace dl := ((Kp.refl (T := T0) G0).new (o := .lst [V.bl b3, V.bl b4, V.bl b5]) m1).at0 dl
    refine ⟨l0, l1, [V.bl b0, V.bl b1, V.bl b2], [V.bl b3, V.bl b4, V.bl b5], rfl, rfl, dl, upd_same, (by show 6 ≤ sizeLine; omega), fun q1 w1 => ?_⟩
    have wN := KK.free w1
    replace KK := KK.new (o := .lst ([V.bl b0, V.bl b1, V.bl b2] ++ [V.bl b3, V.bl b4, V.bl b5])) w1
    replace dl : (upd (upd G0 l1 (.lst [V.bl b3, V.bl b4, V.bl b5])) q1 (.lst ([V.bl b0, V.bl b1, V.bl b2] ++ [V.bl b3, V.bl b4, V.bl b5]))) q1 = some (.lst ([V.bl b0, V.bl b1, V.bl b2] ++ [V.bl b3, V.bl b4, V.bl b5])) := upd_same
    generalize upd (upd G0 l1 (.lst [V.bl b3, V.bl b4, V.bl b5])) q1 (.lst ([V.bl b0, V.bl b1, V.bl b2] ++ [V.bl b3, V.bl b4, V.bl b5])) = G1 at KK dl ⊢
    replace dl : G1 q1 = some (.lst [V.bl b0, V.bl b1, V.bl b2, V.bl b3, V.bl b4, V.bl b5]) := dl
    refine ⟨_, rfl, ?_⟩
    refine ⟨_, rfl, a, C, d, _, _, _, b6, rfl, .own C6, KK.at0 ea, KK.at0 ed, T, Z, t6, ?_⟩
    refine ⟨_, rfl, a, C, d, _, _, _, b7, rfl, .own C7, KK.at0 ea, KK.at0 ed, T, Z, t7, ?_⟩
    refine ⟨_, rfl, a, C, d, _, _, _, b8, rfl, .own C8, KK.at0 ea, KK.at0 ed, T, Z, t8, ?_⟩
    refine ⟨(by show 3 ≤ sizeLine; omega), fun l2 m2 => ?_⟩
    replace KK := KK.new (o := .lst [V.bl b6, V.bl b7, V.bl b8]) m2
    replace dl := ((Kp.refl (T := T0) G1).new (o := .lst [V.bl b6, V.bl b7, V.bl b8]) m2).at0 dl
    refine ⟨q1, l2, [V.bl b0, V.bl b1, V.bl b2, V.bl b3, V.bl b4, V.bl b5], [V.bl b6, V.bl b7, V.bl b8], rfl, rfl, dl, upd_same, (by show 9 ≤ sizeLine; omega), fun q2 w2 => ?_⟩
    have wN := KK.free w2
    replace KK := KK.new (o := .lst ([V.bl b0, V.bl b1, V.bl b2, V.bl b3, V.bl b4, V.bl b5] ++ [V.bl b6, V.bl b7, V.bl b8])) w2
    replace dl : (upd (upd G1 l2 (.lst [V.bl b6, V.bl b7, V.bl b8])) q2 (.lst ([V.bl b0, V.bl b1, V.bl b2, V.bl b3, V.bl b4, V.bl b5] ++ [V.bl b6, V.bl b7, V.bl b8]))) q2 = some (.lst ([V.bl b0, V.bl b1, V.bl b2, V.bl b3, V.bl b4, V.bl b5] ++ [V.bl b6, V.bl b7, V.bl b8])) := upd_same
    generalize upd (upd G1 l2 (.lst [V.bl b6, V.bl b7, V.bl b8])) q2 (.lst ([V.bl b0, V.bl b1, V.bl b2, V.bl b3, V.bl b4, V.bl b5] ++ [V.bl b6, V.bl b7, V.bl b8])) = G2 at KK dl ⊢
    replace dl : G2 q2 = some (.lst [V.bl b0, V.bl b1, V.bl b2, V.bl b3, V.bl b4, V.bl b5, V.bl b6, V.bl b7, V.bl b8]) := dl
    refine ⟨_, rfl, ?_⟩
    refine ⟨_, rfl, a, C, d, _, _, _, b9, rfl, .own C9, KK.at0 ea, KK.at0 ed, T, Z, t9, ?_⟩
    refine ⟨_, rfl, a, C, d, _, _, _, b10, rfl, .own C10, KK.at0 ea, KK.at0 ed, T, Z, t10, ?_⟩
    refine ⟨_, rfl, a, C, d, _, _, _, b11, rfl, .own C11, KK.at0 ea, KK.at0 ed, T, Z, t11, ?_⟩
    refine ⟨(by show 3 ≤ sizeLine; omega), fun l3 m3 => ?_⟩
    replace KK := KK.new (o := .lst [V.bl b9, V.bl b10, V.bl b11]) m3
    replace dl := ((Kp.refl (T := T0) G2).new (o := .lst [V.bl b9, V.bl b10, V.bl b11]) m3).at0 dl
    refine ⟨q2, l3, [V.bl b0, V.bl b1, V.bl b2, V.bl b3, V.bl b4, V.bl b5, V.bl b6, V.bl b7, V.bl b8], [V.bl b9, V.bl b10, V.bl b11], rfl, rfl, dl, upd_same, (by show 12 ≤ sizeLine; omega), fun q3 w3 => ?_⟩
    have wN := KK.free w3
    replace KK := KK.new (o := .lst ([V.bl b0, V.bl b1, V.bl b2, V.bl b3, V.bl b4, V.bl b5, V.bl b6, V.bl b7, V.bl b8] ++ [V.bl b9, V.bl b10, V.bl b11])) w3
    replace dl : (upd (upd G2 l3 (.lst [V.bl b9, V.bl b10, V.bl b11])) q3 (.lst ([V.bl b0, V.bl b1, V.bl b2, V.bl b3, V.bl b4, V.bl b5, V.bl b6, V.bl b7, V.bl b8] ++ [V.bl b9, V.bl b10, V.bl b11]))) q3 = some (.lst ([V.bl b0, V.bl b1, V.bl b2, V.bl b3, V.bl b4, V.bl b5, V.bl b6, V.bl b7, V.bl b8] ++ [V.bl b9, V.bl b10, V.bl b11])) := upd_same
    generalize upd (upd G2 l3 (.lst [V.bl b9, V.bl b10, V.bl b11])) q3 (.lst ([V.bl b0, V.bl b1, V.bl b2, V.bl b3, V.bl b4, V.bl b5, V.bl b6, V.bl b7, V.bl b8] ++ [V.bl b9, V.bl b10, V.bl b11])) = G3 at KK dl ⊢
    replace dl : G3 q3 = some (.lst [V.bl b0, V.bl b1, V.bl b2, V.bl b3, V.bl b4, V.bl b5, V.bl b6, V.bl b7, V.bl b8, V.bl b9, V.bl b10, V.bl b11]) := dl
    refine ⟨_, rfl, ?_⟩
    refine ⟨_, rfl, a, C, d, _, _, _, b12, rfl, .own C12, KK.at0 ea, KK.at0 ed, T, Z, t12, ?_⟩
    refine ⟨_, rfl, a, C, d, _, _, _, b13, rfl, .own C13, KK.at0 ea, KK.at0 ed, T, Z, t13, ?_⟩
    refine ⟨(by show 2 ≤ sizeLine; omega), fun l4 m4 => ?_⟩
    replace KK := KK.new (o := .lst [V.bl b12, V.bl b13]) m4
    replace dl := ((Kp.refl (T := T0) G3).new (o := .lst [V.bl b12, V.bl b13]) m4).at0 dl
    refine ⟨q3, l4, [V.bl b0, V.bl b1, V.bl b2, V.bl b3, V.bl b4, V.bl b5, V.bl b6, V.bl b7, V.bl b8, V.bl b9, V.bl b10, V.bl b11], [V.bl b12, V.bl b13], rfl, rfl, dl, upd_same, (by show 14 ≤ sizeLine; omega), fun q4 w4 => ?_⟩
    have wN := KK.free w4
    replace KK := KK.new (o := .lst ([V.bl b0, V.bl b1, V.bl b2, V.bl b3, V.bl b4, V.bl b5, V.bl b6, V.bl b7, V.bl b8, V.bl b9, V.bl b10, V.bl b11] ++ [V.bl b12, V.bl b13])) w4
    exact k _ q4 KK wN upd_same
end
end Lw
namespace Lw
open PySem L2 Gk
abbrev sAny : Stmt := topS 30
/-- data of which many can be told at once -/
structure Small (d : PyData) : Prop where
  sw : d.showable = true
  dd : d.depth ≤ 8
  sz : d.shown.length ≤ 200
/-- a drawn value, apart from the well -/
def Th (T : Addr → Prop) (H : Hp) (v : V) : Prop := ∃ d, Dd T H v d ∧ Small d ∧ ∀ x, v = .str x → x.length ≤ 1000
theorem Th.keep {T : Addr → Prop} {H H2 : Hp} {v : V} (h : Th T H v) (k : Kp T H H2) : Th T H2 v := by
  obtain ⟨d, a, b, c⟩ := h
  exact ⟨d, a.keep k, b, c⟩
theorem Th.kd {K : PySem.W.Frag} {T : Addr → Prop} {H : Hp} {v : V} (h : Th T H v) : ∃ kd, KdAt K H v kd := by
  obtain ⟨d, a, b, c⟩ := h
  have other : ∀ U : String, TyX K H v (.type U) → kitB U "str" = some false → kitB U "int" = some false → kitB U "bool" = some false → KdAt K H v .o := fun U ty a b c => ⟨noTy_of ty a, noTy_of ty b, noTy_of ty c⟩
  cases a with
  | sc s =>
    cases s with
    | non => exact ⟨.o, other "NoneType" (.base .non) (by decide +kernel) (by decide +kernel) (by decide +kernel)⟩
    | bl b' => exact ⟨.b b', rfl⟩
    | int i => exact ⟨.i i, rfl⟩
    | str x => exact ⟨.s x, rfl, by have := c x rfl; rw [sizeLine_eq]; omega⟩
  | lst n e r => exact ⟨.o, other "list" (.base (.lst e)) (by decide +kernel) (by decide +kernel) (by decide +kernel)⟩
  | tup n e r => exact ⟨.o, other "tuple" (.base (.tup e)) (by decide +kernel) (by decide +kernel) (by decide +kernel)⟩
  | dict n e r => exact ⟨.o, other "dict" (.base (.dK e)) (by decide +kernel) (by decide +kernel) (by decide +kernel)⟩
theorem small_int : ∀ n : Nat, n < 99 → (PyData.int (n : Int)).showable = true ∧ (PyData.int (n : Int)).depth ≤ 8 ∧ (PyData.int (n : Int)).shown.length ≤ 200 := by decide +kernel
def spAny2 : Sp := fun vs H Q _ => ∃ t, vs = [.ref t] ∧ TapeAt H t ∧ ∀ H2 v, Kp (At t) H H2 → TapeAt H2 t → Th (At t) H2 v → Q v H2
section
variable {P : Program} {w : World} {K : PySem.W.Frag} {mg : Str → Option Value} {base : Heap}
theorem scAny : FnScope ["well", "some"] ["well"] (defScope sAny) := ⟨rfl, rfl, rfl, by decide +kernel, rfl, by decide +kernel, by decide +kernel⟩
theorem ok_any {f fC fD : Addr} {fd : FuncData} (F : Fun K "_law_any" "_law_any" sAny f fd) (DC : Df P w K mg base 2 fC "_law_choose" ["well", "things"] (spOneOf K)) (DD : Df P w K mg base 1 fD "_law_draw" ["well", "bound"] spPick) : FnOk P w K mg base CX0 3 f fd ["well"] spAny2 := by
  refine F.ok scAny (fun vs H Q E h => ?_) (fun cdv A outer s H vs Q E hr h => ?_)
  · obtain ⟨t, rfl, _⟩ := h
    rfl
  · obtain ⟨t, rfl, ta, k⟩ := h
    have r1 : Room 1 _ := hr.mono (by decide)
    refine ⟨_, pss_cons (ps_set (i := 1) scAny.nd rfl (Or.inl rfl) (pe_lst (pa_cons pe_int (pa_cons pe_int (pa_cons (pe_un un_neg pe_int) (pa_cons (pe_op op_pow pe_int pe_int) (pa_cons pe_bl (pa_cons pe_non (pa_cons pe_str (pa_cons pe_str (pa_cons (pe_tup pa_nil) (pa_cons (pe_tup (pa_cons pe_int (pa_cons (pe_tup (pa_cons pe_int pa_nil)) pa_nil))) (pa_cons (pe_lst pa_nil) (pa_cons (pe_lst (pa_cons pe_int pa_nil)) (pa_cons pe_dnewK (pa_cons (pe_disp (pps_cons pe_str (pe_lst (pa_cons pe_int pa_nil)) pps_nil) (by rfl) (by rfl) (fun z => by cases z) (by decide)) pa_nil))))))))))))))))
      (pss_one (ps_ret (pe_df DC hr (by rfl) (pa_cons (pv 0) (pa_cons (pe_op op_cat (pv 1) (pe_lst (pa_cons (pe_df DD r1 (by rfl) (pa_cons (pv 0) (pa_cons pe_int pa_nil))) pa_nil))) pa_nil))))), ?_⟩
    have pow : CPow 10 59 := ⟨by decide, by decide, by decide⟩
    have hz : (16777216 : Nat) = PySem.sizeLine := PySem.sizeLine_eq.symm
    have l1 : 1 ≤ PySem.sizeLine := by omega
    refine ⟨_, rfl, _, _, rfl, rfl, pow, ?_⟩
    refine ⟨Nat.zero_le _, fun q1 h1 => ?_⟩
    have n1 : q1 ≠ t := tape_fresh ta h1
    have g1 := (Kp.refl (T := T0) H).new (o := .tup []) h1
    have e1 : (upd H q1 (.tup [])) q1 = some (.tup []) := upd_same
    have t1 := ta.keep g1
    generalize upd H q1 (.tup []) = G1 at g1 e1 t1 ⊢
    refine ⟨l1, fun q2 h2 => ?_⟩
    have n2 : q2 ≠ t := tape_fresh t1 h2
    have g2 := (Kp.refl (T := T0) G1).new (o := .tup [.int 1]) h2
    have e2 : (upd G1 q2 (.tup [.int 1])) q2 = some (.tup [.int 1]) := upd_same
    have t2 := t1.keep g2
    generalize upd G1 q2 (.tup [.int 1]) = G2 at g2 e2 t2 ⊢
    refine ⟨(by show 2 ≤ sizeLine; omega), fun q3 h3 => ?_⟩
    have n3 : q3 ≠ t := tape_fresh t2 h3
    have g3 := (Kp.refl (T := T0) G2).new (o := .tup [.int 0, .ref q2]) h3
    have e3 : (upd G2 q3 (.tup [.int 0, .ref q2])) q3 = some (.tup [.int 0, .ref q2]) := upd_same
    have t3 := t2.keep g3
    generalize upd G2 q3 (.tup [.int 0, .ref q2]) = G3 at g3 e3 t3 ⊢
    refine ⟨Nat.zero_le _, fun q4 h4 => ?_⟩
    have n4 : q4 ≠ t := tape_fresh t3 h4
    have g4 := (Kp.refl (T := T0) G3).new (o := .lst []) h4
    have e4 : (upd G3 q4 (.lst [])) q4 = some (.lst []) := upd_same
    have t4 := t3.keep g4
    generalize upd G3 q4 (.lst []) = G4 at g4 e4 t4 ⊢
    refine ⟨l1, fun q5 h5 => ?_⟩
    have n5 : q5 ≠ t := tape_fresh t4 h5
    have g5 := (Kp.refl (T := T0) G4).new (o := .lst [.int 1]) h5
    have e5 : (upd G4 q5 (.lst [.int 1])) q5 = some (.lst [.int 1]) := upd_same
    have t5 := t4.keep g5
    generalize upd G4 q5 (.lst [.int 1]) = G5 at g5 e5 t5 ⊢
    refine fun q6 h6 => ?_
    have n6 : q6 ≠ t := tape_fresh t5 h6
    have g6 := (Kp.refl (T := T0) G5).new (o := .dK []) h6
    have e6 : (upd G5 q6 (.dK [])) q6 = some (.dK []) := upd_same
    have t6 := t5.keep g6
    generalize upd G5 q6 (.dK []) = G6 at g6 e6 t6 ⊢
    refine fun q7 h7 => ?_
    have n7 : q7 ≠ t := tape_fresh t6 h7
    have g7 := (Kp.refl (T := T0) G6).new (o := .dK []) h7
    have e7 : (upd G6 q7 (.dK [])) q7 = some (.dK []) := upd_same
    have t7 := t6.keep g7
    generalize upd G6 q7 (.dK []) = G7 at g7 e7 t7 ⊢
    refine ⟨l1, fun q8 h8 => ?_⟩
    have n8 : q8 ≠ t := tape_fresh t7 h8
    have n78 : q7 ≠ q8 := ne_of_none e7 h8
    refine ⟨by rw [upd_ne n78]; exact e7, [(.inr "a", .ref q8)], rfl, (by show 1 ≤ 15; decide), ?_⟩
    have g8 := (Kp.refl (T := T0) G7).new (o := .lst [.int 1]) h8
    have g9 : Kp T0 G6 (upd (upd G7 q8 (.lst [.int 1])) q7 (.dK (mergeK [] [(.inr "a", .ref q8)]))) := (g7.trans g8).over h7
    have e8 : (upd (upd G7 q8 (.lst [.int 1])) q7 (.dK (mergeK [] [(.inr "a", .ref q8)]))) q8 = some (.lst [.int 1]) := by rw [upd_ne n78.symm]; exact upd_same
    have e9 : (upd (upd G7 q8 (.lst [.int 1])) q7 (.dK (mergeK [] [(.inr "a", .ref q8)]))) q7 = some (.dK [(.inr "a", .ref q8)]) := upd_same
    have t9 := (t7.keep g8).over (p := q7) (o := .dK (mergeK [] [(.inr "a", .ref q8)])) n7
    generalize upd (upd G7 q8 (.lst [.int 1])) q7 (.dK (mergeK [] [(.inr "a", .ref q8)])) = G9 at g9 e8 e9 t9 ⊢
    refine ⟨(by show 14 ≤ sizeLine; omega), fun b hb => ?_⟩
    have f69 := g6.trans g9
    have f59 := g5.trans f69
    have f49 := g4.trans f59
    have f39 := g3.trans f49
    have f29 := g2.trans f39
    have f19 := f29
    generalize ev : ([.int 0, .int 1, .int (-1), .int (10 ^ (59 : Int).toNat), .bl true, .non, .str "", .str "a", .ref q1, .ref q3, .ref q4, .ref q5, .ref q6, .ref q7] : List V) = us
    have lu : us.length = 14 := by rw [← ev]; rfl
    have no : ∀ {v : V}, (∀ x : Str, v ≠ .str x) → ∀ x, v = .str x → x.length ≤ 1000 := fun h x e => absurd e (h x)
    have eu : ∀ v ∈ us, Th (At t) G9 v := by
      intro v hv
      rw [← ev] at hv
      simp only [List.mem_cons, List.not_mem_nil, or_false] at hv
      rcases hv with rfl | rfl | rfl | rfl | rfl | rfl | rfl | rfl | rfl | rfl | rfl | rfl | rfl | rfl
      · exact ⟨_, .sc (.int _), ⟨by decide +kernel, by decide +kernel, by decide +kernel⟩, no fun x e => nomatch e⟩
      · exact ⟨_, .sc (.int _), ⟨by decide +kernel, by decide +kernel, by decide +kernel⟩, no fun x e => nomatch e⟩
      · exact ⟨_, .sc (.int _), ⟨by decide +kernel, by decide +kernel, by decide +kernel⟩, no fun x e => nomatch e⟩
      · exact ⟨_, .sc (.int _), ⟨by decide +kernel, by decide +kernel, by decide +kernel⟩, no fun x e => nomatch e⟩
      · exact ⟨_, .sc (.bl _), ⟨by decide +kernel, by decide +kernel, by decide +kernel⟩, no fun x e => nomatch e⟩
      · exact ⟨_, .sc .non, ⟨by decide +kernel, by decide +kernel, by decide +kernel⟩, no fun x e => nomatch e⟩
      · exact ⟨_, .sc (.str _), ⟨by decide +kernel, by decide +kernel, by decide +kernel⟩, fun x e => by injection e with e; rw [← e]; decide⟩
      · exact ⟨_, .sc (.str _), ⟨by decide +kernel, by decide +kernel, by decide +kernel⟩, fun x e => by injection e with e; rw [← e]; decide⟩
      · exact ⟨_, .tup n1 (f29.at0 e1) .nil, ⟨by decide +kernel, by decide +kernel, by decide +kernel⟩, no fun x e => nomatch e⟩
      · exact ⟨.tuple [.int 0, .tuple [.int 1]], .tup n3 (f49.at0 e3) (.cons (.sc (.int _)) (.cons (.tup n2 (f39.at0 e2) (.cons (.sc (.int _)) .nil)) .nil)), ⟨by decide +kernel, by decide +kernel, by decide +kernel⟩, no fun x e => nomatch e⟩
      · exact ⟨_, .lst n4 (f59.at0 e4) .nil, ⟨by decide +kernel, by decide +kernel, by decide +kernel⟩, no fun x e => nomatch e⟩
      · exact ⟨.list [.int 1], .lst n5 (f69.at0 e5) (.cons (.sc (.int _)) .nil), ⟨by decide +kernel, by decide +kernel, by decide +kernel⟩, no fun x e => nomatch e⟩
      · exact ⟨_, .dict n6 (g9.at0 e6) .nil, ⟨by decide +kernel, by decide +kernel, by decide +kernel⟩, no fun x e => nomatch e⟩
      · exact ⟨.dict [(.str "a", .list [.int 1])], .dict n7 e9 (.cons (.lst n8 e8 (.cons (.sc (.int _)) .nil)) .nil), ⟨by decide +kernel, by decide +kernel, by decide +kernel⟩, no fun x e => nomatch e⟩
    have gb := (Kp.refl (T := T0) G9).new (o := .lst us) hb
    have eb : (upd G9 b (.lst us)) b = some (.lst us) := upd_same
    have tb := t9.keep gb
    generalize upd G9 b (.lst us) = GB at gb eb tb ⊢
    have nb : ¬ At t b := tape_ne tb eb
    refine ⟨_, rfl, _, rfl, _, rfl, t, 99, rfl, tb, (by decide), (by decide), fun H2 r k2 ta2 r0 r3 => ?_⟩
    refine ⟨l1, fun e he => ?_⟩
    have ge := (Kp.refl (T := T0) H2).new (o := .lst [.int r]) he
    refine ⟨b, e, us, [.int r], rfl, rfl, ge.at0 (k2 b _ nb eb), upd_same, (by rw [lu]; show 14 + 1 ≤ sizeLine; omega), fun p hp => ?_⟩
    have gp := ge.new (o := .lst (us ++ [.int r])) hp
    have tp := ta2.keep gp
    have kk : Kp (At t) G9 (upd (upd H2 e (.lst [.int r])) p (.lst (us ++ [.int r]))) := (gb.wide.trans k2).trans gp.wide
    refine ⟨t, p, us ++ [.int r], rfl, tp, SqL.of upd_same, (by rw [List.length_append, lu]; show 1 ≤ 14 + 1; decide), (by rw [List.length_append, lu]; show 14 + 1 ≤ 1048576; decide), fun H3 x k3 ta3 mx => ?_⟩
    refine k H3 x (((g1.trans f19).wide.trans kk).trans k3) ta3 ?_
    rcases List.mem_append.mp mx with m | m
    · exact (eu x m).keep (kk.trans k3)
    · rw [List.mem_singleton.mp m]
      obtain ⟨s1, s2, s3⟩ := small_int r.toNat (by omega)
      have er : ((r.toNat : Nat) : Int) = r := by omega
      rw [er] at s1 s2 s3
      exact ⟨_, .sc (.int r), ⟨s1, s2, s3⟩, no fun x e => nomatch e⟩
end
end Lw
namespace Lw
open PySem L2 Gk
abbrev sOne : Stmt := topS 32
abbrev sKept : Stmt := topS 35
def kb (i : Nat) : List Bool := (List.range 14).map fun j => decide (j = i)
theorem kb_eqv : ∀ i, i < 14 → PyData.eqv (dB (kb i)) (dB (kb i)) = true ∧ SeqAt.shaped (dB (kb i)) = true := by decide +kernel
theorem kit_ve {K : PySem.W.Frag} {C : Addr} (T : OexC K C) : PySem.W.kitOne K (.ref C) (.type "ValueError") = some true := by
  obtain ⟨nm, q, N, bs, bm, sn, sub, ab, col, dd, k0, k1, k2, k3, k5, hC, hbm⟩ := T.cls
  have hcl : PySem.W.clsIn K C = some { name := nm, bases := bs, mro := .ref C :: bm, ns := N, qualname := q, hasDict := true, slotNames := sn, subclasses := sub, abstract := ab, collection := col, hasDel := false } := by unfold PySem.W.clsIn; rw [hC] <;> rfl
  unfold PySem.W.kitOne
  rw [if_neg (by simp)]
  unfold PySem.W.kitCls
  dsimp only
  rw [if_pos (by decide +kernel)]
  unfold PySem.W.subIn
  dsimp only
  unfold PySem.W.mroIn
  rw [hcl, Option.bind_some, if_neg (show ¬ (List.isEmpty (Value.ref C :: bm) = true) from Bool.false_ne_true), List.contains_cons, PySem.HandSPX.refsVE_contains "ValueError" bm hbm, show PySem.HandSPX.veTail.contains (Value.type "ValueError") = true by decide +kernel, Bool.or_true]
def spOneKind (K : PySem.W.Frag) (cs : List (Addr × Str)) (CM : Addr) : Sp := fun vs H Q _ => ∃ (e x : V) (C : Addr) (fld : Str) (i : Nat), vs = [e, .int (i : Int)] ∧ i < 14 ∧ ExAt H e C fld x ∧ OexC K C ∧ IsC K C ∧ PySem.W.kitOne K (.ref C) (.ref CM) = some true ∧ Paired (fun (c : Addr × Str) b => PySem.W.kitOne K (.ref C) (.ref c.1) = some b) cs (kb i) ∧
  ∀ H2, Kp T0 H H2 → Q (.bl true) H2
def spKept (cs : List (Addr × Str)) : Sp := fun vs H Q _ => ∃ (l : Addr) (es : List V) (x : V), vs = [.ref l] ∧ H l = some (.lst es) ∧ Exs H x es cs ∧ ∀ H2 m, Kp T0 H H2 → H m = none → H2 m = some (.lst (List.replicate 14 x)) → Q (.ref m) H2
section
variable {P : Program} {w : World} {K : PySem.W.Frag} {mg : Str → Option Value} {base : Heap} {C0 C1 C2 C3 C4 C5 C6 C7 C8 C9 C10 C11 C12 C13 : Addr}
theorem exs14 {R : V → Addr × Str → Prop} {c0 c1 c2 c3 c4 c5 c6 c7 c8 c9 c10 c11 c12 c13 : Addr × Str} {es : List V} (h : Paired R es [c0, c1, c2, c3, c4, c5, c6, c7, c8, c9, c10, c11, c12, c13]) : ∃ e0 e1 e2 e3 e4 e5 e6 e7 e8 e9 e10 e11 e12 e13 : V, es = [e0, e1, e2, e3, e4, e5, e6, e7, e8, e9, e10, e11, e12, e13] ∧ R e0 c0 ∧ R e1 c1 ∧ R e2 c2 ∧ R e3 c3 ∧ R e4 c4 ∧ R e5 c5 ∧ R e6 c6 ∧ R e7 c7 ∧ R e8 c8 ∧ R e9 c9 ∧ R e10 c10 ∧ R e11 c11 ∧ R e12 c12 ∧ R e13 c13 := by
  match es, h with
  | [e0, e1, e2, e3, e4, e5, e6, e7, e8, e9, e10, e11, e12, e13], .cons h0 (.cons h1 (.cons h2 (.cons h3 (.cons h4 (.cons h5 (.cons h6 (.cons h7 (.cons h8 (.cons h9 (.cons h10 (.cons h11 (.cons h12 (.cons h13 (.nil)))))))))))))) => exact ⟨_, _, _, _, _, _, _, _, _, _, _, _, _, _, rfl, h0, h1, h2, h3, h4, h5, h6, h7, h8, h9, h10, h11, h12, h13⟩
theorem scOne : FnScope ["error", "at", "k"] ["error", "at"] (defScope sOne) := ⟨rfl, rfl, rfl, by decide +kernel, rfl, by decide +kernel, by decide +kernel⟩
theorem scKept : FnScope ["errors", "found", "error"] ["errors"] (defScope sKept) := ⟨rfl, rfl, rfl, by decide +kernel, rfl, by decide +kernel, by decide +kernel⟩
theorem ok_one {f fK CM : Addr} {fd : FuncData} {cs : List (Addr × Str)} (F : Fun K "_law_of_one_kind" "_law_of_one_kind" sOne f fd) (zi : mg "isinstance" = none) (zv : mg "ValueError" = none) (zr : mg "range" = none) (gm : mg "MaskError" = some (.ref CM))
    (DK : Df P w K mg base 1 fK "_law_kinds" ["error"] (spKinds K cs)) : FnOk P w K mg base CX0 2 f fd ["error", "at"] (spOneKind K cs CM) := by
  refine F.ok scOne (fun vs H Q E h => ?_) (fun cdv A outer s H vs Q E hr h => ?_)
  · obtain ⟨e, x, C, fld, i, rfl, _⟩ := h
    rfl
  · obtain ⟨e, x, C, fld, i, rfl, hi, ⟨a, d, rfl, ea, ed⟩, T, Z, tm, tt, k⟩ := h
    have hz : (16777216 : Nat) = PySem.sizeLine := PySem.sizeLine_eq.symm
    refine ⟨_, pss_cons (ps_if (PW.pt (pw_or (pt_not (pt_val (pe_callB call_isX (by rfl) zi (by decide +kernel) (pa_cons (pv 0) (pa_cons (pe_glob (v := .ref CM) (by rfl) gm rfl) pa_nil)))))
        (pw_or1 (pt_not (pt_val (pe_callB call_isX (by rfl) zi (by decide +kernel) (pa_cons (pv 0) (pa_cons (pe_bltn (v := .ty "ValueError") (by rfl) zv (by decide +kernel) rfl) pa_nil)))))))) (pss_one (ps_ret pe_bl)) pss_nil)
      (pss_one (ps_ret (pe_cmpR (op_eqD hr.units) (pe_df DK hr (by rfl) (pa_cons (pv 0) pa_nil))
        (pe_lc (te := tOp rEq (tVar 2) (tVar 1)) (own := [("k", 2)]) (g := gName 2) (tt := tYes) rfl scOne.nd (pi_range1 (by rfl) zr (pa_cons pe_int pa_nil)) (blkOk_by (N := ["error", "at", "k"]) (sc := defScope sOne) (by decide +kernel)) (fun _ _ _ _ _ => pg_name (i := 2) scOne.nd rfl (Or.inl rfl)) (fun _ _ _ _ _ => pts_nil)
          (fun _ _ _ _ _ => pe_cmpR op_eq (pv 2) (pv 1) (nomark _))) (nomark _)))), ?_⟩
    refine ⟨_, rfl, a, C, d, _, _, _, true, rfl, .own CM, ea, ed, T, Z, tm, _, rfl, iteF ?_⟩
    refine ⟨_, rfl, a, C, d, _, _, _, true, rfl, .ty "ValueError", ea, ed, T, Z, kit_ve T, _, rfl, iteF ?_⟩
    refine ⟨_, rfl, .ref a, x, C, fld, kb i, rfl, ⟨a, d, rfl, ea, ed⟩, T, Z, tt, fun H2 l k2 nl dl => ?_⟩
    refine ⟨_, rfl, (by decide), (by decide), fun D hD => ?_⟩
    refine lc_kp (T := T0) walk_range (i0 := 2) (fun j v => v = .int (0 + (j : Int))) (fun j us H6 => us = (List.range j).map fun n => V.bl (decide (n = i)))
      (fun j H6 v H7 _ y => y) hD id (by rw [PySem.sizeLine_eq]; decide) (wipe1 _ 2) (fun _ _ => True.intro) rfl (fun j u us H6 Ky Kn hj sx k6 d6 q ky _ => ?_) (fun us H6 k6 d6 lu q => ?_)
    · refine yes_ ?_
      obtain rfl := sx
      refine ⟨_, rfl, _, rfl, rfl, ?_⟩
      refine ky _ _ (Kp.refl _) ?_
      rw [q, List.range_succ, List.map_append]
      refine congrArg (fun z => _ ++ [V.bl z]) ?_
      exact decide_eq_decide.mpr ⟨fun z => by injection z with z; omega, fun z => congrArg V.int (by omega)⟩
    · subst q
      obtain ⟨q1, q2⟩ := kb_eqv i hi
      refine ⟨dB (kb i), dB (kb i), .lst (SqL.of (k6.at0 dl)) (dp_bools _), .lst (SqL.of d6) ?_, q2, q2, ?_⟩
      · have := dp_bools (K := K) (H := H6) (kb i)
        unfold kb at this ⊢
        rw [List.map_map] at this
        exact this
      · rw [q1]
        exact k _ (k2.trans k6)
theorem ok_kept {f : Addr} {fd : FuncData} (F : Fun K "_law_kept" "_law_kept" sKept f fd) (X0 : EX P w K mg base "BadSchema" C0 "value" "value") (X1 : EX P w K mg base "BadPath" C1 "value" "value") (X2 : EX P w K mg base "BadValue" C2 "value" "value") (X3 : EX P w K mg base "BadPaper" C3 "value" "value") (X4 : EX P w K mg base "BadStep" C4 "value" "value") (X5 : EX P w K mg base "BadProgram" C5 "value" "value") (X6 : EX P w K mg base "BadMask" C6 "value" "value") (X7 : EX P w K mg base "BadText" C7 "value" "value") (X8 : EX P w K mg base "BadCommand" C8 "command" "command") (X9 : EX P w K mg base "Unset" C9 "path" "path") (X10 : EX P w K mg base "Lost" C10 "pair" "pair") (X11 : EX P w K mg base "Refused" C11 "number" "number") (X12 : EX P w K mg base "UnknownNumber" C12 "number" "number") (X13 : EX P w K mg base "NothingToUndo" C13 "many" "many") : FnOk P w K mg base CX0 1 f fd ["errors"] (spKept [(C0, "value"), (C1, "value"), (C2, "value"), (C3, "value"), (C4, "value"), (C5, "value"), (C6, "value"), (C7, "value"), (C8, "command"), (C9, "path"), (C10, "pair"), (C11, "number"), (C12, "number"), (C13, "many")]) := by
  refine F.ok scKept (fun vs H Q E h => ?_) (fun cdv A outer s H vs Q E hr h => ?_)
  · obtain ⟨l, es, x, rfl, _⟩ := h
    rfl
  · obtain ⟨l, es, x, rfl, dl, hx, k⟩ := h
    obtain ⟨e0, e1, e2, e3, e4, e5, e6, e7, e8, e9, e10, e11, e12, e13, rfl, ⟨a0, d0, rfl, ea0, ed0⟩, ⟨a1, d1, rfl, ea1, ed1⟩, ⟨a2, d2, rfl, ea2, ed2⟩, ⟨a3, d3, rfl, ea3, ed3⟩, ⟨a4, d4, rfl, ea4, ed4⟩, ⟨a5, d5, rfl, ea5, ed5⟩, ⟨a6, d6, rfl, ea6, ed6⟩, ⟨a7, d7, rfl, ea7, ed7⟩, ⟨a8, d8, rfl, ea8, ed8⟩, ⟨a9, d9, rfl, ea9, ed9⟩, ⟨a10, d10, rfl, ea10, ed10⟩, ⟨a11, d11, rfl, ea11, ed11⟩, ⟨a12, d12, rfl, ea12, ed12⟩, ⟨a13, d13, rfl, ea13, ed13⟩⟩ := exs14 hx
    have hz : (16777216 : Nat) = PySem.sizeLine := PySem.sizeLine_eq.symm
    refine ⟨_, pss_cons (ps_set (i := 1) scKept.nd rfl (Or.inl rfl) (pe_op op_cat (pe_lc (te := tExf K "value" (tVar 2)) (own := [("error", 2)]) (g := gName 2) (tt := tYes) rfl scKept.nd (pi_list (pe_slice sl_list (pv 0) po_none (po_some pe_int))) (blkOk_by (N := ["errors", "found", "error"]) (sc := defScope sKept) (by decide +kernel)) (fun _ _ _ _ _ => pg_name (i := 2) scKept.nd rfl (Or.inl rfl)) (fun _ _ _ _ _ => pts_nil) (fun _ _ _ _ _ => pe_exf (pv 2))) (pe_lst (pa_cons (pe_exf (pe_ix ix_list (pv 0) pe_int (fun _ _ => rfl))) (pa_cons (pe_exf (pe_ix ix_list (pv 0) pe_int (fun _ _ => rfl))) (pa_cons (pe_exf (pe_ix ix_list (pv 0) pe_int (fun _ _ => rfl))) pa_nil))))))
      (pss_one (ps_ret (pe_op op_cat (pv 1) (pe_lst (pa_cons (pe_exf (pe_ix ix_list (pv 0) pe_int (fun _ _ => rfl))) (pa_cons (pe_exf (pe_ix ix_list (pv 0) pe_int (fun _ _ => rfl))) (pa_cons (pe_exf (pe_ix ix_list (pv 0) pe_int (fun _ _ => rfl))) pa_nil))))))), ?_⟩
    have first : ∀ v ∈ [V.ref a0, V.ref a1, V.ref a2, V.ref a3, V.ref a4, V.ref a5, V.ref a6, V.ref a7], ∃ C, ExAt H v C "value" x ∧ XfC K C ∧ PySem.W.findIn K (.ref C) "value" = some none := by
      intro v m
      simp only [List.mem_cons, List.not_mem_nil, or_false] at m
      rcases m with rfl | rfl | rfl | rfl | rfl | rfl | rfl | rfl
      · exact ⟨C0, ⟨a0, d0, rfl, ea0, ed0⟩, X0.is.xf, X0.no⟩
      · exact ⟨C1, ⟨a1, d1, rfl, ea1, ed1⟩, X1.is.xf, X1.no⟩
      · exact ⟨C2, ⟨a2, d2, rfl, ea2, ed2⟩, X2.is.xf, X2.no⟩
      · exact ⟨C3, ⟨a3, d3, rfl, ea3, ed3⟩, X3.is.xf, X3.no⟩
      · exact ⟨C4, ⟨a4, d4, rfl, ea4, ed4⟩, X4.is.xf, X4.no⟩
      · exact ⟨C5, ⟨a5, d5, rfl, ea5, ed5⟩, X5.is.xf, X5.no⟩
      · exact ⟨C6, ⟨a6, d6, rfl, ea6, ed6⟩, X6.is.xf, X6.no⟩
      · exact ⟨C7, ⟨a7, d7, rfl, ea7, ed7⟩, X7.is.xf, X7.no⟩
    refine ⟨_, rfl, _, rfl, l, _, rfl, SqL.of dl, fun e he => ?_⟩
    rw [show cutV [.ref a0, .ref a1, .ref a2, .ref a3, .ref a4, .ref a5, .ref a6, .ref a7, .ref a8, .ref a9, .ref a10, .ref a11, .ref a12, .ref a13] none (some 8) = [V.ref a0, V.ref a1, V.ref a2, V.ref a3, V.ref a4, V.ref a5, V.ref a6, V.ref a7] from rfl]
    have ge := (Kp.refl (T := T0) H).new (o := .lst [V.ref a0, V.ref a1, V.ref a2, V.ref a3, V.ref a4, V.ref a5, V.ref a6, V.ref a7]) he
    refine ⟨e, rfl, ⟨_, SqL.of upd_same⟩, fun D hD => ?_⟩
    have de : (upd H e (.lst [V.ref a0, V.ref a1, V.ref a2, V.ref a3, V.ref a4, V.ref a5, V.ref a6, V.ref a7])) e = some (.lst [V.ref a0, V.ref a1, V.ref a2, V.ref a3, V.ref a4, V.ref a5, V.ref a6, V.ref a7]) := upd_same
    generalize hW : [V.ref a0, V.ref a1, V.ref a2, V.ref a3, V.ref a4, V.ref a5, V.ref a6, V.ref a7] = ws at ge de first hD ⊢
    have lw : ws.length = 8 := by rw [← hW]; rfl
    generalize upd H e (.lst ws) = G1 at ge de hD ⊢
    refine lc_kp (T := T0) (walk_list (xs := ws)) (i0 := 2) (fun j v => ws[j]? = some v) (fun j us H6 => us = List.replicate j x)
      (fun j H6 v H7 _ y => y) hD id (by rw [lw, PySem.sizeLine_eq]; decide) (wipe1 _ 2) (fun H6 k6 => SqL.of (k6.at0 de)) rfl (fun j u us H6 Ky Kn hj sx k6 d6 q ky _ => ?_) (fun us H6 k6 d6 lu q => ?_)
    · refine yes_ ?_
      obtain ⟨C, ⟨a, d, rfl, ea, ed⟩, xf, no⟩ := first u (List.mem_of_getElem? sx)
      have kk := ge.trans k6
      refine ⟨_, rfl, a, C, d, _, x, rfl, kk.at0 ea, kk.at0 ed, rfl, xf, no, ?_⟩
      refine ky _ _ (Kp.refl _) ?_
      rw [q, List.replicate_succ']
    rw [lw] at q
    subst q
    have K6 := ge.trans k6
    have dl6 := K6.at0 dl
    refine ⟨_, rfl, l, _, 8, _, rfl, rfl, SqL.of dl6, rfl, a8, C8, d8, _, x, rfl, K6.at0 ea8, K6.at0 ed8, rfl, X8.is.xf, X8.no, ?_⟩
    refine ⟨_, rfl, l, _, 9, _, rfl, rfl, SqL.of dl6, rfl, a9, C9, d9, _, x, rfl, K6.at0 ea9, K6.at0 ed9, rfl, X9.is.xf, X9.no, ?_⟩
    refine ⟨_, rfl, l, _, 10, _, rfl, rfl, SqL.of dl6, rfl, a10, C10, d10, _, x, rfl, K6.at0 ea10, K6.at0 ed10, rfl, X10.is.xf, X10.no, ?_⟩
    refine ⟨(by show 3 ≤ sizeLine; omega), fun q1 w1 => ?_⟩
    have g1 := (Kp.refl (T := T0) H6).new (o := .lst [x, x, x]) w1
    refine ⟨D, q1, List.replicate 8 x, [x, x, x], rfl, rfl, g1.at0 d6, upd_same, (by show 8 + 3 ≤ sizeLine; omega), fun q2 w2 => ?_⟩
    have g2 := g1.new (o := .lst (List.replicate 8 x ++ [x, x, x])) w2
    have d2 : (upd (upd H6 q1 (.lst [x, x, x])) q2 (.lst (List.replicate 8 x ++ [x, x, x]))) q2 = some (.lst (List.replicate 11 x)) := upd_same
    have K7 := K6.trans g2
    generalize upd (upd H6 q1 (.lst [x, x, x])) q2 (.lst (List.replicate 8 x ++ [x, x, x])) = G2 at d2 K7 ⊢
    have dl7 := K7.at0 dl
    refine ⟨_, rfl, ?_⟩
    refine ⟨_, rfl, l, _, 11, _, rfl, rfl, SqL.of dl7, rfl, a11, C11, d11, _, x, rfl, K7.at0 ea11, K7.at0 ed11, rfl, X11.is.xf, X11.no, ?_⟩
    refine ⟨_, rfl, l, _, 12, _, rfl, rfl, SqL.of dl7, rfl, a12, C12, d12, _, x, rfl, K7.at0 ea12, K7.at0 ed12, rfl, X12.is.xf, X12.no, ?_⟩
    refine ⟨_, rfl, l, _, 13, _, rfl, rfl, SqL.of dl7, rfl, a13, C13, d13, _, x, rfl, K7.at0 ea13, K7.at0 ed13, rfl, X13.is.xf, X13.no, ?_⟩
    refine ⟨(by show 3 ≤ sizeLine; omega), fun q3 w3 => ?_⟩
    have g3 := (Kp.refl (T := T0) G2).new (o := .lst [x, x, x]) w3
    refine ⟨q2, q3, List.replicate 11 x, [x, x, x], rfl, rfl, g3.at0 d2, upd_same, (by show 11 + 3 ≤ sizeLine; omega), fun q4 w4 => ?_⟩
    have g4 := g3.new (o := .lst (List.replicate 11 x ++ [x, x, x])) w4
    exact k _ q4 (K7.trans g4) ((K7.trans g3).free w4) upd_same
end
end Lw
set_option pp.maxSteps 500
namespace Lw
open PySem L2 Gk
abbrev sLaw : Stmt := topS 36
structure TxtL (mg : Str → Option Value) : Prop where
  z_len : mg "len" = none
  z_max : mg "max" = none
  z_min : mg "min" = none
  z_range : mg "range" = none
  z_repr : mg "repr" = none
  z_enum : mg "enumerate" = none
theorem boot_max : bootBuiltins "max" = some (.builtin "max") := by decide +kernel
theorem boot_min : bootBuiltins "min" = some (.builtin "min") := by decide +kernel
theorem boot_repr : bootBuiltins "repr" = some (.builtin "repr") := by decide +kernel
abbrev rB : List V → Hp → VK → Prop := fun xs H Q => ∃ b, xs = [.bl b] ∧ Q (.str (boolS b)) H
abbrev NL : List Str := ["script", "start", "well", "turn", "one", "other", "own", "line", "some", "named", "held", "kept", "errors", "due", "thing", "duos", "at", "error", "duo"]
/-- errors and what they were made with -/
def Grp (cs : List (Addr × Str)) (H : Hp) (v : V) : Prop := ∃ (T l : Addr) (du x : V) (es : List V) (d : PyData), v = .ref T ∧ H T = some (.tup [.ref l, du]) ∧ H l = some (.lst es) ∧ Exs H x es cs ∧ Dd T0 H x d ∧ Dd T0 H du d ∧ Small d
theorem Exs.keep0 {H H2 : Hp} {x : V} {es : List V} {cs : List (Addr × Str)} (h : Exs H x es cs) (k : Kp T0 H H2) : Exs H2 x es cs := Paired.mapP h fun _ _ z => ExAt.keep0 z k
theorem Grp.keep0 {cs : List (Addr × Str)} {H H2 : Hp} {v : V} (h : Grp cs H v) (k : Kp T0 H H2) : Grp cs H2 v := by
  obtain ⟨T, l, du, x, es, d, e, a, b, c, f, g, s⟩ := h
  exact ⟨T, l, du, x, es, d, e, k.at0 a, k.at0 b, Exs.keep0 c k, f.keep k, g.keep k, s⟩
theorem exo_lst {e C : Addr} {d : Option Addr} {xs : List V} : exo e C d ≠ .lst xs := fun z => by
  have z2 : HO.ext _ = HO.lst xs := z
  cases z2
theorem exo_dK {e C : Addr} {d : Option Addr} {xs : List (L2.Key × V)} : exo e C d ≠ .dK xs := fun z => by
  have z2 : HO.ext _ = HO.dK xs := z
  cases z2
theorem exd_lst {e : Addr} {fs : List (Str × V)} {xs : List V} : exd e fs ≠ .lst xs := fun z => by
  have z2 : HO.ext _ = HO.lst xs := z
  cases z2
theorem exd_dK {e : Addr} {fs : List (Str × V)} {xs : List (L2.Key × V)} : exd e fs ≠ .dK xs := fun z => by
  have z2 : HO.ext _ = HO.dK xs := z
  cases z2
/-- errors stay where lists and dicts are written -/
theorem Exs.wr {T : Addr → Prop} {H H2 : Hp} {x : V} {es : List V} {cs : List (Addr × Str)} (h : Exs H x es cs) (k : Kp T H H2) (hT : ∀ a, T a → (∃ xs, H a = some (.lst xs)) ∨ ∃ xs, H a = some (.dK xs)) : Exs H2 x es cs := Paired.mapP h fun v c z => by
  obtain ⟨a, d, e, ea, ed⟩ := z
  refine ⟨a, d, e, k a _ (fun t => ?_) ea, k d _ (fun t => ?_) ed⟩
  · rcases hT a t with ⟨xs, q⟩ | ⟨xs, q⟩
    · rw [ea] at q
      exact exo_lst (Option.some.inj q)
    · rw [ea] at q
      exact exo_dK (Option.some.inj q)
  · rcases hT d t with ⟨xs, q⟩ | ⟨xs, q⟩
    · rw [ed] at q
      exact exd_lst (Option.some.inj q)
    · rw [ed] at q
      exact exd_dK (Option.some.inj q)
theorem paired_get {α β : Type} {R : α → β → Prop} : ∀ {xs : List α} {ys : List β} {i : Nat} {x : α}, Paired R xs ys → xs[i]? = some x → ∃ y, ys[i]? = some y ∧ R x y
  | _, _, _, _, .nil, e => nomatch e
  | _, _, 0, _, .cons r _, e => by
    cases Option.some.inj e
    exact ⟨_, rfl, r⟩
  | _ :: _, _ :: _, i + 1, _, .cons _ t, e => paired_get (i := i) t (by rw [List.getElem?_cons_succ] at e; exact e)
def Duo (H : Hp) (v : V) : Prop := ∃ a b, v = .ref a ∧ H a = some (.tup [.bl b, .bl b])
theorem Duo.keep0 {H H2 : Hp} {v : V} (h : Duo H v) (k : Kp T0 H H2) : Duo H2 v := by
  obtain ⟨a, b, e, d⟩ := h
  exact ⟨a, b, e, k.at0 d⟩
theorem Duo.wr {T : Addr → Prop} {H H2 : Hp} {v : V} (h : Duo H v) (k : Kp T H H2) (hT : ∀ a, T a → ∃ xs, H a = some (.lst xs)) : Duo H2 v := by
  obtain ⟨a, b, e, d⟩ := h
  refine ⟨a, b, e, k a _ (fun t => ?_) d⟩
  obtain ⟨xs, q⟩ := hT a t
  rw [d] at q
  cases q
theorem small_own : ∀ n : Nat, n < 4 → (PyData.dict [(.str "a", .int 1), (.str "b", .int (n : Int))]).showable = true ∧ (PyData.dict [(.str "a", .int 1), (.str "b", .int (n : Int))]).depth ≤ 8 ∧ (PyData.dict [(.str "a", .int 1), (.str "b", .int (n : Int))]).shown.length ≤ 200 := by decide +kernel
theorem small_line : ∀ n : Nat, n < 4 → (PyData.list [.int 1, .int (n : Int)]).showable = true ∧ (PyData.list [.int 1, .int (n : Int)]).depth ≤ 8 ∧ (PyData.list [.int 1, .int (n : Int)]).shown.length ≤ 200 := by decide +kernel
section
variable {P : Program} {w : World} {K : PySem.W.Frag} {mg : Str → Option Value} {base : Heap} {CM : Addr} {CS : List (Addr × Str)}
theorem scLaw : FnScope NL ["script"] (defScope sLaw) := ⟨rfl, rfl, rfl, by decide +kernel, rfl, by decide +kernel, by decide +kernel⟩
theorem ok_law {f fT fA fMd fNm f1k fKp fN fX fU fG fK : Addr} {fd : FuncData} (F : Fun K "law" "law" sLaw f fd) (TL : TxtL mg) (lc14 : CS.length = 14)
    (hK : ∀ (i : Nat) (c : Addr × Str), CS[i]? = some c → OexC K c.1 ∧ IsC K c.1 ∧ PySem.W.kitOne K (.ref c.1) (.ref CM) = some true ∧ Paired (fun (q : Addr × Str) b => PySem.W.kitOne K (.ref c.1) (.ref q.1) = some b) CS (kb i))
    (DT : Df P w K mg base 1 fT "_law_well" ["script", "start"] (spTape K)) (DA : Df P w K mg base 3 fA "_law_any" ["well"] spAny2) (DMd : Df P w K mg base 3 fMd "_law_made" ["thing"] (spMade CS)) (DNm : Df P w K mg base 3 fNm "_law_named" ["thing"] (spMade CS))
    (D1k : Df P w K mg base 2 f1k "_law_of_one_kind" ["error", "at"] (spOneKind K CS CM)) (DKp : Df P w K mg base 1 fKp "_law_kept" ["errors"] (spKept CS))
    (DN : D1 P w K mg base 2 fN "is_name" "value" (spKd K nameK)) (DX : D1 P w K mg base 2 fX "is_text" "value" (spKd K textK)) (DU : D1 P w K mg base 1 fU "is_number" "value" (spKd K numK)) (DG : D1 P w K mg base 1 fG "is_flag" "value" (spKd K flagK))
    (DK : D1 P w K mg base 1 fK "value_key" "value" (spKey K)) : FnG P w K mg base 4 f fd ["script"] (spLaw K) := by
  refine fnG_by F scLaw (fun vs H Q E h => ?_) (fun cdv A outer s H vs Q E hf hr h => ?_)
  · obtain ⟨a, ns, rfl, _⟩ := h
    rfl
  · obtain ⟨a, ns, rfl, hs, hl, hb, k⟩ := h
    have r3 : Room 3 _ := hr
    have r2 : Room 2 _ := hr.mono (by decide)
    have r1 : Room 1 _ := hr.mono (by decide)
    have hu : (A.deeper (PyProof.Rows.envOfC "law" (defScope sLaw) s.heap.objs.size f cdv)).units + 70 < cLine := by have := hr.un; omega
    refine ⟨_, (pss_cons (ps_for PassesOwn.never rfl (pi_range1 (by rfl) TL.z_range (pa_cons (pe_callB (call_max2 rfl) (by rfl) TL.z_max boot_max (pa_cons pe_int (pa_cons (pe_callB (call_min2 rfl) (by rfl) TL.z_min boot_min (pa_cons pe_int (pa_cons (pe_callB call_len (by rfl) TL.z_len PySem.boot_len (pa_cons (pv 0) pa_nil)) pa_nil))) pa_nil))) pa_nil)) (pg_name (i := 1) scLaw.nd rfl (Or.inl rfl))
      (pss_cons (ps_set (i := 2) scLaw.nd rfl (Or.inl rfl) (pe_df DT r1 (by rfl) (pa_cons (pv 0) (pa_cons (pv 1) pa_nil))))
      (pss_one (ps_for PassesOwn.never rfl (pi_range1 (by rfl) TL.z_range (pa_cons pe_int pa_nil)) (pg_name (i := 3) scLaw.nd rfl (Or.inl rfl))
      (pss_cons (ps_par (i := 4) (j := 5) (by rfl) scLaw.nd rfl rfl (by decide) rfl rfl (pa_cons (pe_df DA r3 (by rfl) (pa_cons (pv 2) pa_nil)) (pa_cons (pe_df DA r3 (by rfl) (pa_cons (pv 2) pa_nil)) pa_nil)) (by rfl))
      (pss_cons (ps_par (i := 6) (j := 7) (by rfl) scLaw.nd rfl rfl (by decide) rfl rfl (pa_cons (pe_disp (pps_cons pe_str pe_int pps_nil) (by rfl) (by rfl) (fun z => by cases z) (by decide)) (pa_cons (pe_lst (pa_cons pe_int pa_nil)) pa_nil)) (by rfl))
      (pss_cons (ps_par (i := 8) (j := 9) (by rfl) scLaw.nd rfl rfl (by decide) rfl rfl (pa_cons (pe_df DMd r3 (by rfl) (pa_cons (pv 4) pa_nil)) (pa_cons (pe_df DNm r3 (by rfl) (pa_cons (pv 5) pa_nil)) pa_nil)) (by rfl))
      (pss_cons (ps_par (i := 10) (j := 11) (by rfl) scLaw.nd rfl rfl (by decide) rfl rfl (pa_cons (pe_df DMd r3 (by rfl) (pa_cons (pv 6) pa_nil)) (pa_cons (pe_df DMd r3 (by rfl) (pa_cons (pv 7) pa_nil)) pa_nil)) (by rfl))
      (pss_cons (ps_dput (hu_of hr) (pv 6) pe_str (pv 3) rfl)
      (pss_cons (ps_expr (pe_bm PySem.F.plainAttrs_list PySem.F.slot_list_append PySem.F.type_list_append mt_append (pv 7) (pa_cons (pv 3) pa_nil)))
      (pss_cons (ps_for PassesOwn.never rfl (pi_list (pe_lst (pa_cons (pe_tup (pa_cons (pv 8) (pa_cons (pv 4) pa_nil))) (pa_cons (pe_tup (pa_cons (pv 9) (pa_cons (pv 5) pa_nil))) (pa_cons (pe_tup (pa_cons (pv 10) (pa_cons (pe_disp (pps_cons pe_str pe_int (pps_cons pe_str (pv 3) pps_nil)) (by rfl) (by rfl) (fun z => by cases z) (by decide)) pa_nil))) (pa_cons (pe_tup (pa_cons (pv 11) (pa_cons (pe_lst (pa_cons pe_int (pa_cons (pv 3) pa_nil))) pa_nil))) pa_nil)))))) (pg_tup (by rfl) (pgs_cons (pg_name (i := 12) scLaw.nd rfl (Or.inl rfl)) (pgs_cons (pg_name (i := 13) scLaw.nd rfl (Or.inl rfl)) pgs_nil)))
      (pss_cons (ps_if (pt_cmpR op_ne (pe_callB (call_reprL hf hu) (by rfl) TL.z_repr boot_repr (pa_cons (pe_df DKp r1 (by rfl) (pa_cons (pv 12) pa_nil)) pa_nil)) (pe_callB (call_reprL hf hu) (by rfl) TL.z_repr boot_repr (pa_cons (pe_op op_rep (pe_lst (pa_cons (pv 13) pa_nil)) pe_int) pa_nil)) (nomark _)) (pss_one (ps_ret pe_bl)) pss_nil)
      (pss_one (ps_if (pt_cmpR op_in_seq pe_bl (pe_lc (te := tCall (spOneKind K CS CM) [] E0 (tCons (tVar 17) (tCons (tVar 16) tNil))) (own := [("at", 16), ("error", 17)]) (g := gTup K 2 (gCons (gName 16) (gCons (gName 17) gNil))) (tt := tYes) rfl scLaw.nd (pi_enum (by rfl) TL.z_enum (pa_cons (pv 12) pa_nil)) (blkOk_by (N := NL) (sc := defScope sLaw) (by decide +kernel)) (fun _ _ _ _ _ => pg_tup (by rfl) (pgs_cons (pg_name (i := 16) scLaw.nd rfl (Or.inl rfl)) (pgs_cons (pg_name (i := 17) scLaw.nd rfl (Or.inl rfl)) pgs_nil))) (fun _ _ _ _ _ => pts_nil) (fun _ _ _ _ _ => (pe_df D1k r2 (by rfl) (pa_cons (pv 17) (pa_cons (pv 16) pa_nil))))) (by rfl)) (pss_one (ps_ret pe_bl)) pss_nil))))
      (pss_cons (ps_set (i := 14) scLaw.nd rfl (Or.inl rfl) (pe_df DA r3 (by rfl) (pa_cons (pv 2) pa_nil)))
      (pss_cons (ps_set (i := 15) scLaw.nd rfl (Or.inl rfl) (pe_lst (pa_cons (pe_tup (pa_cons (pe_df DN.df r2 (by rfl) (pa_cons (pv 14) pa_nil)) (pa_cons (pe_d1K DN r2 (by rfl) (pv 14)) pa_nil))) (pa_cons (pe_tup (pa_cons (pe_df DX.df r2 (by rfl) (pa_cons (pv 14) pa_nil)) (pa_cons (pe_d1K DX r2 (by rfl) (pv 14)) pa_nil))) pa_nil))))
      (pss_cons (ps_set (i := 15) scLaw.nd rfl (Or.inl rfl) (pe_op op_cat (pv 15) (pe_lst (pa_cons (pe_tup (pa_cons (pe_df DU.df r1 (by rfl) (pa_cons (pv 14) pa_nil)) (pa_cons (pe_d1K DU r1 (by rfl) (pv 14)) pa_nil))) (pa_cons (pe_tup (pa_cons (pe_df DG.df r1 (by rfl) (pa_cons (pv 14) pa_nil)) (pa_cons (pe_d1K DG r1 (by rfl) (pv 14)) pa_nil))) pa_nil)))))
      (pss_cons (ps_expr (pe_bm PySem.F.plainAttrs_list PySem.F.slot_list_append PySem.F.type_list_append mt_append (pv 15) (pa_cons (pe_tup (pa_cons (pe_cmpR (op_ltD hr.units) (pe_df DK.df r1 (by rfl) (pa_cons pe_str pa_nil)) (pe_d1K DK r1 (by rfl) pe_str) (nomark _)) (pa_cons pe_bl pa_nil))) pa_nil)))
      (pss_one (ps_if (pt_cmpR (op_neD hr.units) (pe_lc (te := tVar 18) (own := [("duo", 18)]) (g := gName 18) (tt := tTest (tOp rNe (tCB rB (tCons (tOp (rIxT K) (tVar 18) (tC (.int 0))) tNil)) (tCB rB (tCons (tOp (rIxT K) (tVar 18) (tC (.int 1))) tNil)))) rfl scLaw.nd (pi_list (pv 15)) (blkOk_by (N := NL) (sc := defScope sLaw) (by decide +kernel)) (fun _ _ _ _ _ => (pg_name (i := 18) scLaw.nd rfl (Or.inl rfl))) (fun _ _ _ _ _ => pts_one (pt_cmpR op_ne (pe_callB call_repr_bool (by rfl) TL.z_repr boot_repr (pa_cons (pe_ix ix_tup (pv 18) pe_int (fun _ _ => rfl)) pa_nil)) (pe_callB call_repr_bool (by rfl) TL.z_repr boot_repr (pa_cons (pe_ix ix_tup (pv 18) pe_int (fun _ _ => rfl)) pa_nil)) (nomark _))) (fun _ _ _ _ _ => (pv 18))) (pe_lst pa_nil) (nomark _)) (pss_one (ps_ret pe_bl)) pss_nil)))))))))))))))))
      (pss_one (ps_ret pe_bl))), ?_⟩
    have em := clamp (lo := 1) (hi := 4) (by decide) ns.length
    refine ⟨_, rfl, _, ns.length, rfl, .inl ⟨_, hs, by rw [List.length_map]⟩, _, _, rfl, _, _, rfl, _, rfl, ?_, ?_, ?_⟩
    · omega
    · omega
    revert em
    generalize (if (if (ns.length : Int) < 4 then (ns.length : Int) else 4) > 1 then (if (ns.length : Int) < 4 then (ns.length : Int) else 4) else 1) = top
    intro em
    have hz : (16777216 : Nat) = PySem.sizeLine := PySem.sizeLine_eq.symm
    have l1 : 1 ≤ PySem.sizeLine := by omega
    refine for_range (lo := 0) (n := top.toNat) (fun _ st H1 => Kp T0 H H1 ∧ ∃ o1 o2 o3 o4 o5 o6 o7 o8 o9 o10 o11 o12 o13 o14 o15 o16 o17 o18 : Option V, st = [some (.ref a), o1, o2, o3, o4, o5, o6, o7, o8, o9, o10, o11, o12, o13, o14, o15, o16, o17, o18])
      ⟨Kp.refl H, none, none, none, none, none, none, none, none, none, none, none, none, none, none, none, none, none, none, rfl⟩ (fun i st H1 hi p => ?_) (fun st H1 p => ?_)
    rotate_left
    · obtain ⟨k1, o1, o2, o3, o4, o5, o6, o7, o8, o9, o10, o11, o12, o13, o14, o15, o16, o17, o18, rfl⟩ := p
      exact k _
    obtain ⟨k1, o1, o2, o3, o4, o5, o6, o7, o8, o9, o10, o11, o12, o13, o14, o15, o16, o17, o18, rfl⟩ := p
    refine ⟨_, rfl, _, rfl, a, ns, _, rfl, sqL_at hs k1 id, hl, hb, by omega, by omega, fun t d m nt ok => ?_⟩
    have ta : TapeAt (upd H1 t (.dK (tapeL d m))) t := TapeAt.put ok
    generalize eH : upd H1 t (.dK (tapeL d m)) = H2 at ta
    have kz : ∀ {H9 : Hp}, Kp (At t) H2 H9 → Kp T0 H H9 := fun k9 => k1.trans (Kp.tape (o := .dK (tapeL d m)) nt (by rw [eH]; exact k9))
    refine ⟨_, rfl, (by decide), (by decide), ?_⟩
    refine for_range (lo := 0) (n := 4) (fun _ st H3 => Kp (At t) H2 H3 ∧ TapeAt H3 t ∧ ∃ o1 o3 o4 o5 o6 o7 o8 o9 o10 o11 o12 o13 o14 o15 o16 o17 o18 : Option V, st = [some (.ref a), o1, some (.ref t), o3, o4, o5, o6, o7, o8, o9, o10, o11, o12, o13, o14, o15, o16, o17, o18])
      ⟨Kp.refl H2, ta, _, _, _, _, _, _, _, _, _, _, _, _, _, _, _, _, _, rfl⟩ (fun j st H3 hj p => ?_) (fun st H3 p => ?_)
    rotate_left
    · obtain ⟨k3, ta3, o1, o3, o4, o5, o6, o7, o8, o9, o10, o11, o12, o13, o14, o15, o16, o17, o18, rfl⟩ := p
      exact ⟨kz k3, _, _, _, _, _, _, _, _, _, _, _, _, _, _, _, _, _, _, rfl⟩
    obtain ⟨k3, ta3, o1, o3, o4, o5, o6, o7, o8, o9, o10, o11, o12, o13, o14, o15, o16, o17, o18, rfl⟩ := p
    -- one, other
    refine ⟨_, rfl, t, rfl, ta3, fun H4 v1 k4 ta4 h1 => ?_⟩
    refine ⟨_, rfl, t, rfl, ta4, fun H5 v2 k5 ta5 h2 => ?_⟩
    replace h1 := h1.keep k5
    have K5 := (k3.trans k4).trans k5
    refine ⟨_, _, rfl, ?_⟩
    clear k3 k4 k5 ta3 ta4
    -- own, line
    refine fun p1 hp1 => ⟨upd_same, [(.inr "a", .int 1)], rfl, (by show 1 ≤ 15; decide), ?_⟩
    rw [upd_upd]
    have g1 := (Kp.refl (T := T0) H5).new (o := .dK (mergeK [] [(.inr "a", .int 1)])) hp1
    have e1 : (upd H5 p1 (.dK (mergeK [] [(.inr "a", .int 1)]))) p1 = some (.dK [(.inr "a", .int 1)]) := upd_same
    refine ⟨l1, fun p2 hp2 => ?_⟩
    have g2 := g1.new (o := .lst [.int 1]) hp2
    have n12 : p1 ≠ p2 := ne_of_none e1 hp2
    have e2 : (upd (upd H5 p1 (.dK (mergeK [] [(.inr "a", .int 1)]))) p2 (.lst [.int 1])) p2 = some (.lst [.int 1]) := upd_same
    replace e1 : (upd (upd H5 p1 (.dK (mergeK [] [(.inr "a", .int 1)]))) p2 (.lst [.int 1])) p1 = some (.dK [(.inr "a", .int 1)]) := by rw [upd_ne n12]; exact e1
    have tp1 : p1 ≠ t := tape_fresh ta5 hp1
    have ta6 := ta5.keep g2
    have tp2 : p2 ≠ t := tape_ne ta6 e2
    have np2 : H5 p2 = none := by
      by_cases c : p2 = p1
      · exact absurd c.symm n12
      · rw [upd_ne c] at hp2; exact hp2
    have f1 : H2 p1 = none := by
      cases c : H2 p1 with
      | none => rfl
      | some o =>
        have z := K5 p1 o tp1 c
        rw [hp1] at z
        cases z
    have f2 : H2 p2 = none := by
      cases c : H2 p2 with
      | none => rfl
      | some o =>
        have z := K5 p2 o tp2 c
        rw [np2] at z
        cases z
    -- apart from what is written
    have U1 : Th (fun z => z = t ∨ z = p1 ∨ z = p2) H5 v1 := by
      obtain ⟨d, x1, x2, x3⟩ := h1
      refine ⟨d, x1.out fun a z => ?_, x2, x3⟩
      rcases z with z | z | z
      · exact .inl z
      · rw [z]; exact .inr hp1
      · rw [z]; exact .inr np2
    have U2 : Th (fun z => z = t ∨ z = p1 ∨ z = p2) H5 v2 := by
      obtain ⟨d, x1, x2, x3⟩ := h2
      refine ⟨d, x1.out fun a z => ?_, x2, x3⟩
      rcases z with z | z | z
      · exact .inl z
      · rw [z]; exact .inr hp1
      · rw [z]; exact .inr np2
    replace U1 := U1.keep g2.wide
    replace U2 := U2.keep g2.wide
    have K6 := K5.trans g2.wide
    refine ⟨_, _, rfl, ?_⟩
    clear g1 g2 hp1 hp2 np2 K5 ta5 h1 h2
    generalize upd (upd H5 p1 (.dK (mergeK [] [(.inr "a", .int 1)]))) p2 (.lst [.int 1]) = H6 at e1 e2 ta6 U1 U2 K6 ⊢
    -- some, named, held, kept
    refine ⟨_, rfl, v1, rfl, fun H7 l7 es7 k7 n7 d7 x7 => ?_⟩
    refine ⟨_, rfl, v2, rfl, fun H8 l8 es8 k8 n8 d8 x8 => ?_⟩
    refine ⟨_, _, rfl, ?_⟩
    refine ⟨_, rfl, .ref p1, rfl, fun H9 l9 es9 k9 n9 d9 x9 => ?_⟩
    refine ⟨_, rfl, .ref p2, rfl, fun H10 l10 es10 k10 n10 d10 x10 => ?_⟩
    refine ⟨_, _, rfl, ?_⟩
    have j9 := k9.trans k10
    have j8 := k8.trans j9
    have j7 := k7.trans j8
    replace d9 := k10.at0 d9
    replace d8 := j9.at0 d8
    replace d7 := j8.at0 d7
    replace x9 := Exs.keep0 x9 k10
    replace x8 := Exs.keep0 x8 j9
    replace x7 := Exs.keep0 x7 j8
    replace e1 := j7.at0 e1
    replace e2 := j7.at0 e2
    replace U1 := U1.keep j7.wide
    replace U2 := U2.keep j7.wide
    have ta10 := ta6.keep j7
    replace K6 := K6.trans j7.wide
    clear j9 j8 j7 k7 k8 k9 k10 n7 n8 n9 n10 ta6
    have ej : (0 : Int) + (j : Int) = (j : Int) := by omega
    have j4 : j < 4 := hj
    -- own["b"] = turn; line.append(turn)
    refine ⟨_, rfl, _, rfl, p1, _, rfl, DPut.k (k := .inr "b") e1 (by show 1 < sizeLine; omega), ?_⟩
    have e2b : (upd H10 p1 (.dK (putK [(.inr "a", .int 1)] (.inr "b") (.int (0 + (j : Int)))))) p2 = some (.lst [.int 1]) := by rw [upd_ne n12.symm]; exact e2
    refine ⟨_, rfl, .inl ⟨rfl, _, SqL.of e2b⟩, _, rfl, p2, [.int 1], _, rfl, rfl, e2b, (by show 1 < sizeLine; omega), ?_⟩
    rw [ej]
    have far : ∀ {l : Addr} {es : List V}, H10 l = some (.lst es) → es.length = 14 → l ≠ p1 ∧ l ≠ p2 := fun {l es} h hl => by
      refine ⟨fun z => ?_, fun z => ?_⟩
      · rw [z, e1] at h
        cases h
      · rw [z, e2] at h
        cases h
        cases hl
    have wk : ∀ {T : Addr → Prop}, T p1 → T p2 → Kp T H10 (upd (upd H10 p1 (.dK (putK [(.inr "a", .int 1)] (.inr "b") (.int (j : Int))))) p2 (.lst ([.int 1] ++ [.int (j : Int)]))) := fun h1 h2 => ((Kp.refl H10).put h1).put h2
    have kw := wk (T := fun z => z = p1 ∨ z = p2) (.inl rfl) (.inr rfl)
    have hT : ∀ z, (z = p1 ∨ z = p2) → (∃ xs, H10 z = some (.lst xs)) ∨ ∃ xs, H10 z = some (.dK xs) := fun z h => by
      rcases h with h | h
      · rw [h]; exact .inr ⟨_, e1⟩
      · rw [h]; exact .inl ⟨_, e2⟩
    have m7 : es7.length = 14 := (Paired.length x7).trans lc14
    have m8 : es8.length = 14 := (Paired.length x8).trans lc14
    have m9 : es9.length = 14 := (Paired.length x9).trans lc14
    have m10 : es10.length = 14 := (Paired.length x10).trans lc14
    replace d7 := kw _ _ (fun z => z.elim (far d7 m7).1 (far d7 m7).2) d7
    replace d8 := kw _ _ (fun z => z.elim (far d8 m8).1 (far d8 m8).2) d8
    replace d9 := kw _ _ (fun z => z.elim (far d9 m9).1 (far d9 m9).2) d9
    replace d10 := kw _ _ (fun z => z.elim (far d10 m10).1 (far d10 m10).2) d10
    replace x7 := Exs.wr x7 kw hT
    replace x8 := Exs.wr x8 kw hT
    replace x9 := Exs.wr x9 kw hT
    replace x10 := Exs.wr x10 kw hT
    replace U1 := U1.keep (wk (.inr (.inl rfl)) (.inr (.inr rfl)))
    replace U2 := U2.keep (wk (.inr (.inl rfl)) (.inr (.inr rfl)))
    have ta11 : TapeAt (upd (upd H10 p1 (.dK (putK [(.inr "a", .int 1)] (.inr "b") (.int (j : Int))))) p2 (.lst ([.int 1] ++ [.int (j : Int)]))) t := (ta10.over (fun z => tp1 z)).over (fun z => tp2 z)
    have K11 : Kp (At t) H2 (upd (upd H10 p1 (.dK (putK [(.inr "a", .int 1)] (.inr "b") (.int (j : Int))))) p2 (.lst ([.int 1] ++ [.int (j : Int)]))) := (K6.over f1).over f2
    have o1 : (upd (upd H10 p1 (.dK (putK [(.inr "a", .int 1)] (.inr "b") (.int (j : Int))))) p2 (.lst ([.int 1] ++ [.int (j : Int)]))) p1 = some (.dK [(.inr "a", .int 1), (.inr "b", .int (j : Int))]) := by
      rw [upd_ne n12, upd_same]
      rfl
    have o2 : (upd (upd H10 p1 (.dK (putK [(.inr "a", .int 1)] (.inr "b") (.int (j : Int))))) p2 (.lst ([.int 1] ++ [.int (j : Int)]))) p2 = some (.lst [.int 1, .int (j : Int)]) := upd_same
    clear kw wk hT far e1 e2 e2b ta10 K6 m7 m8 m9 m10
    generalize upd (upd H10 p1 (.dK (putK [(.inr "a", .int 1)] (.inr "b") (.int (j : Int))))) p2 (.lst ([.int 1] ++ [.int (j : Int)])) = H11 at d7 d8 d9 d10 x7 x8 x9 x10 U1 U2 ta11 K11 o1 o2 ⊢
    -- the four couples
    refine ⟨_, rfl, _, rfl, (by show 2 ≤ sizeLine; omega), fun q1 w1 => ?_⟩
    have g1 := (Kp.refl (T := T0) H11).new (o := .tup [.ref l7, v1]) w1
    have t1 : (upd H11 q1 (.tup [.ref l7, v1])) q1 = some (.tup [.ref l7, v1]) := upd_same
    generalize upd H11 q1 (.tup [.ref l7, v1]) = G1 at g1 t1 ⊢
    refine ⟨_, rfl, _, rfl, (by show 2 ≤ sizeLine; omega), fun q2 w2 => ?_⟩
    have g2 := (Kp.refl (T := T0) G1).new (o := .tup [.ref l8, v2]) w2
    have t2 : (upd G1 q2 (.tup [.ref l8, v2])) q2 = some (.tup [.ref l8, v2]) := upd_same
    generalize upd G1 q2 (.tup [.ref l8, v2]) = G2 at g2 t2 ⊢
    refine ⟨_, rfl, fun q3 w3 => ?_⟩
    refine ⟨_, rfl, upd_same, [(.inr "a", .int 1), (.inr "b", .int (j : Int))], rfl, (by show 2 ≤ 15; decide), ?_⟩
    rw [upd_upd]
    have g3 := (Kp.refl (T := T0) G2).new (o := .dK (mergeK [] [(.inr "a", .int 1), (.inr "b", .int (j : Int))])) w3
    have t3 : (upd G2 q3 (.dK (mergeK [] [(.inr "a", .int 1), (.inr "b", .int (j : Int))]))) q3 = some (.dK [(.inr "a", .int 1), (.inr "b", .int (j : Int))]) := upd_same
    generalize upd G2 q3 (.dK (mergeK [] [(.inr "a", .int 1), (.inr "b", .int (j : Int))])) = G3 at g3 t3 ⊢
    refine ⟨(by show 2 ≤ sizeLine; omega), fun q4 w4 => ?_⟩
    have g4 := (Kp.refl (T := T0) G3).new (o := .tup [.ref l9, .ref q3]) w4
    have t4 : (upd G3 q4 (.tup [.ref l9, .ref q3])) q4 = some (.tup [.ref l9, .ref q3]) := upd_same
    generalize upd G3 q4 (.tup [.ref l9, .ref q3]) = G4 at g4 t4 ⊢
    refine ⟨_, rfl, _, rfl, (by show 2 ≤ sizeLine; omega), fun q5 w5 => ?_⟩
    have g5 := (Kp.refl (T := T0) G4).new (o := .lst [.int 1, .int (j : Int)]) w5
    have t5 : (upd G4 q5 (.lst [.int 1, .int (j : Int)])) q5 = some (.lst [.int 1, .int (j : Int)]) := upd_same
    generalize upd G4 q5 (.lst [.int 1, .int (j : Int)]) = G5 at g5 t5 ⊢
    refine ⟨(by show 2 ≤ sizeLine; omega), fun q6 w6 => ?_⟩
    have g6 := (Kp.refl (T := T0) G5).new (o := .tup [.ref l10, .ref q5]) w6
    have t6 : (upd G5 q6 (.tup [.ref l10, .ref q5])) q6 = some (.tup [.ref l10, .ref q5]) := upd_same
    generalize upd G5 q6 (.tup [.ref l10, .ref q5]) = G6 at g6 t6 ⊢
    refine ⟨(by show 4 ≤ sizeLine; omega), fun q7 w7 => ?_⟩
    have g7 := (Kp.refl (T := T0) G6).new (o := .lst [.ref q1, .ref q2, .ref q4, .ref q6]) w7
    have f67 := g6.trans g7
    have f57 := g5.trans f67
    have f47 := g4.trans f57
    have f37 := g3.trans f47
    have f27 := g2.trans f37
    have f17 := g1.trans f27
    have grp : ∀ v ∈ [V.ref q1, .ref q2, .ref q4, .ref q6], Grp CS (upd G6 q7 (.lst [.ref q1, .ref q2, .ref q4, .ref q6])) v := by
      intro v m
      have wid : ∀ {T : Addr → Prop}, ∀ z, T0 z → T z ∨ H11 z = none := fun z h => h.elim
      simp only [List.mem_cons, List.not_mem_nil, or_false] at m
      rcases m with rfl | rfl | rfl | rfl
      · obtain ⟨d, a1, a2, _⟩ := U1
        have a3 := (a1.out (U := T0) wid).keep f17
        exact ⟨q1, l7, v1, v1, es7, d, rfl, f27.at0 t1, f17.at0 d7, Exs.keep0 x7 f17, a3, a3, a2⟩
      · obtain ⟨d, a1, a2, _⟩ := U2
        have a3 := (a1.out (U := T0) wid).keep f17
        exact ⟨q2, l8, v2, v2, es8, d, rfl, f37.at0 t2, f17.at0 d8, Exs.keep0 x8 f17, a3, a3, a2⟩
      · obtain ⟨s1, s2, s3⟩ := small_own j j4
        exact ⟨q4, l9, .ref q3, .ref p1, es9, _, rfl, f57.at0 t4, f17.at0 d9, Exs.keep0 x9 f17, .dict id (f17.at0 o1) (.cons (.sc (.int _)) (.cons (.sc (.int _)) .nil)), .dict id (f47.at0 t3) (.cons (.sc (.int _)) (.cons (.sc (.int _)) .nil)), ⟨s1, s2, s3⟩⟩
      · obtain ⟨s1, s2, s3⟩ := small_line j j4
        exact ⟨q6, l10, .ref q5, .ref p2, es10, _, rfl, g7.at0 t6, f17.at0 d10, Exs.keep0 x10 f17, .lst id (f17.at0 o2) (.cons (.sc (.int _)) (.cons (.sc (.int _)) .nil)), .lst id (f67.at0 t5) (.cons (.sc (.int _)) (.cons (.sc (.int _)) .nil)), ⟨s1, s2, s3⟩⟩
    have dW : (upd G6 q7 (.lst [.ref q1, .ref q2, .ref q4, .ref q6])) q7 = some (.lst [.ref q1, .ref q2, .ref q4, .ref q6]) := upd_same
    have taW := ta11.keep f17
    have KW := K11.trans f17.wide
    clear f67 f57 f47 f37 f27 f17 g1 g2 g3 g4 g5 g6 g7 t1 t2 t3 t4 t5 t6 d7 d8 d9 d10 x7 x8 x9 x10 U1 U2 o1 o2 ta11 K11
    generalize upd G6 q7 (.lst [.ref q1, .ref q2, .ref q4, .ref q6]) = HW at grp dW taW KW ⊢
    generalize [V.ref q1, .ref q2, .ref q4, .ref q6] = ws at grp dW ⊢
    refine ⟨q7, rfl, ⟨ws, SqL.of dW⟩, ?_⟩
    refine for_it walk_list (fun i st H8 => Kp T0 HW H8 ∧ ∃ o1 o3 o4 o5 o6 o7 o8 o9 o10 o11 o12 o13 o14 o15 o16 o17 o18 : Option V, st = [some (.ref a), o1, some (.ref t), o3, o4, o5, o6, o7, o8, o9, o10, o11, o12, o13, o14, o15, o16, o17, o18])
      ⟨Kp.refl HW, _, _, _, _, _, _, _, _, _, _, _, _, _, _, _, _, _, rfl⟩ (fun i st H8 _ q => SqL.of (q.1.at0 dW)) (fun i v st H8b H8 hi q y => ?_) (fun st H8 q => ?_)
    · obtain ⟨k8, o1, o3, o4, o5, o6, o7, o8, o9, o10, o11, o12, o13, o14, o15, o16, o17, o18, rfl⟩ := q
      obtain ⟨rfl, hv⟩ := y
      obtain ⟨T, l, du, x, es, d, rfl, dT, dl, ex, dx, ddu, sm⟩ := (grp v (List.mem_of_getElem? hv)).keep0 k8
      refine ⟨T, _, rfl, SqT.of dT, rfl, _, _, rfl, _, _, rfl, rfl, ?_⟩
      -- repr(_law_kept(errors)) != repr([due] * 14)
      refine ⟨_, rfl, l, es, x, rfl, dl, ex, fun H9 m k9 nm dm => ?_⟩
      dsimp only [tNil]
      refine rd_rep dm (dx.keep k9) sm.sw (Nat.le_trans sm.dd (by decide)) (Nat.le_trans sm.sz (by decide)) ?_
      refine ⟨_, rfl, l1, fun q1 w1 => ?_⟩
      have g1 := (Kp.refl (T := T0) H9).new (o := .lst [du]) w1
      refine ⟨q1, 14, [du], rfl, rfl, upd_same, (by decide), (by decide), (by show 1 * 14 ≤ sizeLine; omega), fun q2 w2 => ?_⟩
      have g2 := g1.new (o := .lst (List.replicate (14 : Int).toNat [du]).flatten) w2
      dsimp only [tNil]
      refine rd_rep (v := du) upd_same ((ddu.keep k9).keep g2) sm.sw (Nat.le_trans sm.dd (by decide)) (Nat.le_trans sm.sz (by decide)) ?_
      refine ⟨rfl, _, rfl, ?_⟩
      rw [decide_eq_true rfl]
      refine iteF ?_
      have k2 := k9.trans g2
      replace dl := k2.at0 dl
      replace ex := Exs.keep0 ex k2
      replace k2 := k8.trans k2
      clear dm dx ddu g1 g2 nm
      generalize upd (upd H9 q1 (.lst [du])) q2 (.lst (List.replicate (14 : Int).toNat [du]).flatten) = G2 at k2 dl ex ⊢
      -- False in [..]
      refine ⟨_, rfl, l, es, rfl, SqL.of dl, fun D hD => ?_⟩
      have les : es.length = 14 := (Paired.length ex).trans lc14
      have dD := (Kp.refl (T := T0) G2).new (o := .lst []) hD
      refine lc_it (walk_enum (xs := es)) (fun i H9 => Kp T0 G2 H9 ∧ H9 D = some (.lst (List.replicate i (V.bl true)))) ⟨dD, upd_same⟩ (fun i H9 _ q => SqL.of (q.1.at0 dl)) (fun i v H9 H10 hi q y => ?_) (fun H9 q => ?_)
      · obtain ⟨k9, d9⟩ := q
        obtain ⟨T2, _, e, rfl, hT2, rfl, hi1, he⟩ := y
        cases Option.some.inj hi1
        have g3 := (Kp.refl (T := T0) H9).new (o := .tup [.int (i : Nat), e]) hT2
        have k9b := k9.trans g3
        obtain ⟨c, hc, ea⟩ := paired_get (Exs.keep0 ex k9b) he
        obtain ⟨y1, y2, y3, y4⟩ := hK i c hc
        refine ⟨T2, _, rfl, SqT.of upd_same, rfl, _, _, rfl, _, _, rfl, rfl, rfl, yes_ ?_⟩
        refine ⟨_, rfl, _, rfl, e, x, c.1, c.2, i, rfl, by omega, ea, y1, y2, y3, y4, fun H11 k11 => ?_⟩
        have d11 := k11.at0 (g3.at0 d9)
        refine ⟨_, d11, by rw [List.length_replicate]; omega, (k9b.trans k11).over hD, ?_⟩
        rw [upd_same, List.replicate_succ']
      · obtain ⟨k9, d9⟩ := q
        rw [les] at d9
        refine ⟨D, _, rfl, .inl (SqL.of d9), rfl, (by decide +kernel), ?_⟩
        rw [show (if false = true then !inV (V.bl false) (List.replicate 14 (V.bl true)) else inV (V.bl false) (List.replicate 14 (V.bl true))) = false from by decide +kernel]
        refine ⟨_, rfl, iteF ?_⟩
        exact ⟨k2.trans k9, _, _, _, _, _, _, _, _, _, _, _, _, _, _, _, _, _, rfl⟩
    obtain ⟨k8, o1, o3, o4, o5, o6, o7, o8, o9, o10, o11, o12, o13, o14, o15, o16, o17, o18, rfl⟩ := q
    replace taW := taW.keep k8
    replace KW := KW.trans k8.wide
    clear k8 grp dW
    -- thing
    refine ⟨_, rfl, t, rfl, taW, fun H9 v3 k9 ta9 h3 => ?_⟩
    obtain ⟨kd, hk⟩ := h3.kd (K := K)
    have K9 := KW.trans k9
    clear KW k9 taW h3
    -- duos
    refine ⟨_, rfl, v3, kd, rfl, hk, fun F1 z1 => ?_⟩
    refine ⟨_, rfl, v3, kd, rfl, hk.keep0 z1, fun F2 z2 => ?_⟩
    refine ⟨(by show 2 ≤ sizeLine; omega), fun q1 w1 => ?_⟩
    have g1 := (z1.trans z2).new (o := .tup [.bl (nameK kd), .bl (nameK kd)]) w1
    have t1 : (upd F2 q1 (.tup [.bl (nameK kd), .bl (nameK kd)])) q1 = some (.tup [.bl (nameK kd), .bl (nameK kd)]) := upd_same
    generalize upd F2 q1 (.tup [.bl (nameK kd), .bl (nameK kd)]) = F3 at g1 t1 ⊢
    refine ⟨_, rfl, v3, kd, rfl, hk.keep0 g1, fun F4 z4 => ?_⟩
    refine ⟨_, rfl, v3, kd, rfl, hk.keep0 (g1.trans z4), fun F5 z5 => ?_⟩
    refine ⟨(by show 2 ≤ sizeLine; omega), fun q2 w2 => ?_⟩
    have s2 := (z4.trans z5).new (o := .tup [.bl (textK kd), .bl (textK kd)]) w2
    have t2 : (upd F5 q2 (.tup [.bl (textK kd), .bl (textK kd)])) q2 = some (.tup [.bl (textK kd), .bl (textK kd)]) := upd_same
    generalize upd F5 q2 (.tup [.bl (textK kd), .bl (textK kd)]) = F6 at s2 t2 ⊢
    refine ⟨(by show 2 ≤ sizeLine; omega), fun q3 w3 => ?_⟩
    have s3 := (Kp.refl (T := T0) F6).new (o := .lst [.ref q1, .ref q2]) w3
    have t3 : (upd F6 q3 (.lst [.ref q1, .ref q2])) q3 = some (.lst [.ref q1, .ref q2]) := upd_same
    generalize upd F6 q3 (.lst [.ref q1, .ref q2]) = F7 at s3 t3 ⊢
    have g7 := (g1.trans s2).trans s3
    -- duos + ..
    refine ⟨_, rfl, ?_⟩
    refine ⟨_, rfl, v3, kd, rfl, hk.keep0 g7, fun F8 z8 => ?_⟩
    refine ⟨_, rfl, v3, kd, rfl, hk.keep0 (g7.trans z8), fun F9 z9 => ?_⟩
    refine ⟨(by show 2 ≤ sizeLine; omega), fun q4 w4 => ?_⟩
    have s4 := (z8.trans z9).new (o := .tup [.bl (numK kd), .bl (numK kd)]) w4
    have t4 : (upd F9 q4 (.tup [.bl (numK kd), .bl (numK kd)])) q4 = some (.tup [.bl (numK kd), .bl (numK kd)]) := upd_same
    generalize upd F9 q4 (.tup [.bl (numK kd), .bl (numK kd)]) = F10 at s4 t4 ⊢
    have g10 := g7.trans s4
    refine ⟨_, rfl, v3, kd, rfl, hk.keep0 g10, fun F11 z11 => ?_⟩
    refine ⟨_, rfl, v3, kd, rfl, hk.keep0 (g10.trans z11), fun F12 z12 => ?_⟩
    refine ⟨(by show 2 ≤ sizeLine; omega), fun q5 w5 => ?_⟩
    have s5 := (z11.trans z12).new (o := .tup [.bl (flagK kd), .bl (flagK kd)]) w5
    have t5 : (upd F12 q5 (.tup [.bl (flagK kd), .bl (flagK kd)])) q5 = some (.tup [.bl (flagK kd), .bl (flagK kd)]) := upd_same
    generalize upd F12 q5 (.tup [.bl (flagK kd), .bl (flagK kd)]) = F13 at s5 t5 ⊢
    refine ⟨(by show 2 ≤ sizeLine; omega), fun q6 w6 => ?_⟩
    have s6 := (Kp.refl (T := T0) F13).new (o := .lst [.ref q4, .ref q5]) w6
    have s46 := (s4.trans s5).trans s6
    refine ⟨q3, q6, [.ref q1, .ref q2], [.ref q4, .ref q5], rfl, rfl, s46.at0 t3, upd_same, (by show 2 + 2 ≤ sizeLine; omega), fun q7 w7 => ?_⟩
    have s7 := s6.new (o := .lst ([.ref q1, .ref q2] ++ [.ref q4, .ref q5])) w7
    have s47 := (s4.trans s5).trans s7
    have t7 : (upd (upd F13 q6 (.lst [.ref q4, .ref q5])) q7 (.lst ([.ref q1, .ref q2] ++ [.ref q4, .ref q5]))) q7 = some (.lst [.ref q1, .ref q2, .ref q4, .ref q5]) := upd_same
    have u1 : Duo (upd (upd F13 q6 (.lst [.ref q4, .ref q5])) q7 (.lst ([.ref q1, .ref q2] ++ [.ref q4, .ref q5]))) (.ref q1) := ⟨q1, _, rfl, s47.at0 (s3.at0 (s2.at0 t1))⟩
    have u2 : Duo (upd (upd F13 q6 (.lst [.ref q4, .ref q5])) q7 (.lst ([.ref q1, .ref q2] ++ [.ref q4, .ref q5]))) (.ref q2) := ⟨q2, _, rfl, s47.at0 (s3.at0 t2)⟩
    have u3 : Duo (upd (upd F13 q6 (.lst [.ref q4, .ref q5])) q7 (.lst ([.ref q1, .ref q2] ++ [.ref q4, .ref q5]))) (.ref q4) := ⟨q4, _, rfl, s7.at0 (s5.at0 t4)⟩
    have u4 : Duo (upd (upd F13 q6 (.lst [.ref q4, .ref q5])) q7 (.lst ([.ref q1, .ref q2] ++ [.ref q4, .ref q5]))) (.ref q5) := ⟨q5, _, rfl, s7.at0 t5⟩
    have g13 := g7.trans s47
    have q7t : q7 ≠ t := tape_fresh (ta9.keep (g7.trans s46)) w7
    have f7 : H2 q7 = none := by
      cases c : H2 q7 with
      | none => rfl
      | some o =>
        have z := (K9.trans (g7.trans s46).wide) q7 o q7t c
        rw [w7] at z
        cases z
    replace K9 := K9.trans g13.wide
    replace ta9 := ta9.keep g13
    clear g1 s2 s3 s4 s5 s6 s7 s46 s47 g7 g10 g13 z1 z2 z4 z5 z8 z9 z11 z12 t1 t2 t3 t4 t5 hk
    generalize upd (upd F13 q6 (.lst [.ref q4, .ref q5])) q7 (.lst ([.ref q1, .ref q2] ++ [.ref q4, .ref q5])) = FW at u1 u2 u3 u4 t7 K9 ta9 ⊢
    -- duos.append(..)
    refine ⟨_, rfl, .inl ⟨rfl, _, SqL.of t7⟩, ?_⟩
    refine ⟨.str "a", .s "a", rfl, ⟨rfl, by rw [sizeLine_eq]; decide⟩, .inl ⟨"a", rfl, fun q8 w8 => ?_⟩⟩
    refine ⟨.str "ab", .s "ab", rfl, ⟨rfl, by rw [sizeLine_eq]; decide⟩, .inl ⟨"ab", rfl, fun q9 w9 => ?_⟩⟩
    have s8 := (Kp.refl (T := T0) FW).new (o := .tup [.int (("a" : Str).length : Nat), .str "a"]) w8
    have s9 := (Kp.refl (T := T0) (upd FW q8 (.tup [.int (("a" : Str).length : Nat), .str "a"]))).new (o := .tup [.int (("ab" : Str).length : Nat), .str "ab"]) w9
    refine ⟨.tuple [.int (("a" : Str).length : Nat), .str "a"], .tuple [.int (("ab" : Str).length : Nat), .str "ab"], .tup (SqT.of (s9.at0 upd_same)) (.cons (.int _) (.cons (.str _) .nil)), .tup (SqT.of upd_same) (.cons (.int _) (.cons (.str _) .nil)), (by decide +kernel), (fun z => nomatch z), (by decide +kernel), ?_⟩
    rw [key_lt, show (decide ((("a" : Str).length : Int) < (("ab" : Str).length : Int)) || (decide ((("a" : Str).length : Int) = (("ab" : Str).length : Int)) && decide (("a" : Str).cps.toList < ("ab" : Str).cps.toList))) = true by decide +kernel]
    have s89 := s8.trans s9
    generalize upd (upd FW q8 (.tup [.int (("a" : Str).length : Nat), .str "a"])) q9 (.tup [.int (("ab" : Str).length : Nat), .str "ab"]) = FX at s89 ⊢
    refine ⟨(by show 2 ≤ sizeLine; omega), fun q10 w10 => ?_⟩
    have s10 := s89.new (o := .tup [.bl true, .bl true]) w10
    refine ⟨q7, [.ref q1, .ref q2, .ref q4, .ref q5], _, rfl, rfl, s10.at0 t7, (by show 4 < sizeLine; omega), ?_⟩
    have nq : q7 ≠ q10 := ne_of_none (s89.at0 t7) w10
    have sw : Kp (fun z => z = q7) FW (upd (upd FX q10 (.tup [.bl true, .bl true])) q7 (.lst ([.ref q1, .ref q2, .ref q4, .ref q5] ++ [.ref q10]))) := s10.wide.put rfl
    have hT : ∀ z, z = q7 → ∃ xs, FW z = some (.lst xs) := fun z h => by
      rw [h]
      exact ⟨_, t7⟩
    replace u1 := u1.wr sw hT
    replace u2 := u2.wr sw hT
    replace u3 := u3.wr sw hT
    replace u4 := u4.wr sw hT
    have u5 : Duo (upd (upd FX q10 (.tup [.bl true, .bl true])) q7 (.lst ([.ref q1, .ref q2, .ref q4, .ref q5] ++ [.ref q10]))) (.ref q10) := ⟨q10, true, rfl, by rw [upd_ne (fun z => nq z.symm)]; exact upd_same⟩
    have KY := (K9.trans s10.wide).over (o := .lst ([.ref q1, .ref q2, .ref q4, .ref q5] ++ [.ref q10])) f7
    have taY := (ta9.keep s10).over (p := q7) (o := .lst ([.ref q1, .ref q2, .ref q4, .ref q5] ++ [.ref q10])) q7t
    have dY : (upd (upd FX q10 (.tup [.bl true, .bl true])) q7 (.lst ([.ref q1, .ref q2, .ref q4, .ref q5] ++ [.ref q10]))) q7 = some (.lst [.ref q1, .ref q2, .ref q4, .ref q5, .ref q10]) := upd_same
    clear s89 s10 s8 s9 sw K9 ta9
    generalize upd (upd FX q10 (.tup [.bl true, .bl true])) q7 (.lst ([.ref q1, .ref q2, .ref q4, .ref q5] ++ [.ref q10])) = FY at u1 u2 u3 u4 u5 KY taY dY ⊢
    have us5 : ∀ v ∈ [V.ref q1, .ref q2, .ref q4, .ref q5, .ref q10], Duo FY v := by
      intro v m
      simp only [List.mem_cons, List.not_mem_nil, or_false] at m
      rcases m with rfl | rfl | rfl | rfl | rfl
      · exact u1
      · exact u2
      · exact u3
      · exact u4
      · exact u5
    have l5 : [V.ref q1, .ref q2, .ref q4, .ref q5, .ref q10].length = 5 := rfl
    generalize [V.ref q1, .ref q2, .ref q4, .ref q5, .ref q10] = ws at us5 dY l5
    refine ⟨_, rfl, q7, rfl, ⟨_, SqL.of dY⟩, fun D hD => ?_⟩
    refine lc_kp (T := T0) (walk_list (xs := ws)) (i0 := 18) (fun i v => ws[i]? = some v) (fun i us H9 => us = [])
      (fun i H1 v H2 _ y => y) hD id (by rw [l5, PySem.sizeLine_eq]; decide) (wipe1 _ 18) (fun H1 k1 => SqL.of (k1.at0 dY)) rfl (fun i u us H9 Ky Kn hi sx k9 d9 q ky kn => ?_) (fun us H9 k9 d9 lu q => ?_)
    · obtain ⟨a5, b5, rfl, d5⟩ := (us5 u (List.mem_of_getElem? sx)).keep0 k9
      refine ⟨_, rfl, a5, _, 0, _, rfl, rfl, SqT.of d5, rfl, b5, rfl, _, rfl, a5, _, 1, _, rfl, rfl, SqT.of d5, rfl, b5, rfl, rfl, _, rfl, ?_⟩
      rw [decide_eq_true rfl]
      exact iteF (kn _ (Kp.refl _) q)
    subst q
    refine ⟨Nat.zero_le _, fun e he => ?_⟩
    have ge := k9.new (o := .lst []) he
    refine ⟨.list [], .list [], .lst (SqL.of (((Kp.refl (T := T0) H9).new he).at0 d9)) .nil, .lst (SqL.of upd_same) .nil, rfl, rfl, ?_⟩
    rw [show PyData.eqv (.list []) (.list []) = true by decide +kernel]
    refine ⟨_, rfl, iteF ?_⟩
    exact ⟨KY.trans ge.wide, taY.keep ge, _, _, _, _, _, _, _, _, _, _, _, _, _, _, _, _, _, rfl⟩
end
end Lw
namespace Lw
open PySem L2 Gk
abbrev sI0 : Stmt := inClass (topS 2) 0
abbrev sI1 : Stmt := inClass (topS 3) 0
abbrev sI2 : Stmt := inClass (topS 4) 0
abbrev sI3 : Stmt := inClass (topS 5) 0
abbrev sI4 : Stmt := inClass (topS 6) 0
abbrev sI5 : Stmt := inClass (topS 7) 0
abbrev sI6 : Stmt := inClass (topS 8) 0
abbrev sI7 : Stmt := inClass (topS 9) 0
abbrev sI8 : Stmt := inClass (topS 10) 0
abbrev sI9 : Stmt := inClass (topS 11) 0
abbrev sI10 : Stmt := inClass (topS 12) 0
abbrev sI11 : Stmt := inClass (topS 13) 0
abbrev sI12 : Stmt := inClass (topS 14) 0
abbrev sI13 : Stmt := inClass (topS 15) 0
section
variable {P : Program} {w : World} {K : PySem.W.Frag} {mg : Str → Option Value} {base : Heap} {f cc C cda : Addr} {dV kV doc pm ct oc : Value} {an od : Option Addr} {osl ccs csl : Array (Option Value)} {ccl cl : Value} {cdd cld : Option Addr} {vs : Array Value} {tf : Tok} {file : Str}
theorem ok_err0 (lk : K.lookup f = some ⟨oc, od, .func (PySem.W.ksFn "__init__" "BadSchema.__init__" (defArgs sI0) (defBody sI0) (defScope sI0) dV kV doc pm an (.ref cda) ct cc), osl⟩) (hcd : PySem.W.codeIn K (.ref cda) "BadSchema.__init__" = true)
    (hcode : K.lookup cda = some ⟨ccl, cdd, .fields vs, ccs⟩) (hvs : vs[2]? = some (.str file tf)) (hfile : ((P.main.file : Str) == file) = true)
    (htop : (P.main.scope.names.lookup ("super" : Str)).isSome = false) (hcell : K.lookup cc = some ⟨cl, cld, .cell (some (.ref C)), csl⟩) (hsup : mg "super" = none) (hop : PySem.W.nsIn K cStatics "thirdparty.any" = some none)
    (hsi : PySem.W.ks_superIn K C C "__init__" = some (some (.builtin "ValueError.__init__"))) (T : OexC K C) (hno : PySem.W.findIn K (.ref C) "value" = some none) :
    FnOk P w K mg base CX0 1 f (PySem.W.ksFn "__init__" "BadSchema.__init__" (defArgs sI0) (defBody sI0) (defScope sI0) dV kV doc pm an (.ref cda) ct cc) ["self", "value"] (spErr C "value") :=
  fn_sup lk hcd ⟨rfl, rfl, rfl, rfl, rfl, rfl, rfl, by decide +kernel, by decide +kernel, by decide⟩ rfl rfl hcode hvs hfile htop hcell hsup hop hsi T hno rfl ⟨fun _ _ _ _ => rfl, fun _ _ _ _ => rfl, fun _ _ _ _ => ⟨_, rfl⟩, fun _ _ _ _ => rfl, fun _ _ _ _ => rfl⟩ (by decide) (by decide)
theorem ok_err1 (lk : K.lookup f = some ⟨oc, od, .func (PySem.W.ksFn "__init__" "BadPath.__init__" (defArgs sI1) (defBody sI1) (defScope sI1) dV kV doc pm an (.ref cda) ct cc), osl⟩) (hcd : PySem.W.codeIn K (.ref cda) "BadPath.__init__" = true)
    (hcode : K.lookup cda = some ⟨ccl, cdd, .fields vs, ccs⟩) (hvs : vs[2]? = some (.str file tf)) (hfile : ((P.main.file : Str) == file) = true)
    (htop : (P.main.scope.names.lookup ("super" : Str)).isSome = false) (hcell : K.lookup cc = some ⟨cl, cld, .cell (some (.ref C)), csl⟩) (hsup : mg "super" = none) (hop : PySem.W.nsIn K cStatics "thirdparty.any" = some none)
    (hsi : PySem.W.ks_superIn K C C "__init__" = some (some (.builtin "ValueError.__init__"))) (T : OexC K C) (hno : PySem.W.findIn K (.ref C) "value" = some none) :
    FnOk P w K mg base CX0 1 f (PySem.W.ksFn "__init__" "BadPath.__init__" (defArgs sI1) (defBody sI1) (defScope sI1) dV kV doc pm an (.ref cda) ct cc) ["self", "value"] (spErr C "value") :=
  fn_sup lk hcd ⟨rfl, rfl, rfl, rfl, rfl, rfl, rfl, by decide +kernel, by decide +kernel, by decide⟩ rfl rfl hcode hvs hfile htop hcell hsup hop hsi T hno rfl ⟨fun _ _ _ _ => rfl, fun _ _ _ _ => rfl, fun _ _ _ _ => ⟨_, rfl⟩, fun _ _ _ _ => rfl, fun _ _ _ _ => rfl⟩ (by decide) (by decide)
theorem ok_err2 (lk : K.lookup f = some ⟨oc, od, .func (PySem.W.ksFn "__init__" "BadValue.__init__" (defArgs sI2) (defBody sI2) (defScope sI2) dV kV doc pm an (.ref cda) ct cc), osl⟩) (hcd : PySem.W.codeIn K (.ref cda) "BadValue.__init__" = true)
    (hcode : K.lookup cda = some ⟨ccl, cdd, .fields vs, ccs⟩) (hvs : vs[2]? = some (.str file tf)) (hfile : ((P.main.file : Str) == file) = true)
    (htop : (P.main.scope.names.lookup ("super" : Str)).isSome = false) (hcell : K.lookup cc = some ⟨cl, cld, .cell (some (.ref C)), csl⟩) (hsup : mg "super" = none) (hop : PySem.W.nsIn K cStatics "thirdparty.any" = some none)
    (hsi : PySem.W.ks_superIn K C C "__init__" = some (some (.builtin "ValueError.__init__"))) (T : OexC K C) (hno : PySem.W.findIn K (.ref C) "value" = some none) :
    FnOk P w K mg base CX0 1 f (PySem.W.ksFn "__init__" "BadValue.__init__" (defArgs sI2) (defBody sI2) (defScope sI2) dV kV doc pm an (.ref cda) ct cc) ["self", "value"] (spErr C "value") :=
  fn_sup lk hcd ⟨rfl, rfl, rfl, rfl, rfl, rfl, rfl, by decide +kernel, by decide +kernel, by decide⟩ rfl rfl hcode hvs hfile htop hcell hsup hop hsi T hno rfl ⟨fun _ _ _ _ => rfl, fun _ _ _ _ => rfl, fun _ _ _ _ => ⟨_, rfl⟩, fun _ _ _ _ => rfl, fun _ _ _ _ => rfl⟩ (by decide) (by decide)
theorem ok_err3 (lk : K.lookup f = some ⟨oc, od, .func (PySem.W.ksFn "__init__" "BadPaper.__init__" (defArgs sI3) (defBody sI3) (defScope sI3) dV kV doc pm an (.ref cda) ct cc), osl⟩) (hcd : PySem.W.codeIn K (.ref cda) "BadPaper.__init__" = true)
    (hcode : K.lookup cda = some ⟨ccl, cdd, .fields vs, ccs⟩) (hvs : vs[2]? = some (.str file tf)) (hfile : ((P.main.file : Str) == file) = true)
    (htop : (P.main.scope.names.lookup ("super" : Str)).isSome = false) (hcell : K.lookup cc = some ⟨cl, cld, .cell (some (.ref C)), csl⟩) (hsup : mg "super" = none) (hop : PySem.W.nsIn K cStatics "thirdparty.any" = some none)
    (hsi : PySem.W.ks_superIn K C C "__init__" = some (some (.builtin "ValueError.__init__"))) (T : OexC K C) (hno : PySem.W.findIn K (.ref C) "value" = some none) :
    FnOk P w K mg base CX0 1 f (PySem.W.ksFn "__init__" "BadPaper.__init__" (defArgs sI3) (defBody sI3) (defScope sI3) dV kV doc pm an (.ref cda) ct cc) ["self", "value"] (spErr C "value") :=
  fn_sup lk hcd ⟨rfl, rfl, rfl, rfl, rfl, rfl, rfl, by decide +kernel, by decide +kernel, by decide⟩ rfl rfl hcode hvs hfile htop hcell hsup hop hsi T hno rfl ⟨fun _ _ _ _ => rfl, fun _ _ _ _ => rfl, fun _ _ _ _ => ⟨_, rfl⟩, fun _ _ _ _ => rfl, fun _ _ _ _ => rfl⟩ (by decide) (by decide)
theorem ok_err4 (lk : K.lookup f = some ⟨oc, od, .func (PySem.W.ksFn "__init__" "BadStep.__init__" (defArgs sI4) (defBody sI4) (defScope sI4) dV kV doc pm an (.ref cda) ct cc), osl⟩) (hcd : PySem.W.codeIn K (.ref cda) "BadStep.__init__" = true)
    (hcode : K.lookup cda = some ⟨ccl, cdd, .fields vs, ccs⟩) (hvs : vs[2]? = some (.str file tf)) (hfile : ((P.main.file : Str) == file) = true)
    (htop : (P.main.scope.names.lookup ("super" : Str)).isSome = false) (hcell : K.lookup cc = some ⟨cl, cld, .cell (some (.ref C)), csl⟩) (hsup : mg "super" = none) (hop : PySem.W.nsIn K cStatics "thirdparty.any" = some none)
    (hsi : PySem.W.ks_superIn K C C "__init__" = some (some (.builtin "ValueError.__init__"))) (T : OexC K C) (hno : PySem.W.findIn K (.ref C) "value" = some none) :
    FnOk P w K mg base CX0 1 f (PySem.W.ksFn "__init__" "BadStep.__init__" (defArgs sI4) (defBody sI4) (defScope sI4) dV kV doc pm an (.ref cda) ct cc) ["self", "value"] (spErr C "value") :=
  fn_sup lk hcd ⟨rfl, rfl, rfl, rfl, rfl, rfl, rfl, by decide +kernel, by decide +kernel, by decide⟩ rfl rfl hcode hvs hfile htop hcell hsup hop hsi T hno rfl ⟨fun _ _ _ _ => rfl, fun _ _ _ _ => rfl, fun _ _ _ _ => ⟨_, rfl⟩, fun _ _ _ _ => rfl, fun _ _ _ _ => rfl⟩ (by decide) (by decide)
theorem ok_err5 (lk : K.lookup f = some ⟨oc, od, .func (PySem.W.ksFn "__init__" "BadProgram.__init__" (defArgs sI5) (defBody sI5) (defScope sI5) dV kV doc pm an (.ref cda) ct cc), osl⟩) (hcd : PySem.W.codeIn K (.ref cda) "BadProgram.__init__" = true)
    (hcode : K.lookup cda = some ⟨ccl, cdd, .fields vs, ccs⟩) (hvs : vs[2]? = some (.str file tf)) (hfile : ((P.main.file : Str) == file) = true)
    (htop : (P.main.scope.names.lookup ("super" : Str)).isSome = false) (hcell : K.lookup cc = some ⟨cl, cld, .cell (some (.ref C)), csl⟩) (hsup : mg "super" = none) (hop : PySem.W.nsIn K cStatics "thirdparty.any" = some none)
    (hsi : PySem.W.ks_superIn K C C "__init__" = some (some (.builtin "ValueError.__init__"))) (T : OexC K C) (hno : PySem.W.findIn K (.ref C) "value" = some none) :
    FnOk P w K mg base CX0 1 f (PySem.W.ksFn "__init__" "BadProgram.__init__" (defArgs sI5) (defBody sI5) (defScope sI5) dV kV doc pm an (.ref cda) ct cc) ["self", "value"] (spErr C "value") :=
  fn_sup lk hcd ⟨rfl, rfl, rfl, rfl, rfl, rfl, rfl, by decide +kernel, by decide +kernel, by decide⟩ rfl rfl hcode hvs hfile htop hcell hsup hop hsi T hno rfl ⟨fun _ _ _ _ => rfl, fun _ _ _ _ => rfl, fun _ _ _ _ => ⟨_, rfl⟩, fun _ _ _ _ => rfl, fun _ _ _ _ => rfl⟩ (by decide) (by decide)
theorem ok_err6 (lk : K.lookup f = some ⟨oc, od, .func (PySem.W.ksFn "__init__" "BadMask.__init__" (defArgs sI6) (defBody sI6) (defScope sI6) dV kV doc pm an (.ref cda) ct cc), osl⟩) (hcd : PySem.W.codeIn K (.ref cda) "BadMask.__init__" = true)
    (hcode : K.lookup cda = some ⟨ccl, cdd, .fields vs, ccs⟩) (hvs : vs[2]? = some (.str file tf)) (hfile : ((P.main.file : Str) == file) = true)
    (htop : (P.main.scope.names.lookup ("super" : Str)).isSome = false) (hcell : K.lookup cc = some ⟨cl, cld, .cell (some (.ref C)), csl⟩) (hsup : mg "super" = none) (hop : PySem.W.nsIn K cStatics "thirdparty.any" = some none)
    (hsi : PySem.W.ks_superIn K C C "__init__" = some (some (.builtin "ValueError.__init__"))) (T : OexC K C) (hno : PySem.W.findIn K (.ref C) "value" = some none) :
    FnOk P w K mg base CX0 1 f (PySem.W.ksFn "__init__" "BadMask.__init__" (defArgs sI6) (defBody sI6) (defScope sI6) dV kV doc pm an (.ref cda) ct cc) ["self", "value"] (spErr C "value") :=
  fn_sup lk hcd ⟨rfl, rfl, rfl, rfl, rfl, rfl, rfl, by decide +kernel, by decide +kernel, by decide⟩ rfl rfl hcode hvs hfile htop hcell hsup hop hsi T hno rfl ⟨fun _ _ _ _ => rfl, fun _ _ _ _ => rfl, fun _ _ _ _ => ⟨_, rfl⟩, fun _ _ _ _ => rfl, fun _ _ _ _ => rfl⟩ (by decide) (by decide)
theorem ok_err7 (lk : K.lookup f = some ⟨oc, od, .func (PySem.W.ksFn "__init__" "BadText.__init__" (defArgs sI7) (defBody sI7) (defScope sI7) dV kV doc pm an (.ref cda) ct cc), osl⟩) (hcd : PySem.W.codeIn K (.ref cda) "BadText.__init__" = true)
    (hcode : K.lookup cda = some ⟨ccl, cdd, .fields vs, ccs⟩) (hvs : vs[2]? = some (.str file tf)) (hfile : ((P.main.file : Str) == file) = true)
    (htop : (P.main.scope.names.lookup ("super" : Str)).isSome = false) (hcell : K.lookup cc = some ⟨cl, cld, .cell (some (.ref C)), csl⟩) (hsup : mg "super" = none) (hop : PySem.W.nsIn K cStatics "thirdparty.any" = some none)
    (hsi : PySem.W.ks_superIn K C C "__init__" = some (some (.builtin "ValueError.__init__"))) (T : OexC K C) (hno : PySem.W.findIn K (.ref C) "value" = some none) :
    FnOk P w K mg base CX0 1 f (PySem.W.ksFn "__init__" "BadText.__init__" (defArgs sI7) (defBody sI7) (defScope sI7) dV kV doc pm an (.ref cda) ct cc) ["self", "value"] (spErr C "value") :=
  fn_sup lk hcd ⟨rfl, rfl, rfl, rfl, rfl, rfl, rfl, by decide +kernel, by decide +kernel, by decide⟩ rfl rfl hcode hvs hfile htop hcell hsup hop hsi T hno rfl ⟨fun _ _ _ _ => rfl, fun _ _ _ _ => rfl, fun _ _ _ _ => ⟨_, rfl⟩, fun _ _ _ _ => rfl, fun _ _ _ _ => rfl⟩ (by decide) (by decide)
theorem ok_err8 (lk : K.lookup f = some ⟨oc, od, .func (PySem.W.ksFn "__init__" "BadCommand.__init__" (defArgs sI8) (defBody sI8) (defScope sI8) dV kV doc pm an (.ref cda) ct cc), osl⟩) (hcd : PySem.W.codeIn K (.ref cda) "BadCommand.__init__" = true)
    (hcode : K.lookup cda = some ⟨ccl, cdd, .fields vs, ccs⟩) (hvs : vs[2]? = some (.str file tf)) (hfile : ((P.main.file : Str) == file) = true)
    (htop : (P.main.scope.names.lookup ("super" : Str)).isSome = false) (hcell : K.lookup cc = some ⟨cl, cld, .cell (some (.ref C)), csl⟩) (hsup : mg "super" = none) (hop : PySem.W.nsIn K cStatics "thirdparty.any" = some none)
    (hsi : PySem.W.ks_superIn K C C "__init__" = some (some (.builtin "ValueError.__init__"))) (T : OexC K C) (hno : PySem.W.findIn K (.ref C) "command" = some none) :
    FnOk P w K mg base CX0 1 f (PySem.W.ksFn "__init__" "BadCommand.__init__" (defArgs sI8) (defBody sI8) (defScope sI8) dV kV doc pm an (.ref cda) ct cc) ["self", "command"] (spErr C "command") :=
  fn_sup lk hcd ⟨rfl, rfl, rfl, rfl, rfl, rfl, rfl, by decide +kernel, by decide +kernel, by decide⟩ rfl rfl hcode hvs hfile htop hcell hsup hop hsi T hno rfl ⟨fun _ _ _ _ => rfl, fun _ _ _ _ => rfl, fun _ _ _ _ => ⟨_, rfl⟩, fun _ _ _ _ => rfl, fun _ _ _ _ => rfl⟩ (by decide) (by decide)
theorem ok_err9 (lk : K.lookup f = some ⟨oc, od, .func (PySem.W.ksFn "__init__" "Unset.__init__" (defArgs sI9) (defBody sI9) (defScope sI9) dV kV doc pm an (.ref cda) ct cc), osl⟩) (hcd : PySem.W.codeIn K (.ref cda) "Unset.__init__" = true)
    (hcode : K.lookup cda = some ⟨ccl, cdd, .fields vs, ccs⟩) (hvs : vs[2]? = some (.str file tf)) (hfile : ((P.main.file : Str) == file) = true)
    (htop : (P.main.scope.names.lookup ("super" : Str)).isSome = false) (hcell : K.lookup cc = some ⟨cl, cld, .cell (some (.ref C)), csl⟩) (hsup : mg "super" = none) (hop : PySem.W.nsIn K cStatics "thirdparty.any" = some none)
    (hsi : PySem.W.ks_superIn K C C "__init__" = some (some (.builtin "ValueError.__init__"))) (T : OexC K C) (hno : PySem.W.findIn K (.ref C) "path" = some none) :
    FnOk P w K mg base CX0 1 f (PySem.W.ksFn "__init__" "Unset.__init__" (defArgs sI9) (defBody sI9) (defScope sI9) dV kV doc pm an (.ref cda) ct cc) ["self", "path"] (spErr C "path") :=
  fn_sup lk hcd ⟨rfl, rfl, rfl, rfl, rfl, rfl, rfl, by decide +kernel, by decide +kernel, by decide⟩ rfl rfl hcode hvs hfile htop hcell hsup hop hsi T hno rfl ⟨fun _ _ _ _ => rfl, fun _ _ _ _ => rfl, fun _ _ _ _ => ⟨_, rfl⟩, fun _ _ _ _ => rfl, fun _ _ _ _ => rfl⟩ (by decide) (by decide)
theorem ok_err10 (lk : K.lookup f = some ⟨oc, od, .func (PySem.W.ksFn "__init__" "Lost.__init__" (defArgs sI10) (defBody sI10) (defScope sI10) dV kV doc pm an (.ref cda) ct cc), osl⟩) (hcd : PySem.W.codeIn K (.ref cda) "Lost.__init__" = true)
    (hcode : K.lookup cda = some ⟨ccl, cdd, .fields vs, ccs⟩) (hvs : vs[2]? = some (.str file tf)) (hfile : ((P.main.file : Str) == file) = true)
    (htop : (P.main.scope.names.lookup ("super" : Str)).isSome = false) (hcell : K.lookup cc = some ⟨cl, cld, .cell (some (.ref C)), csl⟩) (hsup : mg "super" = none) (hop : PySem.W.nsIn K cStatics "thirdparty.any" = some none)
    (hsi : PySem.W.ks_superIn K C C "__init__" = some (some (.builtin "ValueError.__init__"))) (T : OexC K C) (hno : PySem.W.findIn K (.ref C) "pair" = some none) :
    FnOk P w K mg base CX0 1 f (PySem.W.ksFn "__init__" "Lost.__init__" (defArgs sI10) (defBody sI10) (defScope sI10) dV kV doc pm an (.ref cda) ct cc) ["self", "pair"] (spErr C "pair") :=
  fn_sup lk hcd ⟨rfl, rfl, rfl, rfl, rfl, rfl, rfl, by decide +kernel, by decide +kernel, by decide⟩ rfl rfl hcode hvs hfile htop hcell hsup hop hsi T hno rfl ⟨fun _ _ _ _ => rfl, fun _ _ _ _ => rfl, fun _ _ _ _ => ⟨_, rfl⟩, fun _ _ _ _ => rfl, fun _ _ _ _ => rfl⟩ (by decide) (by decide)
theorem ok_err11 (lk : K.lookup f = some ⟨oc, od, .func (PySem.W.ksFn "__init__" "Refused.__init__" (defArgs sI11) (defBody sI11) (defScope sI11) dV kV doc pm an (.ref cda) ct cc), osl⟩) (hcd : PySem.W.codeIn K (.ref cda) "Refused.__init__" = true)
    (hcode : K.lookup cda = some ⟨ccl, cdd, .fields vs, ccs⟩) (hvs : vs[2]? = some (.str file tf)) (hfile : ((P.main.file : Str) == file) = true)
    (htop : (P.main.scope.names.lookup ("super" : Str)).isSome = false) (hcell : K.lookup cc = some ⟨cl, cld, .cell (some (.ref C)), csl⟩) (hsup : mg "super" = none) (hop : PySem.W.nsIn K cStatics "thirdparty.any" = some none)
    (hsi : PySem.W.ks_superIn K C C "__init__" = some (some (.builtin "ValueError.__init__"))) (T : OexC K C) (hno : PySem.W.findIn K (.ref C) "number" = some none) :
    FnOk P w K mg base CX0 1 f (PySem.W.ksFn "__init__" "Refused.__init__" (defArgs sI11) (defBody sI11) (defScope sI11) dV kV doc pm an (.ref cda) ct cc) ["self", "number"] (spErr C "number") :=
  fn_sup lk hcd ⟨rfl, rfl, rfl, rfl, rfl, rfl, rfl, by decide +kernel, by decide +kernel, by decide⟩ rfl rfl hcode hvs hfile htop hcell hsup hop hsi T hno rfl ⟨fun _ _ _ _ => rfl, fun _ _ _ _ => rfl, fun _ _ _ _ => ⟨_, rfl⟩, fun _ _ _ _ => rfl, fun _ _ _ _ => rfl⟩ (by decide) (by decide)
theorem ok_err12 (lk : K.lookup f = some ⟨oc, od, .func (PySem.W.ksFn "__init__" "UnknownNumber.__init__" (defArgs sI12) (defBody sI12) (defScope sI12) dV kV doc pm an (.ref cda) ct cc), osl⟩) (hcd : PySem.W.codeIn K (.ref cda) "UnknownNumber.__init__" = true)
    (hcode : K.lookup cda = some ⟨ccl, cdd, .fields vs, ccs⟩) (hvs : vs[2]? = some (.str file tf)) (hfile : ((P.main.file : Str) == file) = true)
    (htop : (P.main.scope.names.lookup ("super" : Str)).isSome = false) (hcell : K.lookup cc = some ⟨cl, cld, .cell (some (.ref C)), csl⟩) (hsup : mg "super" = none) (hop : PySem.W.nsIn K cStatics "thirdparty.any" = some none)
    (hsi : PySem.W.ks_superIn K C C "__init__" = some (some (.builtin "ValueError.__init__"))) (T : OexC K C) (hno : PySem.W.findIn K (.ref C) "number" = some none) :
    FnOk P w K mg base CX0 1 f (PySem.W.ksFn "__init__" "UnknownNumber.__init__" (defArgs sI12) (defBody sI12) (defScope sI12) dV kV doc pm an (.ref cda) ct cc) ["self", "number"] (spErr C "number") :=
  fn_sup lk hcd ⟨rfl, rfl, rfl, rfl, rfl, rfl, rfl, by decide +kernel, by decide +kernel, by decide⟩ rfl rfl hcode hvs hfile htop hcell hsup hop hsi T hno rfl ⟨fun _ _ _ _ => rfl, fun _ _ _ _ => rfl, fun _ _ _ _ => ⟨_, rfl⟩, fun _ _ _ _ => rfl, fun _ _ _ _ => rfl⟩ (by decide) (by decide)
theorem ok_err13 (lk : K.lookup f = some ⟨oc, od, .func (PySem.W.ksFn "__init__" "NothingToUndo.__init__" (defArgs sI13) (defBody sI13) (defScope sI13) dV kV doc pm an (.ref cda) ct cc), osl⟩) (hcd : PySem.W.codeIn K (.ref cda) "NothingToUndo.__init__" = true)
    (hcode : K.lookup cda = some ⟨ccl, cdd, .fields vs, ccs⟩) (hvs : vs[2]? = some (.str file tf)) (hfile : ((P.main.file : Str) == file) = true)
    (htop : (P.main.scope.names.lookup ("super" : Str)).isSome = false) (hcell : K.lookup cc = some ⟨cl, cld, .cell (some (.ref C)), csl⟩) (hsup : mg "super" = none) (hop : PySem.W.nsIn K cStatics "thirdparty.any" = some none)
    (hsi : PySem.W.ks_superIn K C C "__init__" = some (some (.builtin "ValueError.__init__"))) (T : OexC K C) (hno : PySem.W.findIn K (.ref C) "many" = some none) :
    FnOk P w K mg base CX0 1 f (PySem.W.ksFn "__init__" "NothingToUndo.__init__" (defArgs sI13) (defBody sI13) (defScope sI13) dV kV doc pm an (.ref cda) ct cc) ["self", "many"] (spErr C "many") :=
  fn_sup lk hcd ⟨rfl, rfl, rfl, rfl, rfl, rfl, rfl, by decide +kernel, by decide +kernel, by decide⟩ rfl rfl hcode hvs hfile htop hcell hsup hop hsi T hno rfl ⟨fun _ _ _ _ => rfl, fun _ _ _ _ => rfl, fun _ _ _ _ => ⟨_, rfl⟩, fun _ _ _ _ => rfl, fun _ _ _ _ => rfl⟩ (by decide) (by decide)
end
/-- an error class below CM, as the written part has it -/
structure Ec (K : PySem.W.Frag) (CM C : Addr) : Prop where
  cl : ∃ nm q N bs sn sub ab col dd k0 k1 k2 k3 k5, K.lookup C = some (excClassObj nm q C N bs (.ref CM :: PySem.HandSPX.veTail) true sn sub ab col dd k0 k1 k2 k3 k5 "ValueError.__new__")
  ty : PySem.W.typeIn K (.ref C) = some (.type "type")
theorem Ec.cls {K : PySem.W.Frag} {CM C : Addr} (h : Ec K CM C) : ∃ cd : ClassData, PySem.W.clsIn K C = some cd ∧ cd.mro = .ref C :: .ref CM :: PySem.HandSPX.veTail := by
  obtain ⟨nm, q, N, bs, sn, sub, ab, col, dd, k0, k1, k2, k3, k5, hC⟩ := h.cl
  exact ⟨{ name := nm, bases := bs, mro := .ref C :: .ref CM :: PySem.HandSPX.veTail, ns := N, qualname := q, hasDict := true, slotNames := sn, subclasses := sub, abstract := ab, collection := col, hasDel := false }, by unfold PySem.W.clsIn; rw [hC] <;> rfl, rfl⟩
theorem kit_ref {K : PySem.W.Frag} {CM C C2 : Addr} (h : Ec K CM C) (p : ((PySem.W.clsIn K C2).isSome && PySem.W.typeIn K (.ref C2) == some (.type "type")) = true) : PySem.W.kitOne K (.ref C) (.ref C2) = some (decide (C2 = C) || decide (C2 = CM)) := by
  obtain ⟨cd, hc, hm⟩ := h.cls
  have e1 : ∀ a b : Addr, (Value.ref a == Value.ref b) = decide (a = b) := fun a b => by
    by_cases c : a = b
    · rw [c, decide_eq_true rfl, beq_self_eq_true]
    · rw [decide_eq_false c]
      exact beq_eq_false_iff_ne.mpr fun z => c (Value.ref.inj z)
  have ev : PySem.HandSPX.veTail.contains (Value.ref C2) = false := by
    unfold PySem.HandSPX.veTail
    simp
  unfold PySem.W.kitOne
  by_cases c : (Value.ref C == Value.ref C2) = true
  · rw [if_pos c]
    have z : C = C2 := Value.ref.inj (beq_iff_eq.mp c)
    rw [z, decide_eq_true rfl, Bool.true_or]
  · rw [if_neg c]
    unfold PySem.W.kitCls
    dsimp only
    rw [if_pos p]
    unfold PySem.W.subIn
    dsimp only
    unfold PySem.W.mroIn
    rw [hc, Option.bind_some, hm, if_neg (show ¬ (List.isEmpty (Value.ref C :: Value.ref CM :: PySem.HandSPX.veTail) = true) from Bool.false_ne_true), List.contains_cons, List.contains_cons, ev, e1, e1, Bool.or_false]
theorem Ec.plain {K : PySem.W.Frag} {CM C : Addr} (h : Ec K CM C) : ((PySem.W.clsIn K C).isSome && PySem.W.typeIn K (.ref C) == some (.type "type")) = true := by
  obtain ⟨cd, hc, _⟩ := h.cls
  rw [hc, h.ty]
  exact (Bool.true_and _).trans (beq_self_eq_true _)
theorem paired_of {α β : Type} {R : α → β → Prop} : ∀ {xs : List α} {ys : List β}, xs.length = ys.length → (∀ (j : Nat) x y, xs[j]? = some x → ys[j]? = some y → R x y) → Paired R xs ys
  | [], [], _, _ => .nil
  | [], _ :: _, h, _ => nomatch h
  | _ :: _, [], h, _ => nomatch h
  | x :: xs, y :: ys, h, r => .cons (r 0 x y rfl rfl) (paired_of (Nat.succ.inj h) fun j a b ha hb => r (j + 1) a b (by rw [List.getElem?_cons_succ]; exact ha) (by rw [List.getElem?_cons_succ]; exact hb))
theorem kinds_of {K : PySem.W.Frag} {CM : Addr} {CS : List (Addr × Str)} (l : CS.length = 14) (nd : (CM :: CS.map (·.1)).Nodup) (all : ∀ c ∈ CS, Ec K CM c.1 ∧ OexC K c.1 ∧ IsC K c.1) (pm : ((PySem.W.clsIn K CM).isSome && PySem.W.typeIn K (.ref CM) == some (.type "type")) = true) :
    ∀ (i : Nat) (c : Addr × Str), CS[i]? = some c → OexC K c.1 ∧ IsC K c.1 ∧ PySem.W.kitOne K (.ref c.1) (.ref CM) = some true ∧ Paired (fun (q : Addr × Str) b => PySem.W.kitOne K (.ref c.1) (.ref q.1) = some b) CS (kb i) := by
  intro i c hc
  obtain ⟨ec, T, Z⟩ := all c (List.mem_of_getElem? hc)
  obtain ⟨nm, nd2⟩ := List.nodup_cons.mp nd
  refine ⟨T, Z, by rw [kit_ref ec pm, decide_eq_true (rfl : CM = CM), Bool.or_true], paired_of (by rw [l]; unfold kb; rw [List.length_map, List.length_range]) fun j q b hq hb => ?_⟩
  obtain ⟨eq, _, _⟩ := all q (List.mem_of_getElem? hq)
  have hne : ¬ q.1 = CM := fun z => nm (by rw [← z]; exact List.mem_map.mpr ⟨q, List.mem_of_getElem? hq, rfl⟩)
  rw [kit_ref ec eq.plain, decide_eq_false hne, Bool.or_false]
  unfold kb at hb
  rw [List.getElem?_map] at hb
  have jl : j < 14 := by rw [← l]; exact (List.getElem?_eq_some_iff.mp hq).1
  rw [List.getElem?_range jl] at hb
  rw [← Option.some.inj hb]
  refine congrArg some (decide_eq_decide.mpr ⟨fun z => ?_, fun z => ?_⟩)
  · obtain ⟨j1, j2⟩ := List.getElem?_eq_some_iff.mp hq
    obtain ⟨i1, i2⟩ := List.getElem?_eq_some_iff.mp hc
    have m1 : (CS.map (·.1))[j]? = some q.1 := by rw [List.getElem?_map, hq]; rfl
    have m2 : (CS.map (·.1))[i]? = some q.1 := by rw [List.getElem?_map, hc, z]; rfl
    have a1 := List.getElem?_eq_some_iff.mp m1
    have a2 := List.getElem?_eq_some_iff.mp m2
    obtain ⟨b1, c1⟩ := a1
    obtain ⟨b2, c2⟩ := a2
    rcases Nat.lt_trichotomy j i with h | h | h
    · exact absurd (c1.trans c2.symm) (List.pairwise_iff_getElem.mp nd2 j i b1 b2 h)
    · exact h
    · exact absurd (c2.trans c1.symm) (List.pairwise_iff_getElem.mp nd2 i j b2 b1 h)
  · rw [z, hc] at hq
    rw [Option.some.inj hq]
end Lw
namespace Lw
open PySem L2 Gk
theorem all_mk {l : PySem.W.OpenLaw} {w : World} {K : PySem.W.Frag} {h : Heap} {mg : Str → Option Value} {fa fIl fIn fTx fNu fFl fKe fTa fPi fOo fAn fKn fOk fMd fNm fKp fLaw : Addr} {tLE tMO tTE : Tok} {CM C0 fI0 cda0 cc0 C1 fI1 cda1 cc1 C2 fI2 cda2 cc2 C3 fI3 cda3 cc3 C4 fI4 cda4 cc4 C5 fI5 cda5 cc5 C6 fI6 cda6 cc6 C7 fI7 cda7 cc7 C8 fI8 cda8 cc8 C9 fI9 cda9 cc9 C10 fI10 cda10 cc10 C11 fI11 cda11 cc11 C12 fI12 cda12 cc12 C13 fI13 cda13 cc13 : Addr} {cdM : ClassData} {nm0 qn0 fi0 nm1 qn1 fi1 nm2 qn2 fi2 nm3 qn3 fi3 nm4 qn4 fi4 nm5 qn5 fi5 nm6 qn6 fi6 nm7 qn7 fi7 nm8 qn8 fi8 nm9 qn9 fi9 nm10 qn10 fi10 nm11 qn11 fi11 nm12 qn12 fi12 nm13 qn13 fi13 : Str} {ns0 ns1 ns2 ns3 ns4 ns5 ns6 ns7 ns8 ns9 ns10 ns11 ns12 ns13 : Addr} {bs0 sub0 bs1 sub1 bs2 sub2 bs3 sub3 bs4 sub4 bs5 sub5 bs6 sub6 bs7 sub7 bs8 sub8 bs9 sub9 bs10 sub10 bs11 sub11 bs12 sub12 bs13 sub13 : List Value} {sn0 sn1 sn2 sn3 sn4 sn5 sn6 sn7 sn8 sn9 sn10 sn11 sn12 sn13 : List Str} {ab0 ab1 ab2 ab3 ab4 ab5 ab6 ab7 ab8 ab9 ab10 ab11 ab12 ab13 : Bool} {col0 col1 col2 col3 col4 col5 col6 col7 col8 col9 col10 col11 col12 col13 : Option Bool} {dd0 od0 an0 cdd0 cld0 dd1 od1 an1 cdd1 cld1 dd2 od2 an2 cdd2 cld2 dd3 od3 an3 cdd3 cld3 dd4 od4 an4 cdd4 cld4 dd5 od5 an5 cdd5 cld5 dd6 od6 an6 cdd6 cld6 dd7 od7 an7 cdd7 cld7 dd8 od8 an8 cdd8 cld8 dd9 od9 an9 cdd9 cld9 dd10 od10 an10 cdd10 cld10 dd11 od11 an11 cdd11 cld11 dd12 od12 an12 cdd12 cld12 dd13 od13 an13 cdd13 cld13 : Option Addr} {ka0 kb0 kc0 kd0 ke0 ka1 kb1 kc1 kd1 ke1 ka2 kb2 kc2 kd2 ke2 ka3 kb3 kc3 kd3 ke3 ka4 kb4 kc4 kd4 ke4 ka5 kb5 kc5 kd5 ke5 ka6 kb6 kc6 kd6 ke6 ka7 kb7 kc7 kd7 ke7 ka8 kb8 kc8 kd8 ke8 ka9 kb9 kc9 kd9 ke9 ka10 kb10 kc10 kd10 ke10 ka11 kb11 kc11 kd11 ke11 ka12 kb12 kc12 kd12 ke12 ka13 kb13 kc13 kd13 ke13 : Option Value} {oc0 kV0 dc0 pm0 ct0 ccl0 cl0 oc1 kV1 dc1 pm1 ct1 ccl1 cl1 oc2 kV2 dc2 pm2 ct2 ccl2 cl2 oc3 kV3 dc3 pm3 ct3 ccl3 cl3 oc4 kV4 dc4 pm4 ct4 ccl4 cl4 oc5 kV5 dc5 pm5 ct5 ccl5 cl5 oc6 kV6 dc6 pm6 ct6 ccl6 cl6 oc7 kV7 dc7 pm7 ct7 ccl7 cl7 oc8 kV8 dc8 pm8 ct8 ccl8 cl8 oc9 kV9 dc9 pm9 ct9 ccl9 cl9 oc10 kV10 dc10 pm10 ct10 ccl10 cl10 oc11 kV11 dc11 pm11 ct11 ccl11 cl11 oc12 kV12 dc12 pm12 ct12 ccl12 cl12 oc13 kV13 dc13 pm13 ct13 ccl13 cl13 : Value} {sl0 ccs0 csl0 sl1 ccs1 csl1 sl2 ccs2 csl2 sl3 ccs3 csl3 sl4 ccs4 csl4 sl5 ccs5 csl5 sl6 ccs6 csl6 sl7 ccs7 csl7 sl8 ccs8 csl8 sl9 ccs9 csl9 sl10 ccs10 csl10 sl11 ccs11 csl11 sl12 ccs12 csl12 sl13 ccs13 csl13 : Array (Option Value)} {vs0 vs1 vs2 vs3 vs4 vs5 vs6 vs7 vs8 vs9 vs10 vs11 vs12 vs13 : Array Value} {tf0 tf1 tf2 tf3 tf4 tf5 tf6 tf7 tf8 tf9 tf10 tf11 tf12 tf13 : Tok} {odIl anIl odIn anIn odTx anTx odNu anNu odFl anFl odKe anKe odTa anTa odPi anPi odOo anOo odAn anAn odKn anKn odOk anOk odMd anMd odNm anNm odKp anKp odLaw anLaw : Option Addr} {slIl slIn slTx slNu slFl slKe slTa slPi slOo slAn slKn slOk slMd slNm slKp slLaw : Array (Option Value)} {ocIl kVIl dcIl pmIl cdIl ctIl ocIn kVIn dcIn pmIn cdIn ctIn ocTx kVTx dcTx pmTx cdTx ctTx ocNu kVNu dcNu pmNu cdNu ctNu ocFl kVFl dcFl pmFl cdFl ctFl ocKe kVKe dcKe pmKe cdKe ctKe ocTa kVTa dcTa pmTa cdTa ctTa ocPi kVPi dcPi pmPi cdPi ctPi ocOo kVOo dcOo pmOo cdOo ctOo ocAn kVAn dcAn pmAn cdAn ctAn ocKn kVKn dcKn pmKn cdKn ctKn ocOk kVOk dcOk pmOk cdOk ctOk ocMd kVMd dcMd pmMd cdMd ctMd ocNm kVNm dcNm pmNm cdNm ctNm ocKp kVKp dcKp pmKp cdKp ctKp ocLaw kVLaw dcLaw pmLaw cdLaw ctLaw : Value} (X : K.In h) (G : h.Ns mainGlobals mg) (hfa : mg "law" = some (.ref fa))
    (aIl : PySem.W.nsIn K mainGlobals "is_letters" = some (some (.ref fIl)))
    (lIl : K.lookup fIl = some ⟨ocIl, odIl, .func (PySem.W.fnOf "is_letters" "is_letters" (defArgs sIsLetters) (defBody sIsLetters) (defScope sIsLetters) .none kVIl dcIl pmIl anIl cdIl ctIl), slIl⟩)
    (cIl : PySem.W.codeIn K cdIl "is_letters" = true)
    (kIl : PySem.W.keepIn K (.ref fIl) = true)
    (aIn : PySem.W.nsIn K mainGlobals "is_name" = some (some (.ref fIn)))
    (lIn : K.lookup fIn = some ⟨ocIn, odIn, .func (PySem.W.fnOf "is_name" "is_name" (defArgs sIsName) (defBody sIsName) (defScope sIsName) .none kVIn dcIn pmIn anIn cdIn ctIn), slIn⟩)
    (cIn : PySem.W.codeIn K cdIn "is_name" = true)
    (kIn : PySem.W.keepIn K (.ref fIn) = true)
    (aTx : PySem.W.nsIn K mainGlobals "is_text" = some (some (.ref fTx)))
    (lTx : K.lookup fTx = some ⟨ocTx, odTx, .func (PySem.W.fnOf "is_text" "is_text" (defArgs sIsText) (defBody sIsText) (defScope sIsText) .none kVTx dcTx pmTx anTx cdTx ctTx), slTx⟩)
    (cTx : PySem.W.codeIn K cdTx "is_text" = true)
    (kTx : PySem.W.keepIn K (.ref fTx) = true)
    (aNu : PySem.W.nsIn K mainGlobals "is_number" = some (some (.ref fNu)))
    (lNu : K.lookup fNu = some ⟨ocNu, odNu, .func (PySem.W.fnOf "is_number" "is_number" (defArgs sIsNumber) (defBody sIsNumber) (defScope sIsNumber) .none kVNu dcNu pmNu anNu cdNu ctNu), slNu⟩)
    (cNu : PySem.W.codeIn K cdNu "is_number" = true)
    (kNu : PySem.W.keepIn K (.ref fNu) = true)
    (aFl : PySem.W.nsIn K mainGlobals "is_flag" = some (some (.ref fFl)))
    (lFl : K.lookup fFl = some ⟨ocFl, odFl, .func (PySem.W.fnOf "is_flag" "is_flag" (defArgs sIsFlag) (defBody sIsFlag) (defScope sIsFlag) .none kVFl dcFl pmFl anFl cdFl ctFl), slFl⟩)
    (cFl : PySem.W.codeIn K cdFl "is_flag" = true)
    (kFl : PySem.W.keepIn K (.ref fFl) = true)
    (aKe : PySem.W.nsIn K mainGlobals "value_key" = some (some (.ref fKe)))
    (lKe : K.lookup fKe = some ⟨ocKe, odKe, .func (PySem.W.fnOf "value_key" "value_key" (defArgs sKey) (defBody sKey) (defScope sKey) .none kVKe dcKe pmKe anKe cdKe ctKe), slKe⟩)
    (cKe : PySem.W.codeIn K cdKe "value_key" = true)
    (kKe : PySem.W.keepIn K (.ref fKe) = true)
    (aTa : PySem.W.nsIn K mainGlobals "_law_well" = some (some (.ref fTa)))
    (lTa : K.lookup fTa = some ⟨ocTa, odTa, .func (PySem.W.fnOf "_law_well" "_law_well" (defArgs sTape) (defBody sTape) (defScope sTape) .none kVTa dcTa pmTa anTa cdTa ctTa), slTa⟩)
    (cTa : PySem.W.codeIn K cdTa "_law_well" = true)
    (kTa : PySem.W.keepIn K (.ref fTa) = true)
    (aPi : PySem.W.nsIn K mainGlobals "_law_draw" = some (some (.ref fPi)))
    (lPi : K.lookup fPi = some ⟨ocPi, odPi, .func (PySem.W.fnOf "_law_draw" "_law_draw" (defArgs sPick) (defBody sPick) (defScope sPick) .none kVPi dcPi pmPi anPi cdPi ctPi), slPi⟩)
    (cPi : PySem.W.codeIn K cdPi "_law_draw" = true)
    (kPi : PySem.W.keepIn K (.ref fPi) = true)
    (aOo : PySem.W.nsIn K mainGlobals "_law_choose" = some (some (.ref fOo)))
    (lOo : K.lookup fOo = some ⟨ocOo, odOo, .func (PySem.W.fnOf "_law_choose" "_law_choose" (defArgs sOneOf) (defBody sOneOf) (defScope sOneOf) .none kVOo dcOo pmOo anOo cdOo ctOo), slOo⟩)
    (cOo : PySem.W.codeIn K cdOo "_law_choose" = true)
    (kOo : PySem.W.keepIn K (.ref fOo) = true)
    (aAn : PySem.W.nsIn K mainGlobals "_law_any" = some (some (.ref fAn)))
    (lAn : K.lookup fAn = some ⟨ocAn, odAn, .func (PySem.W.fnOf "_law_any" "_law_any" (defArgs sAny) (defBody sAny) (defScope sAny) .none kVAn dcAn pmAn anAn cdAn ctAn), slAn⟩)
    (cAn : PySem.W.codeIn K cdAn "_law_any" = true)
    (kAn : PySem.W.keepIn K (.ref fAn) = true)
    (aKn : PySem.W.nsIn K mainGlobals "_law_kinds" = some (some (.ref fKn)))
    (lKn : K.lookup fKn = some ⟨ocKn, odKn, .func (PySem.W.fnOf "_law_kinds" "_law_kinds" (defArgs sKinds) (defBody sKinds) (defScope sKinds) .none kVKn dcKn pmKn anKn cdKn ctKn), slKn⟩)
    (cKn : PySem.W.codeIn K cdKn "_law_kinds" = true)
    (kKn : PySem.W.keepIn K (.ref fKn) = true)
    (aOk : PySem.W.nsIn K mainGlobals "_law_of_one_kind" = some (some (.ref fOk)))
    (lOk : K.lookup fOk = some ⟨ocOk, odOk, .func (PySem.W.fnOf "_law_of_one_kind" "_law_of_one_kind" (defArgs sOne) (defBody sOne) (defScope sOne) .none kVOk dcOk pmOk anOk cdOk ctOk), slOk⟩)
    (cOk : PySem.W.codeIn K cdOk "_law_of_one_kind" = true)
    (kOk : PySem.W.keepIn K (.ref fOk) = true)
    (aMd : PySem.W.nsIn K mainGlobals "_law_made" = some (some (.ref fMd)))
    (lMd : K.lookup fMd = some ⟨ocMd, odMd, .func (PySem.W.fnOf "_law_made" "_law_made" (defArgs sMade) (defBody sMade) (defScope sMade) .none kVMd dcMd pmMd anMd cdMd ctMd), slMd⟩)
    (cMd : PySem.W.codeIn K cdMd "_law_made" = true)
    (kMd : PySem.W.keepIn K (.ref fMd) = true)
    (aNm : PySem.W.nsIn K mainGlobals "_law_named" = some (some (.ref fNm)))
    (lNm : K.lookup fNm = some ⟨ocNm, odNm, .func (PySem.W.fnOf "_law_named" "_law_named" (defArgs sNamed) (defBody sNamed) (defScope sNamed) .none kVNm dcNm pmNm anNm cdNm ctNm), slNm⟩)
    (cNm : PySem.W.codeIn K cdNm "_law_named" = true)
    (kNm : PySem.W.keepIn K (.ref fNm) = true)
    (aKp : PySem.W.nsIn K mainGlobals "_law_kept" = some (some (.ref fKp)))
    (lKp : K.lookup fKp = some ⟨ocKp, odKp, .func (PySem.W.fnOf "_law_kept" "_law_kept" (defArgs sKept) (defBody sKept) (defScope sKept) .none kVKp dcKp pmKp anKp cdKp ctKp), slKp⟩)
    (cKp : PySem.W.codeIn K cdKp "_law_kept" = true)
    (kKp : PySem.W.keepIn K (.ref fKp) = true)
    (aLaw : PySem.W.nsIn K mainGlobals "law" = some (some (.ref fLaw)))
    (lLaw : K.lookup fLaw = some ⟨ocLaw, odLaw, .func (PySem.W.fnOf "law" "law" (defArgs sLaw) (defBody sLaw) (defScope sLaw) .none kVLaw dcLaw pmLaw anLaw cdLaw ctLaw), slLaw⟩)
    (cLaw : PySem.W.codeIn K cdLaw "law" = true)
    (kLaw : PySem.W.keepIn K (.ref fLaw) = true)
    (z_isinstance : PySem.W.nsIn K mainGlobals "isinstance" = some none)
    (z_str : PySem.W.nsIn K mainGlobals "str" = some none)
    (z_len : PySem.W.nsIn K mainGlobals "len" = some none)
    (z_all : PySem.W.nsIn K mainGlobals "all" = some none)
    (z_int : PySem.W.nsIn K mainGlobals "int" = some none)
    (z_bool : PySem.W.nsIn K mainGlobals "bool" = some none)
    (z_range : PySem.W.nsIn K mainGlobals "range" = some none)
    (z_tuple : PySem.W.nsIn K mainGlobals "tuple" = some none)
    (z_max : PySem.W.nsIn K mainGlobals "max" = some none)
    (z_min : PySem.W.nsIn K mainGlobals "min" = some none)
    (z_repr : PySem.W.nsIn K mainGlobals "repr" = some none)
    (z_enumerate : PySem.W.nsIn K mainGlobals "enumerate" = some none)
    (z_super : PySem.W.nsIn K mainGlobals "super" = some none)
    (z_ValueError : PySem.W.nsIn K mainGlobals "ValueError" = some none)
    (vLETTERS : PySem.W.nsIn K mainGlobals "LETTERS" = some (some (.str "abcdefghijklmnopqrstuvwxyz" tLE)))
    (vMOST : PySem.W.nsIn K mainGlobals "MOST_NAME" = some (some (.int 8 tMO)))
    (vTEXT : PySem.W.nsIn K mainGlobals "MOST_TEXT" = some (some (.int 12 tTE)))
    (aCM : PySem.W.nsIn K mainGlobals "MaskError" = some (some (.ref CM)))
    (clM : PySem.W.clsIn K CM = some cdM)
    (tyM : PySem.W.typeIn K (.ref CM) = some (.type "type"))
    (hop : PySem.W.nsIn K cStatics "thirdparty.any" = some none)
    (gn : PySem.W.specialIn K (.builtin "object.__class__") "__get__" = some (some (.builtin "getset_descriptor.__get__")))
    (gt : PySem.W.takesIn K (.builtin "object.__class__") = some true)
    (htop : (l.prog.main.scope.names.lookup ("super" : Str)).isSome = false)
    (aC0 : PySem.W.nsIn K mainGlobals "BadSchema" = some (some (.ref C0)))
    (oC0 : K.lookup C0 = some (excClassObj nm0 qn0 C0 ns0 bs0 (.ref CM :: PySem.HandSPX.veTail) true sn0 sub0 ab0 col0 dd0 ka0 kb0 kc0 kd0 ke0 "ValueError.__new__"))
    (sa0 : PySem.W.findIn K (.ref C0) "__setattr__" = some (some (.builtin "object.__setattr__")))
    (ex0 : PySem.W.subIn K (.ref C0) (.type "BaseException") = some true)
    (ty0 : PySem.W.typeIn K (.ref C0) = some (.type "type"))
    (kC0 : PySem.W.keepIn K (.ref C0) = true)
    (ga0 : PySem.W.findIn K (.ref C0) "__getattribute__" = some (some (.builtin "BaseException.__getattribute__")))
    (gg0 : PySem.W.findIn K (.ref C0) "__getattr__" = some none)
    (hd0 : PySem.W.hasDictIn K C0 = true)
    (ca0 : PySem.W.findIn K (.ref C0) "__class__" = some (some (.builtin "object.__class__")))
    (cm0 : PySem.W.mroIn K C0 (.type "object") = some true)
    (no0 : PySem.W.findIn K (.ref C0) "value" = some none)
    (aI0 : PySem.W.findIn K (.ref C0) "__init__" = some (some (.ref fI0)))
    (tI0 : PySem.W.typeIn K (.ref fI0) = some (.type "function"))
    (lI0 : K.lookup fI0 = some ⟨oc0, od0, .func (PySem.W.ksFn "__init__" "BadSchema.__init__" (defArgs sI0) (defBody sI0) (defScope sI0) .none kV0 dc0 pm0 an0 (.ref cda0) ct0 cc0), sl0⟩)
    (cI0 : PySem.W.codeIn K (.ref cda0) "BadSchema.__init__" = true)
    (hc0 : K.lookup cda0 = some ⟨ccl0, cdd0, .fields vs0, ccs0⟩)
    (hv0 : vs0[2]? = some (.str fi0 tf0))
    (hf0 : ((l.prog.main.file : Str) == fi0) = true)
    (hl0 : K.lookup cc0 = some ⟨cl0, cld0, .cell (some (.ref C0)), csl0⟩)
    (hs0 : PySem.W.ks_superIn K C0 C0 "__init__" = some (some (.builtin "ValueError.__init__")))
    (aC1 : PySem.W.nsIn K mainGlobals "BadPath" = some (some (.ref C1)))
    (oC1 : K.lookup C1 = some (excClassObj nm1 qn1 C1 ns1 bs1 (.ref CM :: PySem.HandSPX.veTail) true sn1 sub1 ab1 col1 dd1 ka1 kb1 kc1 kd1 ke1 "ValueError.__new__"))
    (sa1 : PySem.W.findIn K (.ref C1) "__setattr__" = some (some (.builtin "object.__setattr__")))
    (ex1 : PySem.W.subIn K (.ref C1) (.type "BaseException") = some true)
    (ty1 : PySem.W.typeIn K (.ref C1) = some (.type "type"))
    (kC1 : PySem.W.keepIn K (.ref C1) = true)
    (ga1 : PySem.W.findIn K (.ref C1) "__getattribute__" = some (some (.builtin "BaseException.__getattribute__")))
    (gg1 : PySem.W.findIn K (.ref C1) "__getattr__" = some none)
    (hd1 : PySem.W.hasDictIn K C1 = true)
    (ca1 : PySem.W.findIn K (.ref C1) "__class__" = some (some (.builtin "object.__class__")))
    (cm1 : PySem.W.mroIn K C1 (.type "object") = some true)
    (no1 : PySem.W.findIn K (.ref C1) "value" = some none)
    (aI1 : PySem.W.findIn K (.ref C1) "__init__" = some (some (.ref fI1)))
    (tI1 : PySem.W.typeIn K (.ref fI1) = some (.type "function"))
    (lI1 : K.lookup fI1 = some ⟨oc1, od1, .func (PySem.W.ksFn "__init__" "BadPath.__init__" (defArgs sI1) (defBody sI1) (defScope sI1) .none kV1 dc1 pm1 an1 (.ref cda1) ct1 cc1), sl1⟩)
    (cI1 : PySem.W.codeIn K (.ref cda1) "BadPath.__init__" = true)
    (hc1 : K.lookup cda1 = some ⟨ccl1, cdd1, .fields vs1, ccs1⟩)
    (hv1 : vs1[2]? = some (.str fi1 tf1))
    (hf1 : ((l.prog.main.file : Str) == fi1) = true)
    (hl1 : K.lookup cc1 = some ⟨cl1, cld1, .cell (some (.ref C1)), csl1⟩)
    (hs1 : PySem.W.ks_superIn K C1 C1 "__init__" = some (some (.builtin "ValueError.__init__")))
    (aC2 : PySem.W.nsIn K mainGlobals "BadValue" = some (some (.ref C2)))
    (oC2 : K.lookup C2 = some (excClassObj nm2 qn2 C2 ns2 bs2 (.ref CM :: PySem.HandSPX.veTail) true sn2 sub2 ab2 col2 dd2 ka2 kb2 kc2 kd2 ke2 "ValueError.__new__"))
    (sa2 : PySem.W.findIn K (.ref C2) "__setattr__" = some (some (.builtin "object.__setattr__")))
    (ex2 : PySem.W.subIn K (.ref C2) (.type "BaseException") = some true)
    (ty2 : PySem.W.typeIn K (.ref C2) = some (.type "type"))
    (kC2 : PySem.W.keepIn K (.ref C2) = true)
    (ga2 : PySem.W.findIn K (.ref C2) "__getattribute__" = some (some (.builtin "BaseException.__getattribute__")))
    (gg2 : PySem.W.findIn K (.ref C2) "__getattr__" = some none)
    (hd2 : PySem.W.hasDictIn K C2 = true)
    (ca2 : PySem.W.findIn K (.ref C2) "__class__" = some (some (.builtin "object.__class__")))
    (cm2 : PySem.W.mroIn K C2 (.type "object") = some true)
    (no2 : PySem.W.findIn K (.ref C2) "value" = some none)
    (aI2 : PySem.W.findIn K (.ref C2) "__init__" = some (some (.ref fI2)))
    (tI2 : PySem.W.typeIn K (.ref fI2) = some (.type "function"))
    (lI2 : K.lookup fI2 = some ⟨oc2, od2, .func (PySem.W.ksFn "__init__" "BadValue.__init__" (defArgs sI2) (defBody sI2) (defScope sI2) .none kV2 dc2 pm2 an2 (.ref cda2) ct2 cc2), sl2⟩)
    (cI2 : PySem.W.codeIn K (.ref cda2) "BadValue.__init__" = true)
    (hc2 : K.lookup cda2 = some ⟨ccl2, cdd2, .fields vs2, ccs2⟩)
    (hv2 : vs2[2]? = some (.str fi2 tf2))
    (hf2 : ((l.prog.main.file : Str) == fi2) = true)
    (hl2 : K.lookup cc2 = some ⟨cl2, cld2, .cell (some (.ref C2)), csl2⟩)
    (hs2 : PySem.W.ks_superIn K C2 C2 "__init__" = some (some (.builtin "ValueError.__init__")))
    (aC3 : PySem.W.nsIn K mainGlobals "BadPaper" = some (some (.ref C3)))
    (oC3 : K.lookup C3 = some (excClassObj nm3 qn3 C3 ns3 bs3 (.ref CM :: PySem.HandSPX.veTail) true sn3 sub3 ab3 col3 dd3 ka3 kb3 kc3 kd3 ke3 "ValueError.__new__"))
    (sa3 : PySem.W.findIn K (.ref C3) "__setattr__" = some (some (.builtin "object.__setattr__")))
    (ex3 : PySem.W.subIn K (.ref C3) (.type "BaseException") = some true)
    (ty3 : PySem.W.typeIn K (.ref C3) = some (.type "type"))
    (kC3 : PySem.W.keepIn K (.ref C3) = true)
    (ga3 : PySem.W.findIn K (.ref C3) "__getattribute__" = some (some (.builtin "BaseException.__getattribute__")))
    (gg3 : PySem.W.findIn K (.ref C3) "__getattr__" = some none)
    (hd3 : PySem.W.hasDictIn K C3 = true)
    (ca3 : PySem.W.findIn K (.ref C3) "__class__" = some (some (.builtin "object.__class__")))
    (cm3 : PySem.W.mroIn K C3 (.type "object") = some true)
    (no3 : PySem.W.findIn K (.ref C3) "value" = some none)
    (aI3 : PySem.W.findIn K (.ref C3) "__init__" = some (some (.ref fI3)))
    (tI3 : PySem.W.typeIn K (.ref fI3) = some (.type "function"))
    (lI3 : K.lookup fI3 = some ⟨oc3, od3, .func (PySem.W.ksFn "__init__" "BadPaper.__init__" (defArgs sI3) (defBody sI3) (defScope sI3) .none kV3 dc3 pm3 an3 (.ref cda3) ct3 cc3), sl3⟩)
    (cI3 : PySem.W.codeIn K (.ref cda3) "BadPaper.__init__" = true)
    (hc3 : K.lookup cda3 = some ⟨ccl3, cdd3, .fields vs3, ccs3⟩)
    (hv3 : vs3[2]? = some (.str fi3 tf3))
    (hf3 : ((l.prog.main.file : Str) == fi3) = true)
    (hl3 : K.lookup cc3 = some ⟨cl3, cld3, .cell (some (.ref C3)), csl3⟩)
    (hs3 : PySem.W.ks_superIn K C3 C3 "__init__" = some (some (.builtin "ValueError.__init__")))
    (aC4 : PySem.W.nsIn K mainGlobals "BadStep" = some (some (.ref C4)))
    (oC4 : K.lookup C4 = some (excClassObj nm4 qn4 C4 ns4 bs4 (.ref CM :: PySem.HandSPX.veTail) true sn4 sub4 ab4 col4 dd4 ka4 kb4 kc4 kd4 ke4 "ValueError.__new__"))
    (sa4 : PySem.W.findIn K (.ref C4) "__setattr__" = some (some (.builtin "object.__setattr__")))
    (ex4 : PySem.W.subIn K (.ref C4) (.type "BaseException") = some true)
    (ty4 : PySem.W.typeIn K (.ref C4) = some (.type "type"))
    (kC4 : PySem.W.keepIn K (.ref C4) = true)
    (ga4 : PySem.W.findIn K (.ref C4) "__getattribute__" = some (some (.builtin "BaseException.__getattribute__")))
    (gg4 : PySem.W.findIn K (.ref C4) "__getattr__" = some none)
    (hd4 : PySem.W.hasDictIn K C4 = true)
    (ca4 : PySem.W.findIn K (.ref C4) "__class__" = some (some (.builtin "object.__class__")))
    (cm4 : PySem.W.mroIn K C4 (.type "object") = some true)
    (no4 : PySem.W.findIn K (.ref C4) "value" = some none)
    (aI4 : PySem.W.findIn K (.ref C4) "__init__" = some (some (.ref fI4)))
    (tI4 : PySem.W.typeIn K (.ref fI4) = some (.type "function"))
    (lI4 : K.lookup fI4 = some ⟨oc4, od4, .func (PySem.W.ksFn "__init__" "BadStep.__init__" (defArgs sI4) (defBody sI4) (defScope sI4) .none kV4 dc4 pm4 an4 (.ref cda4) ct4 cc4), sl4⟩)
    (cI4 : PySem.W.codeIn K (.ref cda4) "BadStep.__init__" = true)
    (hc4 : K.lookup cda4 = some ⟨ccl4, cdd4, .fields vs4, ccs4⟩)
    (hv4 : vs4[2]? = some (.str fi4 tf4))
    (hf4 : ((l.prog.main.file : Str) == fi4) = true)
    (hl4 : K.lookup cc4 = some ⟨cl4, cld4, .cell (some (.ref C4)), csl4⟩)
    (hs4 : PySem.W.ks_superIn K C4 C4 "__init__" = some (some (.builtin "ValueError.__init__")))
    (aC5 : PySem.W.nsIn K mainGlobals "BadProgram" = some (some (.ref C5)))
    (oC5 : K.lookup C5 = some (excClassObj nm5 qn5 C5 ns5 bs5 (.ref CM :: PySem.HandSPX.veTail) true sn5 sub5 ab5 col5 dd5 ka5 kb5 kc5 kd5 ke5 "ValueError.__new__"))
    (sa5 : PySem.W.findIn K (.ref C5) "__setattr__" = some (some (.builtin "object.__setattr__")))
    (ex5 : PySem.W.subIn K (.ref C5) (.type "BaseException") = some true)
    (ty5 : PySem.W.typeIn K (.ref C5) = some (.type "type"))
    (kC5 : PySem.W.keepIn K (.ref C5) = true)
    (ga5 : PySem.W.findIn K (.ref C5) "__getattribute__" = some (some (.builtin "BaseException.__getattribute__")))
    (gg5 : PySem.W.findIn K (.ref C5) "__getattr__" = some none)
    (hd5 : PySem.W.hasDictIn K C5 = true)
    (ca5 : PySem.W.findIn K (.ref C5) "__class__" = some (some (.builtin "object.__class__")))
    (cm5 : PySem.W.mroIn K C5 (.type "object") = some true)
    (no5 : PySem.W.findIn K (.ref C5) "value" = some none)
    (aI5 : PySem.W.findIn K (.ref C5) "__init__" = some (some (.ref fI5)))
    (tI5 : PySem.W.typeIn K (.ref fI5) = some (.type "function"))
    (lI5 : K.lookup fI5 = some ⟨oc5, od5, .func (PySem.W.ksFn "__init__" "BadProgram.__init__" (defArgs sI5) (defBody sI5) (defScope sI5) .none kV5 dc5 pm5 an5 (.ref cda5) ct5 cc5), sl5⟩)
    (cI5 : PySem.W.codeIn K (.ref cda5) "BadProgram.__init__" = true)
    (hc5 : K.lookup cda5 = some ⟨ccl5, cdd5, .fields vs5, ccs5⟩)
    (hv5 : vs5[2]? = some (.str fi5 tf5))
    (hf5 : ((l.prog.main.file : Str) == fi5) = true)
    (hl5 : K.lookup cc5 = some ⟨cl5, cld5, .cell (some (.ref C5)), csl5⟩)
    (hs5 : PySem.W.ks_superIn K C5 C5 "__init__" = some (some (.builtin "ValueError.__init__")))
    (aC6 : PySem.W.nsIn K mainGlobals "BadMask" = some (some (.ref C6)))
    (oC6 : K.lookup C6 = some (excClassObj nm6 qn6 C6 ns6 bs6 (.ref CM :: PySem.HandSPX.veTail) true sn6 sub6 ab6 col6 dd6 ka6 kb6 kc6 kd6 ke6 "ValueError.__new__"))
    (sa6 : PySem.W.findIn K (.ref C6) "__setattr__" = some (some (.builtin "object.__setattr__")))
    (ex6 : PySem.W.subIn K (.ref C6) (.type "BaseException") = some true)
    (ty6 : PySem.W.typeIn K (.ref C6) = some (.type "type"))
    (kC6 : PySem.W.keepIn K (.ref C6) = true)
    (ga6 : PySem.W.findIn K (.ref C6) "__getattribute__" = some (some (.builtin "BaseException.__getattribute__")))
    (gg6 : PySem.W.findIn K (.ref C6) "__getattr__" = some none)
    (hd6 : PySem.W.hasDictIn K C6 = true)
    (ca6 : PySem.W.findIn K (.ref C6) "__class__" = some (some (.builtin "object.__class__")))
    (cm6 : PySem.W.mroIn K C6 (.type "object") = some true)
    (no6 : PySem.W.findIn K (.ref C6) "value" = some none)
    (aI6 : PySem.W.findIn K (.ref C6) "__init__" = some (some (.ref fI6)))
    (tI6 : PySem.W.typeIn K (.ref fI6) = some (.type "function"))
    (lI6 : K.lookup fI6 = some ⟨oc6, od6, .func (PySem.W.ksFn "__init__" "BadMask.__init__" (defArgs sI6) (defBody sI6) (defScope sI6) .none kV6 dc6 pm6 an6 (.ref cda6) ct6 cc6), sl6⟩)
    (cI6 : PySem.W.codeIn K (.ref cda6) "BadMask.__init__" = true)
    (hc6 : K.lookup cda6 = some ⟨ccl6, cdd6, .fields vs6, ccs6⟩)
    (hv6 : vs6[2]? = some (.str fi6 tf6))
    (hf6 : ((l.prog.main.file : Str) == fi6) = true)
    (hl6 : K.lookup cc6 = some ⟨cl6, cld6, .cell (some (.ref C6)), csl6⟩)
    (hs6 : PySem.W.ks_superIn K C6 C6 "__init__" = some (some (.builtin "ValueError.__init__")))
    (aC7 : PySem.W.nsIn K mainGlobals "BadText" = some (some (.ref C7)))
    (oC7 : K.lookup C7 = some (excClassObj nm7 qn7 C7 ns7 bs7 (.ref CM :: PySem.HandSPX.veTail) true sn7 sub7 ab7 col7 dd7 ka7 kb7 kc7 kd7 ke7 "ValueError.__new__"))
    (sa7 : PySem.W.findIn K (.ref C7) "__setattr__" = some (some (.builtin "object.__setattr__")))
    (ex7 : PySem.W.subIn K (.ref C7) (.type "BaseException") = some true)
    (ty7 : PySem.W.typeIn K (.ref C7) = some (.type "type"))
    (kC7 : PySem.W.keepIn K (.ref C7) = true)
    (ga7 : PySem.W.findIn K (.ref C7) "__getattribute__" = some (some (.builtin "BaseException.__getattribute__")))
    (gg7 : PySem.W.findIn K (.ref C7) "__getattr__" = some none)
    (hd7 : PySem.W.hasDictIn K C7 = true)
    (ca7 : PySem.W.findIn K (.ref C7) "__class__" = some (some (.builtin "object.__class__")))
    (cm7 : PySem.W.mroIn K C7 (.type "object") = some true)
    (no7 : PySem.W.findIn K (.ref C7) "value" = some none)
    (aI7 : PySem.W.findIn K (.ref C7) "__init__" = some (some (.ref fI7)))
    (tI7 : PySem.W.typeIn K (.ref fI7) = some (.type "function"))
    (lI7 : K.lookup fI7 = some ⟨oc7, od7, .func (PySem.W.ksFn "__init__" "BadText.__init__" (defArgs sI7) (defBody sI7) (defScope sI7) .none kV7 dc7 pm7 an7 (.ref cda7) ct7 cc7), sl7⟩)
    (cI7 : PySem.W.codeIn K (.ref cda7) "BadText.__init__" = true)
    (hc7 : K.lookup cda7 = some ⟨ccl7, cdd7, .fields vs7, ccs7⟩)
    (hv7 : vs7[2]? = some (.str fi7 tf7))
    (hf7 : ((l.prog.main.file : Str) == fi7) = true)
    (hl7 : K.lookup cc7 = some ⟨cl7, cld7, .cell (some (.ref C7)), csl7⟩)
    (hs7 : PySem.W.ks_superIn K C7 C7 "__init__" = some (some (.builtin "ValueError.__init__")))
    (aC8 : PySem.W.nsIn K mainGlobals "BadCommand" = some (some (.ref C8)))
    (oC8 : K.lookup C8 = some (excClassObj nm8 qn8 C8 ns8 bs8 (.ref CM :: PySem.HandSPX.veTail) true sn8 sub8 ab8 col8 dd8 ka8 kb8 kc8 kd8 ke8 "ValueError.__new__"))
    (sa8 : PySem.W.findIn K (.ref C8) "__setattr__" = some (some (.builtin "object.__setattr__")))
    (ex8 : PySem.W.subIn K (.ref C8) (.type "BaseException") = some true)
    (ty8 : PySem.W.typeIn K (.ref C8) = some (.type "type"))
    (kC8 : PySem.W.keepIn K (.ref C8) = true)
    (ga8 : PySem.W.findIn K (.ref C8) "__getattribute__" = some (some (.builtin "BaseException.__getattribute__")))
    (gg8 : PySem.W.findIn K (.ref C8) "__getattr__" = some none)
    (hd8 : PySem.W.hasDictIn K C8 = true)
    (ca8 : PySem.W.findIn K (.ref C8) "__class__" = some (some (.builtin "object.__class__")))
    (cm8 : PySem.W.mroIn K C8 (.type "object") = some true)
    (no8 : PySem.W.findIn K (.ref C8) "command" = some none)
    (aI8 : PySem.W.findIn K (.ref C8) "__init__" = some (some (.ref fI8)))
    (tI8 : PySem.W.typeIn K (.ref fI8) = some (.type "function"))
    (lI8 : K.lookup fI8 = some ⟨oc8, od8, .func (PySem.W.ksFn "__init__" "BadCommand.__init__" (defArgs sI8) (defBody sI8) (defScope sI8) .none kV8 dc8 pm8 an8 (.ref cda8) ct8 cc8), sl8⟩)
    (cI8 : PySem.W.codeIn K (.ref cda8) "BadCommand.__init__" = true)
    (hc8 : K.lookup cda8 = some ⟨ccl8, cdd8, .fields vs8, ccs8⟩)
    (hv8 : vs8[2]? = some (.str fi8 tf8))
    (hf8 : ((l.prog.main.file : Str) == fi8) = true)
    (hl8 : K.lookup cc8 = some ⟨cl8, cld8, .cell (some (.ref C8)), csl8⟩)
    (hs8 : PySem.W.ks_superIn K C8 C8 "__init__" = some (some (.builtin "ValueError.__init__")))
    (aC9 : PySem.W.nsIn K mainGlobals "Unset" = some (some (.ref C9)))
    (oC9 : K.lookup C9 = some (excClassObj nm9 qn9 C9 ns9 bs9 (.ref CM :: PySem.HandSPX.veTail) true sn9 sub9 ab9 col9 dd9 ka9 kb9 kc9 kd9 ke9 "ValueError.__new__"))
    (sa9 : PySem.W.findIn K (.ref C9) "__setattr__" = some (some (.builtin "object.__setattr__")))
    (ex9 : PySem.W.subIn K (.ref C9) (.type "BaseException") = some true)
    (ty9 : PySem.W.typeIn K (.ref C9) = some (.type "type"))
    (kC9 : PySem.W.keepIn K (.ref C9) = true)
    (ga9 : PySem.W.findIn K (.ref C9) "__getattribute__" = some (some (.builtin "BaseException.__getattribute__")))
    (gg9 : PySem.W.findIn K (.ref C9) "__getattr__" = some none)
    (hd9 : PySem.W.hasDictIn K C9 = true)
    (ca9 : PySem.W.findIn K (.ref C9) "__class__" = some (some (.builtin "object.__class__")))
    (cm9 : PySem.W.mroIn K C9 (.type "object") = some true)
    (no9 : PySem.W.findIn K (.ref C9) "path" = some none)
    (aI9 : PySem.W.findIn K (.ref C9) "__init__" = some (some (.ref fI9)))
    (tI9 : PySem.W.typeIn K (.ref fI9) = some (.type "function"))
    (lI9 : K.lookup fI9 = some ⟨oc9, od9, .func (PySem.W.ksFn "__init__" "Unset.__init__" (defArgs sI9) (defBody sI9) (defScope sI9) .none kV9 dc9 pm9 an9 (.ref cda9) ct9 cc9), sl9⟩)
    (cI9 : PySem.W.codeIn K (.ref cda9) "Unset.__init__" = true)
    (hc9 : K.lookup cda9 = some ⟨ccl9, cdd9, .fields vs9, ccs9⟩)
    (hv9 : vs9[2]? = some (.str fi9 tf9))
    (hf9 : ((l.prog.main.file : Str) == fi9) = true)
    (hl9 : K.lookup cc9 = some ⟨cl9, cld9, .cell (some (.ref C9)), csl9⟩)
    (hs9 : PySem.W.ks_superIn K C9 C9 "__init__" = some (some (.builtin "ValueError.__init__")))
    (aC10 : PySem.W.nsIn K mainGlobals "Lost" = some (some (.ref C10)))
    (oC10 : K.lookup C10 = some (excClassObj nm10 qn10 C10 ns10 bs10 (.ref CM :: PySem.HandSPX.veTail) true sn10 sub10 ab10 col10 dd10 ka10 kb10 kc10 kd10 ke10 "ValueError.__new__"))
    (sa10 : PySem.W.findIn K (.ref C10) "__setattr__" = some (some (.builtin "object.__setattr__")))
    (ex10 : PySem.W.subIn K (.ref C10) (.type "BaseException") = some true)
    (ty10 : PySem.W.typeIn K (.ref C10) = some (.type "type"))
    (kC10 : PySem.W.keepIn K (.ref C10) = true)
    (ga10 : PySem.W.findIn K (.ref C10) "__getattribute__" = some (some (.builtin "BaseException.__getattribute__")))
    (gg10 : PySem.W.findIn K (.ref C10) "__getattr__" = some none)
    (hd10 : PySem.W.hasDictIn K C10 = true)
    (ca10 : PySem.W.findIn K (.ref C10) "__class__" = some (some (.builtin "object.__class__")))
    (cm10 : PySem.W.mroIn K C10 (.type "object") = some true)
    (no10 : PySem.W.findIn K (.ref C10) "pair" = some none)
    (aI10 : PySem.W.findIn K (.ref C10) "__init__" = some (some (.ref fI10)))
    (tI10 : PySem.W.typeIn K (.ref fI10) = some (.type "function"))
    (lI10 : K.lookup fI10 = some ⟨oc10, od10, .func (PySem.W.ksFn "__init__" "Lost.__init__" (defArgs sI10) (defBody sI10) (defScope sI10) .none kV10 dc10 pm10 an10 (.ref cda10) ct10 cc10), sl10⟩)
    (cI10 : PySem.W.codeIn K (.ref cda10) "Lost.__init__" = true)
    (hc10 : K.lookup cda10 = some ⟨ccl10, cdd10, .fields vs10, ccs10⟩)
    (hv10 : vs10[2]? = some (.str fi10 tf10))
    (hf10 : ((l.prog.main.file : Str) == fi10) = true)
    (hl10 : K.lookup cc10 = some ⟨cl10, cld10, .cell (some (.ref C10)), csl10⟩)
    (hs10 : PySem.W.ks_superIn K C10 C10 "__init__" = some (some (.builtin "ValueError.__init__")))
    (aC11 : PySem.W.nsIn K mainGlobals "Refused" = some (some (.ref C11)))
    (oC11 : K.lookup C11 = some (excClassObj nm11 qn11 C11 ns11 bs11 (.ref CM :: PySem.HandSPX.veTail) true sn11 sub11 ab11 col11 dd11 ka11 kb11 kc11 kd11 ke11 "ValueError.__new__"))
    (sa11 : PySem.W.findIn K (.ref C11) "__setattr__" = some (some (.builtin "object.__setattr__")))
    (ex11 : PySem.W.subIn K (.ref C11) (.type "BaseException") = some true)
    (ty11 : PySem.W.typeIn K (.ref C11) = some (.type "type"))
    (kC11 : PySem.W.keepIn K (.ref C11) = true)
    (ga11 : PySem.W.findIn K (.ref C11) "__getattribute__" = some (some (.builtin "BaseException.__getattribute__")))
    (gg11 : PySem.W.findIn K (.ref C11) "__getattr__" = some none)
    (hd11 : PySem.W.hasDictIn K C11 = true)
    (ca11 : PySem.W.findIn K (.ref C11) "__class__" = some (some (.builtin "object.__class__")))
    (cm11 : PySem.W.mroIn K C11 (.type "object") = some true)
    (no11 : PySem.W.findIn K (.ref C11) "number" = some none)
    (aI11 : PySem.W.findIn K (.ref C11) "__init__" = some (some (.ref fI11)))
    (tI11 : PySem.W.typeIn K (.ref fI11) = some (.type "function"))
    (lI11 : K.lookup fI11 = some ⟨oc11, od11, .func (PySem.W.ksFn "__init__" "Refused.__init__" (defArgs sI11) (defBody sI11) (defScope sI11) .none kV11 dc11 pm11 an11 (.ref cda11) ct11 cc11), sl11⟩)
    (cI11 : PySem.W.codeIn K (.ref cda11) "Refused.__init__" = true)
    (hc11 : K.lookup cda11 = some ⟨ccl11, cdd11, .fields vs11, ccs11⟩)
    (hv11 : vs11[2]? = some (.str fi11 tf11))
    (hf11 : ((l.prog.main.file : Str) == fi11) = true)
    (hl11 : K.lookup cc11 = some ⟨cl11, cld11, .cell (some (.ref C11)), csl11⟩)
    (hs11 : PySem.W.ks_superIn K C11 C11 "__init__" = some (some (.builtin "ValueError.__init__")))
    (aC12 : PySem.W.nsIn K mainGlobals "UnknownNumber" = some (some (.ref C12)))
    (oC12 : K.lookup C12 = some (excClassObj nm12 qn12 C12 ns12 bs12 (.ref CM :: PySem.HandSPX.veTail) true sn12 sub12 ab12 col12 dd12 ka12 kb12 kc12 kd12 ke12 "ValueError.__new__"))
    (sa12 : PySem.W.findIn K (.ref C12) "__setattr__" = some (some (.builtin "object.__setattr__")))
    (ex12 : PySem.W.subIn K (.ref C12) (.type "BaseException") = some true)
    (ty12 : PySem.W.typeIn K (.ref C12) = some (.type "type"))
    (kC12 : PySem.W.keepIn K (.ref C12) = true)
    (ga12 : PySem.W.findIn K (.ref C12) "__getattribute__" = some (some (.builtin "BaseException.__getattribute__")))
    (gg12 : PySem.W.findIn K (.ref C12) "__getattr__" = some none)
    (hd12 : PySem.W.hasDictIn K C12 = true)
    (ca12 : PySem.W.findIn K (.ref C12) "__class__" = some (some (.builtin "object.__class__")))
    (cm12 : PySem.W.mroIn K C12 (.type "object") = some true)
    (no12 : PySem.W.findIn K (.ref C12) "number" = some none)
    (aI12 : PySem.W.findIn K (.ref C12) "__init__" = some (some (.ref fI12)))
    (tI12 : PySem.W.typeIn K (.ref fI12) = some (.type "function"))
    (lI12 : K.lookup fI12 = some ⟨oc12, od12, .func (PySem.W.ksFn "__init__" "UnknownNumber.__init__" (defArgs sI12) (defBody sI12) (defScope sI12) .none kV12 dc12 pm12 an12 (.ref cda12) ct12 cc12), sl12⟩)
    (cI12 : PySem.W.codeIn K (.ref cda12) "UnknownNumber.__init__" = true)
    (hc12 : K.lookup cda12 = some ⟨ccl12, cdd12, .fields vs12, ccs12⟩)
    (hv12 : vs12[2]? = some (.str fi12 tf12))
    (hf12 : ((l.prog.main.file : Str) == fi12) = true)
    (hl12 : K.lookup cc12 = some ⟨cl12, cld12, .cell (some (.ref C12)), csl12⟩)
    (hs12 : PySem.W.ks_superIn K C12 C12 "__init__" = some (some (.builtin "ValueError.__init__")))
    (aC13 : PySem.W.nsIn K mainGlobals "NothingToUndo" = some (some (.ref C13)))
    (oC13 : K.lookup C13 = some (excClassObj nm13 qn13 C13 ns13 bs13 (.ref CM :: PySem.HandSPX.veTail) true sn13 sub13 ab13 col13 dd13 ka13 kb13 kc13 kd13 ke13 "ValueError.__new__"))
    (sa13 : PySem.W.findIn K (.ref C13) "__setattr__" = some (some (.builtin "object.__setattr__")))
    (ex13 : PySem.W.subIn K (.ref C13) (.type "BaseException") = some true)
    (ty13 : PySem.W.typeIn K (.ref C13) = some (.type "type"))
    (kC13 : PySem.W.keepIn K (.ref C13) = true)
    (ga13 : PySem.W.findIn K (.ref C13) "__getattribute__" = some (some (.builtin "BaseException.__getattribute__")))
    (gg13 : PySem.W.findIn K (.ref C13) "__getattr__" = some none)
    (hd13 : PySem.W.hasDictIn K C13 = true)
    (ca13 : PySem.W.findIn K (.ref C13) "__class__" = some (some (.builtin "object.__class__")))
    (cm13 : PySem.W.mroIn K C13 (.type "object") = some true)
    (no13 : PySem.W.findIn K (.ref C13) "many" = some none)
    (aI13 : PySem.W.findIn K (.ref C13) "__init__" = some (some (.ref fI13)))
    (tI13 : PySem.W.typeIn K (.ref fI13) = some (.type "function"))
    (lI13 : K.lookup fI13 = some ⟨oc13, od13, .func (PySem.W.ksFn "__init__" "NothingToUndo.__init__" (defArgs sI13) (defBody sI13) (defScope sI13) .none kV13 dc13 pm13 an13 (.ref cda13) ct13 cc13), sl13⟩)
    (cI13 : PySem.W.codeIn K (.ref cda13) "NothingToUndo.__init__" = true)
    (hc13 : K.lookup cda13 = some ⟨ccl13, cdd13, .fields vs13, ccs13⟩)
    (hv13 : vs13[2]? = some (.str fi13 tf13))
    (hf13 : ((l.prog.main.file : Str) == fi13) = true)
    (hl13 : K.lookup cc13 = some ⟨cl13, cld13, .cell (some (.ref C13)), csl13⟩)
    (hs13 : PySem.W.ks_superIn K C13 C13 "__init__" = some (some (.builtin "ValueError.__init__")))
    (nod : [CM, C0, C1, C2, C3, C4, C5, C6, C7, C8, C9, C10, C11, C12, C13].Nodup)
    : ∃ fd : FuncData, (∀ (s : Shared) (v : Value), BindsTo s fd ⟨[v], []⟩ [("script", v)]) ∧ ∀ base : Heap, K.In base → base.Ns mainGlobals mg → FnG l.prog w K mg base 4 fa fd ["script"] (spLaw K) := by
  have e0 := hfa.symm.trans (PySem.W.mg_of X G aLaw)
  cases e0
  refine ⟨PySem.W.fnOf "law" "law" (defArgs sLaw) (defBody sLaw) (defScope sLaw) .none kVLaw dcLaw pmLaw anLaw cdLaw ctLaw, fun s v => .of_eq rfl, fun base _ _ => ?_⟩
  have m_isinstance := PySem.W.mg_none_of X G z_isinstance
  have m_str := PySem.W.mg_none_of X G z_str
  have m_len := PySem.W.mg_none_of X G z_len
  have m_all := PySem.W.mg_none_of X G z_all
  have m_int := PySem.W.mg_none_of X G z_int
  have m_bool := PySem.W.mg_none_of X G z_bool
  have m_range := PySem.W.mg_none_of X G z_range
  have m_tuple := PySem.W.mg_none_of X G z_tuple
  have m_max := PySem.W.mg_none_of X G z_max
  have m_min := PySem.W.mg_none_of X G z_min
  have m_repr := PySem.W.mg_none_of X G z_repr
  have m_enumerate := PySem.W.mg_none_of X G z_enumerate
  have m_super := PySem.W.mg_none_of X G z_super
  have m_ValueError := PySem.W.mg_none_of X G z_ValueError
  have m_vLETTERS := PySem.W.mg_of X G vLETTERS
  have m_vMOST := PySem.W.mg_of X G vMOST
  have m_vTEXT := PySem.W.mg_of X G vTEXT
  have FIl := fun_mk (st := sIsLetters) lIl cIl kIl
  have bIl := FIl.binds (ps := ["value", "least", "most"]) fun _ _ _ _ _ _ us hl => match us, hl with | [_, _, _], _ => rfl
  have FIn := fun_mk (st := sIsName) lIn cIn kIn
  have bIn := FIn.binds (ps := ["value"]) fun _ _ _ _ _ _ us hl => match us, hl with | [_], _ => rfl
  have FTx := fun_mk (st := sIsText) lTx cTx kTx
  have bTx := FTx.binds (ps := ["value"]) fun _ _ _ _ _ _ us hl => match us, hl with | [_], _ => rfl
  have FNu := fun_mk (st := sIsNumber) lNu cNu kNu
  have bNu := FNu.binds (ps := ["value"]) fun _ _ _ _ _ _ us hl => match us, hl with | [_], _ => rfl
  have FFl := fun_mk (st := sIsFlag) lFl cFl kFl
  have bFl := FFl.binds (ps := ["value"]) fun _ _ _ _ _ _ us hl => match us, hl with | [_], _ => rfl
  have FKe := fun_mk (st := sKey) lKe cKe kKe
  have bKe := FKe.binds (ps := ["value"]) fun _ _ _ _ _ _ us hl => match us, hl with | [_], _ => rfl
  have FTa := fun_mk (st := sTape) lTa cTa kTa
  have bTa := FTa.binds (ps := ["script", "start"]) fun _ _ _ _ _ _ us hl => match us, hl with | [_, _], _ => rfl
  have FPi := fun_mk (st := sPick) lPi cPi kPi
  have bPi := FPi.binds (ps := ["well", "bound"]) fun _ _ _ _ _ _ us hl => match us, hl with | [_, _], _ => rfl
  have FOo := fun_mk (st := sOneOf) lOo cOo kOo
  have bOo := FOo.binds (ps := ["well", "things"]) fun _ _ _ _ _ _ us hl => match us, hl with | [_, _], _ => rfl
  have FAn := fun_mk (st := sAny) lAn cAn kAn
  have bAn := FAn.binds (ps := ["well"]) fun _ _ _ _ _ _ us hl => match us, hl with | [_], _ => rfl
  have FKn := fun_mk (st := sKinds) lKn cKn kKn
  have bKn := FKn.binds (ps := ["error"]) fun _ _ _ _ _ _ us hl => match us, hl with | [_], _ => rfl
  have FOk := fun_mk (st := sOne) lOk cOk kOk
  have bOk := FOk.binds (ps := ["error", "at"]) fun _ _ _ _ _ _ us hl => match us, hl with | [_, _], _ => rfl
  have FMd := fun_mk (st := sMade) lMd cMd kMd
  have bMd := FMd.binds (ps := ["thing"]) fun _ _ _ _ _ _ us hl => match us, hl with | [_], _ => rfl
  have FNm := fun_mk (st := sNamed) lNm cNm kNm
  have bNm := FNm.binds (ps := ["thing"]) fun _ _ _ _ _ _ us hl => match us, hl with | [_], _ => rfl
  have FKp := fun_mk (st := sKept) lKp cKp kKp
  have bKp := FKp.binds (ps := ["errors"]) fun _ _ _ _ _ _ us hl => match us, hl with | [_], _ => rfl
  have FLaw := fun_mk (st := sLaw) lLaw cLaw kLaw
  have TN : TxtN K mg := ⟨m_isinstance, m_str, m_len, m_all, ⟨_, m_vLETTERS⟩, ⟨_, m_vMOST⟩⟩
  have TV : TxtV mg := ⟨m_isinstance, m_str, m_int, m_bool, m_len, ⟨_, m_vTEXT⟩⟩
  have TT : TxtT mg := ⟨m_int, m_len, m_range, m_tuple⟩
  have DIl : Df l.prog w K mg base 1 fIl "is_letters" ["value", "least", "most"] (spIsLetters K) := ⟨⟨_, ok_is_letters FIl TN, bIl⟩, PySem.W.mg_of X G aIl, kIl⟩
  have EIn : D1 l.prog w K mg base 2 fIn "is_name" "value" (spKd K nameK) := ⟨⟨_, name_kd (ok_is_name FIn TN DIl), bIn, fun _ _ => .of_eq rfl⟩, PySem.W.mg_of X G aIn, kIn⟩
  have ETx : D1 l.prog w K mg base 2 fTx "is_text" "value" (spKd K textK) := ⟨⟨_, ok_is_text FTx TV DIl, bTx, fun _ _ => .of_eq rfl⟩, PySem.W.mg_of X G aTx, kTx⟩
  have ENu : D1 l.prog w K mg base 1 fNu "is_number" "value" (spKd K numK) := ⟨⟨_, ok_is_number FNu TV, bNu, fun _ _ => .of_eq rfl⟩, PySem.W.mg_of X G aNu, kNu⟩
  have EFl : D1 l.prog w K mg base 1 fFl "is_flag" "value" (spKd K flagK) := ⟨⟨_, ok_is_flag FFl TV, bFl, fun _ _ => .of_eq rfl⟩, PySem.W.mg_of X G aFl, kFl⟩
  have EKe : D1 l.prog w K mg base 1 fKe "value_key" "value" (spKey K) := ⟨⟨_, ok_key FKe TV, bKe, fun _ _ => .of_eq rfl⟩, PySem.W.mg_of X G aKe, kKe⟩
  have DTa : Df l.prog w K mg base 1 fTa "_law_well" ["script", "start"] (spTape K) := ⟨⟨_, ok_tape FTa TT, bTa⟩, PySem.W.mg_of X G aTa, kTa⟩
  have DPi : Df l.prog w K mg base 1 fPi "_law_draw" ["well", "bound"] (spPick) := ⟨⟨_, ok_pick FPi TT, bPi⟩, PySem.W.mg_of X G aPi, kPi⟩
  have DOo : Df l.prog w K mg base 2 fOo "_law_choose" ["well", "things"] (spOneOf K) := ⟨⟨_, ok_one_of FOo TT DPi, bOo⟩, PySem.W.mg_of X G aOo, kOo⟩
  have DAn : Df l.prog w K mg base 3 fAn "_law_any" ["well"] (spAny2) := ⟨⟨_, ok_any FAn DOo DPi, bAn⟩, PySem.W.mg_of X G aAn, kAn⟩
  have T0 : OexC K C0 := ⟨⟨_, _, _, _, _, _, _, _, _, _, _, _, _, _, _,  oC0, rfl⟩, sa0, ex0, ty0, kC0⟩
  have Z0 : IsC K C0 := ⟨⟨ga0, gg0, ex0, hd0⟩, ca0, gn, gt, cm0⟩
  have V0 : Ec K CM C0 := ⟨⟨_, _, _, _, _, _, _, _, _, _, _, _, _, _,  oC0⟩, ty0⟩
  have X0 : EX l.prog w K mg base "BadSchema" C0 "value" "value" := ⟨⟨T0, PySem.W.mg_of X G aC0, fI0, _, aI0, tI0, ok_err0 lI0 cI0 hc0 hv0 hf0 htop hl0 m_super hop hs0 T0 no0, fun _ _ _ => .of_eq rfl, fun _ _ _ => .of_eq rfl⟩, Z0, no0⟩
  have T1 : OexC K C1 := ⟨⟨_, _, _, _, _, _, _, _, _, _, _, _, _, _, _,  oC1, rfl⟩, sa1, ex1, ty1, kC1⟩
  have Z1 : IsC K C1 := ⟨⟨ga1, gg1, ex1, hd1⟩, ca1, gn, gt, cm1⟩
  have V1 : Ec K CM C1 := ⟨⟨_, _, _, _, _, _, _, _, _, _, _, _, _, _,  oC1⟩, ty1⟩
  have X1 : EX l.prog w K mg base "BadPath" C1 "value" "value" := ⟨⟨T1, PySem.W.mg_of X G aC1, fI1, _, aI1, tI1, ok_err1 lI1 cI1 hc1 hv1 hf1 htop hl1 m_super hop hs1 T1 no1, fun _ _ _ => .of_eq rfl, fun _ _ _ => .of_eq rfl⟩, Z1, no1⟩
  have T2 : OexC K C2 := ⟨⟨_, _, _, _, _, _, _, _, _, _, _, _, _, _, _,  oC2, rfl⟩, sa2, ex2, ty2, kC2⟩
  have Z2 : IsC K C2 := ⟨⟨ga2, gg2, ex2, hd2⟩, ca2, gn, gt, cm2⟩
  have V2 : Ec K CM C2 := ⟨⟨_, _, _, _, _, _, _, _, _, _, _, _, _, _,  oC2⟩, ty2⟩
  have X2 : EX l.prog w K mg base "BadValue" C2 "value" "value" := ⟨⟨T2, PySem.W.mg_of X G aC2, fI2, _, aI2, tI2, ok_err2 lI2 cI2 hc2 hv2 hf2 htop hl2 m_super hop hs2 T2 no2, fun _ _ _ => .of_eq rfl, fun _ _ _ => .of_eq rfl⟩, Z2, no2⟩
  have T3 : OexC K C3 := ⟨⟨_, _, _, _, _, _, _, _, _, _, _, _, _, _, _,  oC3, rfl⟩, sa3, ex3, ty3, kC3⟩
  have Z3 : IsC K C3 := ⟨⟨ga3, gg3, ex3, hd3⟩, ca3, gn, gt, cm3⟩
  have V3 : Ec K CM C3 := ⟨⟨_, _, _, _, _, _, _, _, _, _, _, _, _, _,  oC3⟩, ty3⟩
  have X3 : EX l.prog w K mg base "BadPaper" C3 "value" "value" := ⟨⟨T3, PySem.W.mg_of X G aC3, fI3, _, aI3, tI3, ok_err3 lI3 cI3 hc3 hv3 hf3 htop hl3 m_super hop hs3 T3 no3, fun _ _ _ => .of_eq rfl, fun _ _ _ => .of_eq rfl⟩, Z3, no3⟩
  have T4 : OexC K C4 := ⟨⟨_, _, _, _, _, _, _, _, _, _, _, _, _, _, _,  oC4, rfl⟩, sa4, ex4, ty4, kC4⟩
  have Z4 : IsC K C4 := ⟨⟨ga4, gg4, ex4, hd4⟩, ca4, gn, gt, cm4⟩
  have V4 : Ec K CM C4 := ⟨⟨_, _, _, _, _, _, _, _, _, _, _, _, _, _,  oC4⟩, ty4⟩
  have X4 : EX l.prog w K mg base "BadStep" C4 "value" "value" := ⟨⟨T4, PySem.W.mg_of X G aC4, fI4, _, aI4, tI4, ok_err4 lI4 cI4 hc4 hv4 hf4 htop hl4 m_super hop hs4 T4 no4, fun _ _ _ => .of_eq rfl, fun _ _ _ => .of_eq rfl⟩, Z4, no4⟩
  have T5 : OexC K C5 := ⟨⟨_, _, _, _, _, _, _, _, _, _, _, _, _, _, _,  oC5, rfl⟩, sa5, ex5, ty5, kC5⟩
  have Z5 : IsC K C5 := ⟨⟨ga5, gg5, ex5, hd5⟩, ca5, gn, gt, cm5⟩
  have V5 : Ec K CM C5 := ⟨⟨_, _, _, _, _, _, _, _, _, _, _, _, _, _,  oC5⟩, ty5⟩
  have X5 : EX l.prog w K mg base "BadProgram" C5 "value" "value" := ⟨⟨T5, PySem.W.mg_of X G aC5, fI5, _, aI5, tI5, ok_err5 lI5 cI5 hc5 hv5 hf5 htop hl5 m_super hop hs5 T5 no5, fun _ _ _ => .of_eq rfl, fun _ _ _ => .of_eq rfl⟩, Z5, no5⟩
  have T6 : OexC K C6 := ⟨⟨_, _, _, _, _, _, _, _, _, _, _, _, _, _, _,  oC6, rfl⟩, sa6, ex6, ty6, kC6⟩
  have Z6 : IsC K C6 := ⟨⟨ga6, gg6, ex6, hd6⟩, ca6, gn, gt, cm6⟩
  have V6 : Ec K CM C6 := ⟨⟨_, _, _, _, _, _, _, _, _, _, _, _, _, _,  oC6⟩, ty6⟩
  have X6 : EX l.prog w K mg base "BadMask" C6 "value" "value" := ⟨⟨T6, PySem.W.mg_of X G aC6, fI6, _, aI6, tI6, ok_err6 lI6 cI6 hc6 hv6 hf6 htop hl6 m_super hop hs6 T6 no6, fun _ _ _ => .of_eq rfl, fun _ _ _ => .of_eq rfl⟩, Z6, no6⟩
  have T7 : OexC K C7 := ⟨⟨_, _, _, _, _, _, _, _, _, _, _, _, _, _, _,  oC7, rfl⟩, sa7, ex7, ty7, kC7⟩
  have Z7 : IsC K C7 := ⟨⟨ga7, gg7, ex7, hd7⟩, ca7, gn, gt, cm7⟩
  have V7 : Ec K CM C7 := ⟨⟨_, _, _, _, _, _, _, _, _, _, _, _, _, _,  oC7⟩, ty7⟩
  have X7 : EX l.prog w K mg base "BadText" C7 "value" "value" := ⟨⟨T7, PySem.W.mg_of X G aC7, fI7, _, aI7, tI7, ok_err7 lI7 cI7 hc7 hv7 hf7 htop hl7 m_super hop hs7 T7 no7, fun _ _ _ => .of_eq rfl, fun _ _ _ => .of_eq rfl⟩, Z7, no7⟩
  have T8 : OexC K C8 := ⟨⟨_, _, _, _, _, _, _, _, _, _, _, _, _, _, _,  oC8, rfl⟩, sa8, ex8, ty8, kC8⟩
  have Z8 : IsC K C8 := ⟨⟨ga8, gg8, ex8, hd8⟩, ca8, gn, gt, cm8⟩
  have V8 : Ec K CM C8 := ⟨⟨_, _, _, _, _, _, _, _, _, _, _, _, _, _,  oC8⟩, ty8⟩
  have X8 : EX l.prog w K mg base "BadCommand" C8 "command" "command" := ⟨⟨T8, PySem.W.mg_of X G aC8, fI8, _, aI8, tI8, ok_err8 lI8 cI8 hc8 hv8 hf8 htop hl8 m_super hop hs8 T8 no8, fun _ _ _ => .of_eq rfl, fun _ _ _ => .of_eq rfl⟩, Z8, no8⟩
  have T9 : OexC K C9 := ⟨⟨_, _, _, _, _, _, _, _, _, _, _, _, _, _, _,  oC9, rfl⟩, sa9, ex9, ty9, kC9⟩
  have Z9 : IsC K C9 := ⟨⟨ga9, gg9, ex9, hd9⟩, ca9, gn, gt, cm9⟩
  have V9 : Ec K CM C9 := ⟨⟨_, _, _, _, _, _, _, _, _, _, _, _, _, _,  oC9⟩, ty9⟩
  have X9 : EX l.prog w K mg base "Unset" C9 "path" "path" := ⟨⟨T9, PySem.W.mg_of X G aC9, fI9, _, aI9, tI9, ok_err9 lI9 cI9 hc9 hv9 hf9 htop hl9 m_super hop hs9 T9 no9, fun _ _ _ => .of_eq rfl, fun _ _ _ => .of_eq rfl⟩, Z9, no9⟩
  have T10 : OexC K C10 := ⟨⟨_, _, _, _, _, _, _, _, _, _, _, _, _, _, _,  oC10, rfl⟩, sa10, ex10, ty10, kC10⟩
  have Z10 : IsC K C10 := ⟨⟨ga10, gg10, ex10, hd10⟩, ca10, gn, gt, cm10⟩
  have V10 : Ec K CM C10 := ⟨⟨_, _, _, _, _, _, _, _, _, _, _, _, _, _,  oC10⟩, ty10⟩
  have X10 : EX l.prog w K mg base "Lost" C10 "pair" "pair" := ⟨⟨T10, PySem.W.mg_of X G aC10, fI10, _, aI10, tI10, ok_err10 lI10 cI10 hc10 hv10 hf10 htop hl10 m_super hop hs10 T10 no10, fun _ _ _ => .of_eq rfl, fun _ _ _ => .of_eq rfl⟩, Z10, no10⟩
  have T11 : OexC K C11 := ⟨⟨_, _, _, _, _, _, _, _, _, _, _, _, _, _, _,  oC11, rfl⟩, sa11, ex11, ty11, kC11⟩
  have Z11 : IsC K C11 := ⟨⟨ga11, gg11, ex11, hd11⟩, ca11, gn, gt, cm11⟩
  have V11 : Ec K CM C11 := ⟨⟨_, _, _, _, _, _, _, _, _, _, _, _, _, _,  oC11⟩, ty11⟩
  have X11 : EX l.prog w K mg base "Refused" C11 "number" "number" := ⟨⟨T11, PySem.W.mg_of X G aC11, fI11, _, aI11, tI11, ok_err11 lI11 cI11 hc11 hv11 hf11 htop hl11 m_super hop hs11 T11 no11, fun _ _ _ => .of_eq rfl, fun _ _ _ => .of_eq rfl⟩, Z11, no11⟩
  have T12 : OexC K C12 := ⟨⟨_, _, _, _, _, _, _, _, _, _, _, _, _, _, _,  oC12, rfl⟩, sa12, ex12, ty12, kC12⟩
  have Z12 : IsC K C12 := ⟨⟨ga12, gg12, ex12, hd12⟩, ca12, gn, gt, cm12⟩
  have V12 : Ec K CM C12 := ⟨⟨_, _, _, _, _, _, _, _, _, _, _, _, _, _,  oC12⟩, ty12⟩
  have X12 : EX l.prog w K mg base "UnknownNumber" C12 "number" "number" := ⟨⟨T12, PySem.W.mg_of X G aC12, fI12, _, aI12, tI12, ok_err12 lI12 cI12 hc12 hv12 hf12 htop hl12 m_super hop hs12 T12 no12, fun _ _ _ => .of_eq rfl, fun _ _ _ => .of_eq rfl⟩, Z12, no12⟩
  have T13 : OexC K C13 := ⟨⟨_, _, _, _, _, _, _, _, _, _, _, _, _, _, _,  oC13, rfl⟩, sa13, ex13, ty13, kC13⟩
  have Z13 : IsC K C13 := ⟨⟨ga13, gg13, ex13, hd13⟩, ca13, gn, gt, cm13⟩
  have V13 : Ec K CM C13 := ⟨⟨_, _, _, _, _, _, _, _, _, _, _, _, _, _,  oC13⟩, ty13⟩
  have X13 : EX l.prog w K mg base "NothingToUndo" C13 "many" "many" := ⟨⟨T13, PySem.W.mg_of X G aC13, fI13, _, aI13, tI13, ok_err13 lI13 cI13 hc13 hv13 hf13 htop hl13 m_super hop hs13 T13 no13, fun _ _ _ => .of_eq rfl, fun _ _ _ => .of_eq rfl⟩, Z13, no13⟩
  have mM := PySem.W.mg_of X G aCM
  have pm : ((PySem.W.clsIn K CM).isSome && PySem.W.typeIn K (.ref CM) == some (.type "type")) = true := by
    rw [clM, tyM]
    exact (Bool.true_and _).trans (beq_self_eq_true _)
  have all : ∀ c ∈ ([(C0, "value"), (C1, "value"), (C2, "value"), (C3, "value"), (C4, "value"), (C5, "value"), (C6, "value"), (C7, "value"), (C8, "command"), (C9, "path"), (C10, "pair"), (C11, "number"), (C12, "number"), (C13, "many")] : List (Addr × Str)), Ec K CM c.1 ∧ OexC K c.1 ∧ IsC K c.1 := by
    intro c m
    simp only [List.mem_cons, List.not_mem_nil, or_false] at m
    rcases m with rfl | rfl | rfl | rfl | rfl | rfl | rfl | rfl | rfl | rfl | rfl | rfl | rfl | rfl
    · exact ⟨V0, T0, Z0⟩
    · exact ⟨V1, T1, Z1⟩
    · exact ⟨V2, T2, Z2⟩
    · exact ⟨V3, T3, Z3⟩
    · exact ⟨V4, T4, Z4⟩
    · exact ⟨V5, T5, Z5⟩
    · exact ⟨V6, T6, Z6⟩
    · exact ⟨V7, T7, Z7⟩
    · exact ⟨V8, T8, Z8⟩
    · exact ⟨V9, T9, Z9⟩
    · exact ⟨V10, T10, Z10⟩
    · exact ⟨V11, T11, Z11⟩
    · exact ⟨V12, T12, Z12⟩
    · exact ⟨V13, T13, Z13⟩
  have hK := kinds_of rfl nod all pm
  have DKn : Df l.prog w K mg base 1 fKn "_law_kinds" ["error"] (spKinds K [(C0, "value"), (C1, "value"), (C2, "value"), (C3, "value"), (C4, "value"), (C5, "value"), (C6, "value"), (C7, "value"), (C8, "command"), (C9, "path"), (C10, "pair"), (C11, "number"), (C12, "number"), (C13, "many")]) := ⟨⟨_, ok_kinds FKn m_isinstance X0 X1 X2 X3 X4 X5 X6 X7 X8 X9 X10 X11 X12 X13, bKn⟩, PySem.W.mg_of X G aKn, kKn⟩
  have DOk : Df l.prog w K mg base 2 fOk "_law_of_one_kind" ["error", "at"] (spOneKind K [(C0, "value"), (C1, "value"), (C2, "value"), (C3, "value"), (C4, "value"), (C5, "value"), (C6, "value"), (C7, "value"), (C8, "command"), (C9, "path"), (C10, "pair"), (C11, "number"), (C12, "number"), (C13, "many")] CM) := ⟨⟨_, ok_one FOk m_isinstance m_ValueError m_range mM DKn, bOk⟩, PySem.W.mg_of X G aOk, kOk⟩
  have DMd : Df l.prog w K mg base 3 fMd "_law_made" ["thing"] (spMade [(C0, "value"), (C1, "value"), (C2, "value"), (C3, "value"), (C4, "value"), (C5, "value"), (C6, "value"), (C7, "value"), (C8, "command"), (C9, "path"), (C10, "pair"), (C11, "number"), (C12, "number"), (C13, "many")]) := ⟨⟨_, ok_made FMd X0 X1 X2 X3 X4 X5 X6 X7 X8 X9 X10 X11 X12 X13, bMd⟩, PySem.W.mg_of X G aMd, kMd⟩
  have DNm : Df l.prog w K mg base 3 fNm "_law_named" ["thing"] (spMade [(C0, "value"), (C1, "value"), (C2, "value"), (C3, "value"), (C4, "value"), (C5, "value"), (C6, "value"), (C7, "value"), (C8, "command"), (C9, "path"), (C10, "pair"), (C11, "number"), (C12, "number"), (C13, "many")]) := ⟨⟨_, ok_named FNm X0 X1 X2 X3 X4 X5 X6 X7 X8 X9 X10 X11 X12 X13, bNm⟩, PySem.W.mg_of X G aNm, kNm⟩
  have DKp : Df l.prog w K mg base 1 fKp "_law_kept" ["errors"] (spKept [(C0, "value"), (C1, "value"), (C2, "value"), (C3, "value"), (C4, "value"), (C5, "value"), (C6, "value"), (C7, "value"), (C8, "command"), (C9, "path"), (C10, "pair"), (C11, "number"), (C12, "number"), (C13, "many")]) := ⟨⟨_, ok_kept FKp X0 X1 X2 X3 X4 X5 X6 X7 X8 X9 X10 X11 X12 X13, bKp⟩, PySem.W.mg_of X G aKp, kKp⟩
  exact ok_law FLaw ⟨m_len, m_max, m_min, m_range, m_repr, m_enumerate⟩ rfl hK DTa DAn DMd DNm DOk DKp EIn ETx ENu EFl EKe
theorem walk {l : PySem.W.OpenLaw} {q : Program} {loose : List Str} {XP : (Str → Option Value) → Heap → Prop} {YP : World → Heap → Prop} {d : DefRec} {K : Params → PySem.W.Frag} (hn : l.most = some 63) (hdf : d.params.defaults = [])
    (hY : ∀ (w : World) (h : Heap), YP w h → (K w.params).In h)
    (F : ∀ (w : World) (mg : Str → Option Value) (fa : Addr) (h : Heap), (K w.params).In h → h.Ns mainGlobals mg → mg d.name = some (.ref fa) →
      ∃ fd : FuncData, (∀ (s : Shared) (u : Value), BindsTo s fd ⟨[u], []⟩ [("script", u)]) ∧ ∀ base : Heap, (K w.params).In base → base.Ns mainGlobals mg → FnG l.prog w (K w.params) mg base 4 fa fd ["script"] (spLaw (K w.params))) :
    PySem.W.WalkO q loose XP YP l.row.toRowW d [] (fun f vs => PySem.call f vs) :=
  walkG (n := 63) (k := 4) (x := "script") (sp := fun w => spLaw (K w.params)) hn (by decide) hdf ⟨rfl, by decide, by decide⟩ hY F (fun _ _ a ns hl hb _ hS => ⟨a, ns, rfl, hS, hl, hb, fun _ => rfl⟩)
end Lw

open PySem PySem.W PyProof.Rows in
set_option maxRecDepth 100000 in
set_option maxHeartbeats 0 in
theorem PySem.Challenge.cw_maskwrites_k02_errors_and_names_of_argum_holds : PySem.Challenge.rw_maskwrites_k02_errors_and_names_of_argum.Holds := by
  w_on; o_law; k_head; (case hw => w_witness2)
  k_fill
  refine Lw.walk (l := PySem.Challenge.rw_maskwrites_k02_errors_and_names_of_argum) rfl rfl (fun w h Y => PySem.W.kIn_of Y) ?F
  case F =>
    intro w mg fa h KX G hmg
    refine' Lw.all_mk KX G hmg ?aIl ?lIl ?cIl ?kIl ?aIn ?lIn ?cIn ?kIn ?aTx ?lTx ?cTx ?kTx ?aNu ?lNu ?cNu ?kNu ?aFl ?lFl ?cFl ?kFl ?aKe ?lKe ?cKe ?kKe ?aTa ?lTa ?cTa ?kTa ?aPi ?lPi ?cPi ?kPi ?aOo ?lOo ?cOo ?kOo ?aAn ?lAn ?cAn ?kAn ?aKn ?lKn ?cKn ?kKn ?aOk ?lOk ?cOk ?kOk ?aMd ?lMd ?cMd ?kMd ?aNm ?lNm ?cNm ?kNm ?aKp ?lKp ?cKp ?kKp ?aLaw ?lLaw ?cLaw ?kLaw ?z_isinstance ?z_str ?z_len ?z_all ?z_int ?z_bool ?z_range ?z_tuple ?z_max ?z_min ?z_repr ?z_enumerate ?z_super ?z_ValueError ?vLETTERS ?vMOST ?vTEXT ?aCM ?clM ?tyM ?hop ?gn ?gt ?htop ?aC0 ?oC0 ?sa0 ?ex0 ?ty0 ?kC0 ?ga0 ?gg0 ?hd0 ?ca0 ?cm0 ?no0 ?aI0 ?tI0 ?lI0 ?cI0 ?hc0 ?hv0 ?hf0 ?hl0 ?hs0 ?aC1 ?oC1 ?sa1 ?ex1 ?ty1 ?kC1 ?ga1 ?gg1 ?hd1 ?ca1 ?cm1 ?no1 ?aI1 ?tI1 ?lI1 ?cI1 ?hc1 ?hv1 ?hf1 ?hl1 ?hs1 ?aC2 ?oC2 ?sa2 ?ex2 ?ty2 ?kC2 ?ga2 ?gg2 ?hd2 ?ca2 ?cm2 ?no2 ?aI2 ?tI2 ?lI2 ?cI2 ?hc2 ?hv2 ?hf2 ?hl2 ?hs2 ?aC3 ?oC3 ?sa3 ?ex3 ?ty3 ?kC3 ?ga3 ?gg3 ?hd3 ?ca3 ?cm3 ?no3 ?aI3 ?tI3 ?lI3 ?cI3 ?hc3 ?hv3 ?hf3 ?hl3 ?hs3 ?aC4 ?oC4 ?sa4 ?ex4 ?ty4 ?kC4 ?ga4 ?gg4 ?hd4 ?ca4 ?cm4 ?no4 ?aI4 ?tI4 ?lI4 ?cI4 ?hc4 ?hv4 ?hf4 ?hl4 ?hs4 ?aC5 ?oC5 ?sa5 ?ex5 ?ty5 ?kC5 ?ga5 ?gg5 ?hd5 ?ca5 ?cm5 ?no5 ?aI5 ?tI5 ?lI5 ?cI5 ?hc5 ?hv5 ?hf5 ?hl5 ?hs5 ?aC6 ?oC6 ?sa6 ?ex6 ?ty6 ?kC6 ?ga6 ?gg6 ?hd6 ?ca6 ?cm6 ?no6 ?aI6 ?tI6 ?lI6 ?cI6 ?hc6 ?hv6 ?hf6 ?hl6 ?hs6 ?aC7 ?oC7 ?sa7 ?ex7 ?ty7 ?kC7 ?ga7 ?gg7 ?hd7 ?ca7 ?cm7 ?no7 ?aI7 ?tI7 ?lI7 ?cI7 ?hc7 ?hv7 ?hf7 ?hl7 ?hs7 ?aC8 ?oC8 ?sa8 ?ex8 ?ty8 ?kC8 ?ga8 ?gg8 ?hd8 ?ca8 ?cm8 ?no8 ?aI8 ?tI8 ?lI8 ?cI8 ?hc8 ?hv8 ?hf8 ?hl8 ?hs8 ?aC9 ?oC9 ?sa9 ?ex9 ?ty9 ?kC9 ?ga9 ?gg9 ?hd9 ?ca9 ?cm9 ?no9 ?aI9 ?tI9 ?lI9 ?cI9 ?hc9 ?hv9 ?hf9 ?hl9 ?hs9 ?aC10 ?oC10 ?sa10 ?ex10 ?ty10 ?kC10 ?ga10 ?gg10 ?hd10 ?ca10 ?cm10 ?no10 ?aI10 ?tI10 ?lI10 ?cI10 ?hc10 ?hv10 ?hf10 ?hl10 ?hs10 ?aC11 ?oC11 ?sa11 ?ex11 ?ty11 ?kC11 ?ga11 ?gg11 ?hd11 ?ca11 ?cm11 ?no11 ?aI11 ?tI11 ?lI11 ?cI11 ?hc11 ?hv11 ?hf11 ?hl11 ?hs11 ?aC12 ?oC12 ?sa12 ?ex12 ?ty12 ?kC12 ?ga12 ?gg12 ?hd12 ?ca12 ?cm12 ?no12 ?aI12 ?tI12 ?lI12 ?cI12 ?hc12 ?hv12 ?hf12 ?hl12 ?hs12 ?aC13 ?oC13 ?sa13 ?ex13 ?ty13 ?kC13 ?ga13 ?gg13 ?hd13 ?ca13 ?cm13 ?no13 ?aI13 ?tI13 ?lI13 ?cI13 ?hc13 ?hv13 ?hf13 ?hl13 ?hs13 ?nod
    (case aIl => k_is)
    (case lIl => k_is)
    (case cIl => k_is)
    (case kIl => k_is)
    (case aIn => k_is)
    (case lIn => k_is)
    (case cIn => k_is)
    (case kIn => k_is)
    (case aTx => k_is)
    (case lTx => k_is)
    (case cTx => k_is)
    (case kTx => k_is)
    (case aNu => k_is)
    (case lNu => k_is)
    (case cNu => k_is)
    (case kNu => k_is)
    (case aFl => k_is)
    (case lFl => k_is)
    (case cFl => k_is)
    (case kFl => k_is)
    (case aKe => k_is)
    (case lKe => k_is)
    (case cKe => k_is)
    (case kKe => k_is)
    (case aTa => k_is)
    (case lTa => k_is)
    (case cTa => k_is)
    (case kTa => k_is)
    (case aPi => k_is)
    (case lPi => k_is)
    (case cPi => k_is)
    (case kPi => k_is)
    (case aOo => k_is)
    (case lOo => k_is)
    (case cOo => k_is)
    (case kOo => k_is)
    (case aAn => k_is)
    (case lAn => k_is)
    (case cAn => k_is)
    (case kAn => k_is)
    (case aKn => k_is)
    (case lKn => k_is)
    (case cKn => k_is)
    (case kKn => k_is)
    (case aOk => k_is)
    (case lOk => k_is)
    (case cOk => k_is)
    (case kOk => k_is)
    (case aMd => k_is)
    (case lMd => k_is)
    (case cMd => k_is)
    (case kMd => k_is)
    (case aNm => k_is)
    (case lNm => k_is)
    (case cNm => k_is)
    (case kNm => k_is)
    (case aKp => k_is)
    (case lKp => k_is)
    (case cKp => k_is)
    (case kKp => k_is)
    (case aLaw => k_is)
    (case lLaw => k_is)
    (case cLaw => k_is)
    (case kLaw => k_is)
    (case z_isinstance => k_is)
    (case z_str => k_is)
    (case z_len => k_is)
    (case z_all => k_is)
    (case z_int => k_is)
    (case z_bool => k_is)
    (case z_range => k_is)
    (case z_tuple => k_is)
    (case z_max => k_is)
    (case z_min => k_is)
    (case z_repr => k_is)
    (case z_enumerate => k_is)
    (case z_super => k_is)
    (case z_ValueError => k_is)
    (case vLETTERS => k_is)
    (case vMOST => k_is)
    (case vTEXT => k_is)
    (case aCM => k_is)
    (case clM => k_is)
    (case tyM => k_is)
    (case hop => k_is)
    (case gn => k_is)
    (case gt => k_is)
    (case htop => first | rfl | decide +kernel)
    (case aC0 => k_is)
    (case oC0 => k_is)
    (case sa0 => k_is)
    (case ex0 => k_is)
    (case ty0 => k_is)
    (case kC0 => k_is)
    (case ga0 => k_is)
    (case gg0 => k_is)
    (case hd0 => k_is)
    (case ca0 => k_is)
    (case cm0 => k_is)
    (case no0 => k_is)
    (case aI0 => k_is)
    (case tI0 => k_is)
    (case lI0 => k_is)
    (case cI0 => k_is)
    (case hc0 => k_is)
    (case hv0 => rfl)
    (case hf0 => first | rfl | decide +kernel)
    (case hl0 => k_is)
    (case hs0 => ks_is)
    (case aC1 => k_is)
    (case oC1 => k_is)
    (case sa1 => k_is)
    (case ex1 => k_is)
    (case ty1 => k_is)
    (case kC1 => k_is)
    (case ga1 => k_is)
    (case gg1 => k_is)
    (case hd1 => k_is)
    (case ca1 => k_is)
    (case cm1 => k_is)
    (case no1 => k_is)
    (case aI1 => k_is)
    (case tI1 => k_is)
    (case lI1 => k_is)
    (case cI1 => k_is)
    (case hc1 => k_is)
    (case hv1 => rfl)
    (case hf1 => first | rfl | decide +kernel)
    (case hl1 => k_is)
    (case hs1 => ks_is)
    (case aC2 => k_is)
    (case oC2 => k_is)
    (case sa2 => k_is)
    (case ex2 => k_is)
    (case ty2 => k_is)
    (case kC2 => k_is)
    (case ga2 => k_is)
    (case gg2 => k_is)
    (case hd2 => k_is)
    (case ca2 => k_is)
    (case cm2 => k_is)
    (case no2 => k_is)
    (case aI2 => k_is)
    (case tI2 => k_is)
    (case lI2 => k_is)
    (case cI2 => k_is)
    (case hc2 => k_is)
    (case hv2 => rfl)
    (case hf2 => first | rfl | decide +kernel)
    (case hl2 => k_is)
    (case hs2 => ks_is)
    (case aC3 => k_is)
    (case oC3 => k_is)
    (case sa3 => k_is)
    (case ex3 => k_is)
    (case ty3 => k_is)
    (case kC3 => k_is)
    (case ga3 => k_is)
    (case gg3 => k_is)
    (case hd3 => k_is)
    (case ca3 => k_is)
    (case cm3 => k_is)
    (case no3 => k_is)
    (case aI3 => k_is)
    (case tI3 => k_is)
    (case lI3 => k_is)
    (case cI3 => k_is)
    (case hc3 => k_is)
    (case hv3 => rfl)
    (case hf3 => first | rfl | decide +kernel)
    (case hl3 => k_is)
    (case hs3 => ks_is)
    (case aC4 => k_is)
    (case oC4 => k_is)
    (case sa4 => k_is)
    (case ex4 => k_is)
    (case ty4 => k_is)
    (case kC4 => k_is)
    (case ga4 => k_is)
    (case gg4 => k_is)
    (case hd4 => k_is)
    (case ca4 => k_is)
    (case cm4 => k_is)
    (case no4 => k_is)
    (case aI4 => k_is)
    (case tI4 => k_is)
    (case lI4 => k_is)
    (case cI4 => k_is)
    (case hc4 => k_is)
    (case hv4 => rfl)
    (case hf4 => first | rfl | decide +kernel)
    (case hl4 => k_is)
    (case hs4 => ks_is)
    (case aC5 => k_is)
    (case oC5 => k_is)
    (case sa5 => k_is)
    (case ex5 => k_is)
    (case ty5 => k_is)
    (case kC5 => k_is)
    (case ga5 => k_is)
    (case gg5 => k_is)
    (case hd5 => k_is)
    (case ca5 => k_is)
    (case cm5 => k_is)
    (case no5 => k_is)
    (case aI5 => k_is)
    (case tI5 => k_is)
    (case lI5 => k_is)
    (case cI5 => k_is)
    (case hc5 => k_is)
    (case hv5 => rfl)
    (case hf5 => first | rfl | decide +kernel)
    (case hl5 => k_is)
    (case hs5 => ks_is)
    (case aC6 => k_is)
    (case oC6 => k_is)
    (case sa6 => k_is)
    (case ex6 => k_is)
    (case ty6 => k_is)
    (case kC6 => k_is)
    (case ga6 => k_is)
    (case gg6 => k_is)
    (case hd6 => k_is)
    (case ca6 => k_is)
    (case cm6 => k_is)
    (case no6 => k_is)
    (case aI6 => k_is)
    (case tI6 => k_is)
    (case lI6 => k_is)
    (case cI6 => k_is)
    (case hc6 => k_is)
    (case hv6 => rfl)
    (case hf6 => first | rfl | decide +kernel)
    (case hl6 => k_is)
    (case hs6 => ks_is)
    (case aC7 => k_is)
    (case oC7 => k_is)
    (case sa7 => k_is)
    (case ex7 => k_is)
    (case ty7 => k_is)
    (case kC7 => k_is)
    (case ga7 => k_is)
    (case gg7 => k_is)
    (case hd7 => k_is)
    (case ca7 => k_is)
    (case cm7 => k_is)
    (case no7 => k_is)
    (case aI7 => k_is)
    (case tI7 => k_is)
    (case lI7 => k_is)
    (case cI7 => k_is)
    (case hc7 => k_is)
    (case hv7 => rfl)
    (case hf7 => first | rfl | decide +kernel)
    (case hl7 => k_is)
    (case hs7 => ks_is)
    (case aC8 => k_is)
    (case oC8 => k_is)
    (case sa8 => k_is)
    (case ex8 => k_is)
    (case ty8 => k_is)
    (case kC8 => k_is)
    (case ga8 => k_is)
    (case gg8 => k_is)
    (case hd8 => k_is)
    (case ca8 => k_is)
    (case cm8 => k_is)
    (case no8 => k_is)
    (case aI8 => k_is)
    (case tI8 => k_is)
    (case lI8 => k_is)
    (case cI8 => k_is)
    (case hc8 => k_is)
    (case hv8 => rfl)
    (case hf8 => first | rfl | decide +kernel)
    (case hl8 => k_is)
    (case hs8 => ks_is)
    (case aC9 => k_is)
    (case oC9 => k_is)
    (case sa9 => k_is)
    (case ex9 => k_is)
    (case ty9 => k_is)
    (case kC9 => k_is)
    (case ga9 => k_is)
    (case gg9 => k_is)
    (case hd9 => k_is)
    (case ca9 => k_is)
    (case cm9 => k_is)
    (case no9 => k_is)
    (case aI9 => k_is)
    (case tI9 => k_is)
    (case lI9 => k_is)
    (case cI9 => k_is)
    (case hc9 => k_is)
    (case hv9 => rfl)
    (case hf9 => first | rfl | decide +kernel)
    (case hl9 => k_is)
    (case hs9 => ks_is)
    (case aC10 => k_is)
    (case oC10 => k_is)
    (case sa10 => k_is)
    (case ex10 => k_is)
    (case ty10 => k_is)
    (case kC10 => k_is)
    (case ga10 => k_is)
    (case gg10 => k_is)
    (case hd10 => k_is)
    (case ca10 => k_is)
    (case cm10 => k_is)
    (case no10 => k_is)
    (case aI10 => k_is)
    (case tI10 => k_is)
    (case lI10 => k_is)
    (case cI10 => k_is)
    (case hc10 => k_is)
    (case hv10 => rfl)
    (case hf10 => first | rfl | decide +kernel)
    (case hl10 => k_is)
    (case hs10 => ks_is)
    (case aC11 => k_is)
    (case oC11 => k_is)
    (case sa11 => k_is)
    (case ex11 => k_is)
    (case ty11 => k_is)
    (case kC11 => k_is)
    (case ga11 => k_is)
    (case gg11 => k_is)
    (case hd11 => k_is)
    (case ca11 => k_is)
    (case cm11 => k_is)
    (case no11 => k_is)
    (case aI11 => k_is)
    (case tI11 => k_is)
    (case lI11 => k_is)
    (case cI11 => k_is)
    (case hc11 => k_is)
    (case hv11 => rfl)
    (case hf11 => first | rfl | decide +kernel)
    (case hl11 => k_is)
    (case hs11 => ks_is)
    (case aC12 => k_is)
    (case oC12 => k_is)
    (case sa12 => k_is)
    (case ex12 => k_is)
    (case ty12 => k_is)
    (case kC12 => k_is)
    (case ga12 => k_is)
    (case gg12 => k_is)
    (case hd12 => k_is)
    (case ca12 => k_is)
    (case cm12 => k_is)
    (case no12 => k_is)
    (case aI12 => k_is)
    (case tI12 => k_is)
    (case lI12 => k_is)
    (case cI12 => k_is)
    (case hc12 => k_is)
    (case hv12 => rfl)
    (case hf12 => first | rfl | decide +kernel)
    (case hl12 => k_is)
    (case hs12 => ks_is)
    (case aC13 => k_is)
    (case oC13 => k_is)
    (case sa13 => k_is)
    (case ex13 => k_is)
    (case ty13 => k_is)
    (case kC13 => k_is)
    (case ga13 => k_is)
    (case gg13 => k_is)
    (case hd13 => k_is)
    (case ca13 => k_is)
    (case cm13 => k_is)
    (case no13 => k_is)
    (case aI13 => k_is)
    (case tI13 => k_is)
    (case lI13 => k_is)
    (case cI13 => k_is)
    (case hc13 => k_is)
    (case hv13 => rfl)
    (case hf13 => first | rfl | decide +kernel)
    (case hl13 => k_is)
    (case hs13 => ks_is)
    (case nod => decide)
#print axioms PySem.Challenge.cw_maskwrites_k02_errors_and_names_of_argum_holds

