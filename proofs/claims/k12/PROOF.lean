import PyProof.Rows.All
import Wide.All
import OpenK.AllK
import Wide.FinOn
import HandS.ForMost
import HandS.DictComp
import HandS.Conv
import HandS.IsInst
import HandS.Star
import HandS.MakeKw
import HandS.TupAny
import HandS.OwnEq
import HandS.Wide
import HandS.EndBits
import HandS.Keys
import KE.KSortTupG
import HandS.Defaults
import PyProof.InstEq
import HandS.Walk
import KE.IntBitsLaws
import OpenK.KOps
import HandS.Property
import HandS.TryOnly
import PyProof.CallFns
import HandS.RaiseMore
import HandS.TupSets
import HandS.Set
import PySem.Challenge.RW_maskwrites_k12_masks_counted_and_equal
import HandS.MakeKwOnly
import HandS.Flow
import HandS.TupLe
set_option Elab.async false
set_option linter.all false
set_option maxRecDepth 100000
set_option maxHeartbeats 4000000
/-! Gk: what the masks' laws want beyond the hand layer. -/
namespace Gk
open PySem PySem.Spec PyProof.Rows L2

/-! ### great numbers -/
abbrev nbits (i : Int) : Nat := Builtin.Int.intBits i
def CMulB (i j : Int) : Prop := nbits i + nbits j ≤ 134217728
def CPowB (i j : Int) : Prop := 0 ≤ j ∧ (nbits i : Int) * j ≤ 134217728
section
variable {X : Cx}
theorem op_mulB : OpR X (binaryOp .Mult) (rI CMulB fun i j => .int (i * j)) :=
  opI fun i j _ _ _ _ _ hc q => mul_int q (IntMulOk.of_le (Nat.le_refl _) (Nat.le_refl _) hc)
theorem op_powB : OpR X (binaryOp .Pow) (rI CPowB fun i j => .int (i ^ j.toNat)) :=
  opI fun i j _ _ _ _ _ hc q => pow_int hc.1 hc.2 q
end

/-! ### either way -/
section
variable {X : Cx}
theorem pi_or {tg it : Expr} {w1 w2 : TI} (h1 : PI X tg it w1) (h2 : PI X tg it w2) : PI X tg it (fun st H R => w1 st H R ∨ w2 st H R) :=
  ⟨fun ps s st H R I h => h.elim (h1.run ps s st H R I) (h2.run ps s st H R I)⟩
theorem pe_or2 {e : Expr} {t1 t2 : TE} (h1 : PE X e t1) (h2 : PE X e t2) : PE X e (fun st H Q => t1 st H Q ∨ t2 st H Q) :=
  ⟨fun ps s st H Q I h => h.elim (h1.run ps s st H Q I) (h2.run ps s st H Q I)⟩
theorem cr_or {f : Value} {r1 r2 : List V → Hp → VK → Prop} (h1 : CallR X f r1) (h2 : CallR X f r2) : CallR X f (fun vs H Q => r1 vs H Q ∨ r2 vs H Q) :=
  fun ps s st H xs us Q I r h => h.elim (h1 ps s st H xs us Q I r) (h2 ps s st H xs us Q I r)
end

/-! ### a dict made by a comprehension, whatever its keys -/
/-- what a turn's store asks: the dict's place, key, value, heap, what is wanted behind -/
abbrev TStore := Addr → V → V → Hp → (Hp → Prop) → Prop
structure StoreOk (P : Program) (w : World) (A : Around) (new : HO) (t : TStore) : Prop where
  fresh : ∀ (H : Hp) (h : Heap), sysModules < h.objs.size → ObjOk P w H (h.push { cls := .type "dict", data := .dict #[] }) h.objs.size new
  store : ∀ (X : Cx) (ps : List (Addr × Obj)) (st : L2.St) (H : Hp) (s : Shared) (D : Addr) (y z : V) (u r : Value) (R : Hp → Prop), X.prog = P → X.w = w → X.A = A →
    Inv X ps st H s → RelV y u → RelV z r → t D y z H R → wpAny (model P w) A (dictSet D u r) (fun _ s2 => ∃ H2, Inv X ps st H2 s2 ∧ R H2) X.xe s
def tDcG (new : HO) (t : TStore) (wi : TI) (g : TG) (tt : TT) (tk tv : TE) (vs : List Nat) : TE := fun st H Q => wi st H fun J H1 =>
  ∀ D, H1 D = none → ∃ W : Nat → Nat → Hp → Prop, (∃ m, W 0 m (upd H1 D new)) ∧ ∀ i m Ha, W i m Ha →
    (J.stop i Ha ∧ Q (.ref D) Ha) ∨
    (J.go i Ha ∧ ∃ Nx : Hp → Prop, (∀ Hb, Nx Hb → ∃ m2, m2 < m ∧ W (i + 1) m2 Hb) ∧ ∀ x Hb, J.yld i Ha x Hb →
      g x (wipe st vs) Hb fun st2 H2 => wipe st2 vs = wipe st vs ∧ tt st2 H2 fun b H3 =>
        if b = true then tk st2 H3 fun y H4 => tv st2 H4 fun z H5 => t D y z H5 Nx else Nx H3)

theorem dcG_core {X : Cx} {ps : List (Addr × Obj)} {s : Shared} {st : L2.St} {H : Hp} {Q : VK} {kx vx tg iter : Expr} {ifs : List Expr} {sc : Scope} {own : List (Str × Nat)} {pos pos2 : Pos}
    {wi : TI} {g : TG} {tt : TT} {tk tv : TE} {new : HO} {t : TStore} {Qf : Value → Shared → Prop}
    (so : StoreOk X.prog X.w X.A new t) (calm : X.calm = true) (nd : X.N.Nodup) (I : Inv X ps st H s) (walk : PI X tg iter wi) (ok : BlkOk X.N X.env.scope sc own)
    (pgA : ∀ (s : Shared) (H : Hp) (C : Addr) (cl : List (Str × Addr)) (fp : List Addr), PG (X.blk s H sc (compEnvC sc cl C X.env) fp) tg g)
    (ptA : ∀ (s : Shared) (H : Hp) (C : Addr) (cl : List (Str × Addr)) (fp : List Addr), PTs (X.blk s H sc (compEnvC sc cl C X.env) fp) ifs tt)
    (pkA : ∀ (s : Shared) (H : Hp) (C : Addr) (cl : List (Str × Addr)) (fp : List Addr), PE (X.blk s H sc (compEnvC sc cl C X.env) fp) kx tk)
    (pvA : ∀ (s : Shared) (H : Hp) (C : Addr) (cl : List (Str × Addr)) (fp : List Addr), PE (X.blk s H sc (compEnvC sc cl C X.env) fp) vx tv)
    (hs : ∀ x, foldedSetIterable iter X.env x = pure x) (h : tDcG new t wi g tt tk tv (own.map (·.2)) st H Q)
    (fin : ∀ D C s2 m H2, Inv X ps st H2 s2 → Q (.ref D) H2 → s2.heap.Ns C m → FpOk X ps H2 C → compPost (model X.prog X.w) X.A X.xe none Qf (.ref D) C (.ok .next) s2) :
    wpAny (model X.prog X.w) X.A (comprehension (.DictComp kx vx [⟨tg, iter, ifs, 0⟩] sc pos) sc X.env pos2 newDict false (eval iter X.env) none) Qf X.xe s := by
  have free : ∀ y ∈ sc.names, y.2 = .free → ∃ c, X.env.cells.lookup y.1 = some c := by
    intro y hy e
    exact I.ok.has _ (ok.free y hy e)
  refine wpAny_comprehension_free (use := none) rfl hs (closure_ok free) ok.kind (fun y hy e => by rw [ok.uniq y hy, e]) ?_
  refine thn (walk.run ps s st H _ I h) fun v0 s1 k1 => thn k1 fun v1 s2 k2 => ?_
  obtain ⟨it, fp, tn, J, H2, rfl, I2, T, at2, f2, q⟩ := k2
  refine wpAny_newObj_type (newEnv_comp ?_)
  have noD : H2 s2.heap.objs.size = none := I2.hok.fresh (Nat.le_refl _)
  obtain ⟨W, ⟨m0, w0⟩, turn⟩ := q _ noD
  generalize eD : s2.heap.objs.size = D at *
  generalize e3 : ({ s2 with heap := s2.heap.push { cls := .type "dict", data := .dict #[] } } : Shared) = s3
  have hp3 : s3.heap = s2.heap.push { cls := .type "dict", data := .dict #[] } := by rw [← e3]
  have I3 : Inv X ps st (upd H2 D new) s3 := by
    rw [← e3, ← eD]
    exact I2.laid (t' := s2.toks) (fun b o e => Heap.get?_push_of_some _ e) (Nat.le_refl _) (so.fresh _ _ I2.big)
  have young : ∀ b ∈ fp, b < D := by
    intro b hb
    obtain ⟨o, e, _⟩ := T.obj _ _ at2 b hb
    rw [← eD]
    exact Heap.lt_size e
  have sz3 : s3.heap.objs.size = D + 1 := by rw [hp3, Heap.size_push, eD]
  have f3 : ∀ b ∈ fp, FpOk X ps (upd H2 D new) b ∧ b < s3.heap.objs.size := by
    intro b hb
    have lt := young b hb
    exact ⟨⟨(upd_ne (Nat.ne_of_lt lt)).trans (f2 b hb).1, (f2 b hb).2⟩, by rw [sz3]; exact Nat.lt_succ_of_lt lt⟩
  have at3 : tn 0 s3.heap := T.keep _ _ _ at2 fun b _ o e => hp3 ▸ Heap.get?_push_of_some _ e
  have I4 := block_start I3 ok nd f3
  show codeAny _ _ (.compStart (.DictComp kx vx [⟨tg, iter, ifs, 0⟩] sc pos) 0 (.ref it) (.ref D) (compEnvC sc (cellsFrom (s3.heap.objs.size + 1) sc.names (cloFrom X.env.cells sc.names [])) s3.heap.objs.size X.env))
    (compPost (model X.prog X.w) X.A X.xe none Qf (.ref D) s3.heap.objs.size) { s3 with heap := pushCells (s3.heap.push { cls := .type "dict", data := .dict #[] }) sc.names }
  generalize eC : cellsFrom (s3.heap.objs.size + 1) sc.names (cloFrom X.env.cells sc.names []) = cells at I4 ⊢
  have pg := pgA s3 (upd H2 D new) s3.heap.objs.size cells fp
  have pt := ptA s3 (upd H2 D new) s3.heap.objs.size cells fp
  have pk := pkA s3 (upd H2 D new) s3.heap.objs.size cells fp
  have pv := pvA s3 (upd H2 D new) s3.heap.objs.size cells fp
  generalize eE : compEnvC sc cells s3.heap.objs.size X.env = ce at I4 pg pt pk pv ⊢
  have loc : ce.locals = s3.heap.objs.size := by rw [← eE] <;> rfl
  generalize eH : upd H2 D new = H3 at I3 I4 pg pt pk pv w0 f3
  generalize e4 : ({ s3 with heap := pushCells (s3.heap.push { cls := .type "dict", data := .dict #[] }) sc.names } : Shared) = s4 at I4 ⊢
  have at4 : tn 0 s4.heap := T.keep _ _ _ at3 fun b _ o e => by
    rw [← e4]
    exact pushCells_keeps _ _ _ _ (Heap.get?_push_of_some _ e)
  have fpo : ∀ {st1 : L2.St} {Ha : Hp} {sa : Shared}, Inv (X.blk s3 H3 sc ce fp) [] st1 Ha sa → (∀ b ∈ fp, Ha b = none) → ∀ b ∈ fp, FpOk (X.blk s3 H3 sc ce fp) [] Ha b := by
    intro st1 Ha sa Ia hn b hb
    have e := Ia.ok.exf b hb
    exact ⟨hn b hb, e.1, Ia.ok.exfs b hb, .inl hb, fun x c z => e.2 x c z, fun p hp => absurd (show p ∈ ([] : List (Addr × Obj)) from hp) List.not_mem_nil⟩
  have loop : codeAny (model X.prog X.w) X.A (.compLoop (.DictComp kx vx [⟨tg, iter, ifs, 0⟩] sc pos) 0 (.ref it) (.ref D) ce) (compPost (model X.prog X.w) X.A X.xe none Qf (.ref D) s3.heap.objs.size) s4 := by
    refine compLoop_anyD (fun n sa => ∃ i Ha, Inv (X.blk s3 H3 sc ce fp) [] (wipe st (own.map (·.2))) Ha sa ∧ tn i sa.heap ∧ (∀ b ∈ fp, Ha b = none) ∧ W i n Ha) ?_ m0 ⟨0, H3, I4, at4, fun b hb => (f3 b hb).1.1, w0⟩
    rintro n s5 ⟨i, H5, I5, at5, n5, w5⟩
    rcases turn i n H5 w5 with ⟨stop, qq⟩ | ⟨go, Nx, down, step⟩
    · refine thnF (T.done (X.blk s3 H3 sc ce fp) rfl rfl rfl calm i [] s5 _ H5 (fun _ _ => False) I5 (fpo I5 n5) at5 stop) fun r s6 hr => ?_
      obtain ⟨rfl, I6⟩ := hr
      have I7 : Inv X ps st H5 s6 := I3.call' (ch := fp) I6.os I6.base I6.hok I6.bare fun b hb => by
        obtain ⟨⟨_, a1, _, a3, a4, a5⟩, _⟩ := f3 b hb
        exact ⟨a3, a1, a4, a5⟩
      have noC : H5 s3.heap.objs.size = none := loc ▸ I6.free
      obtain ⟨m, hn, _⟩ := I6.loc
      exact fin D s3.heap.objs.size s6 m H5 I7 qq (loc ▸ (show s6.heap.Ns ce.locals m from hn)) (I3.fpOk (Nat.le_refl _) noC)
    · refine thnF (T.item (X.blk s3 H3 sc ce fp) rfl rfl rfl calm i [] s5 _ H5 (fun _ _ => False) I5 (fpo I5 n5) at5 go) fun r s6 hr => ?_
      obtain ⟨u, rfl, k6⟩ := hr
      refine thnF k6 fun _ s7 k7 => ?_
      obtain ⟨x, H7, I7, r7, y7, at7, n7⟩ := k7
      have J7 := I7.pinned (fpo I7 n7) (T.obj _ _ at7)
      refine thnF (pg.run _ s7 _ H7 x u _ J7 r7 (step x H7 y7)) fun _ s8 k8 => ?_
      obtain ⟨st8, H8, I8, ew, q8⟩ := k8
      refine thnF (pt.run _ s8 st8 H8 _ I8 q8) fun b s9 k9 => ?_
      obtain ⟨H9, I9, q9⟩ := k9
      have next : ∀ {sb : Shared} {Hb : Hp}, Inv (X.blk s3 H3 sc ce fp) ([] ++ pinsAt fp s7.heap) st8 Hb sb → Nx Hb →
          ∃ m, m < n ∧ ∃ i Ha, Inv (X.blk s3 H3 sc ce fp) [] (wipe st (own.map (·.2))) Ha sb ∧ tn i sb.heap ∧ (∀ b ∈ fp, Ha b = none) ∧ W i m Ha := by
        intro sb Hb Ib nx
        obtain ⟨m2, lt, w2⟩ := down Hb nx
        have still : ∀ b ∈ fp, ∀ o, s7.heap.get? b = some o → sb.heap.get? b = some o ∧ Hb b = none := by
          intro b hb o e
          have z := Ib.pin (b, o) (List.mem_append_right _ (List.mem_append_right _ (mem_pinsAt hb e)))
          exact ⟨z.1, z.2.1⟩
        have el : (wipe st (own.map (·.2))).length = st8.length := ew ▸ wipe_length _ _
        refine ⟨m2, lt, i + 1, Hb, (Ib.unpinned (pins := [])).weak el fun j v e => (wipe_some (ew ▸ e)).1, T.keep _ _ _ at7 fun b hb o e => (still b hb o e).1, ?_, w2⟩
        intro b hb
        obtain ⟨o, e, _⟩ := T.obj _ _ at7 b hb
        exact (still b hb o e).2
      cases b with
      | false =>
        rw [if_neg Bool.false_ne_true] at q9 ⊢
        exact next I9 q9
      | true =>
        rw [if_pos rfl] at q9 ⊢
        refine thnF (pk.run _ s9 st8 H9 _ I9 q9) fun ku s10 k10 => ?_
        obtain ⟨yk, H10, I10, r10, q10⟩ := k10
        refine thnF (pv.run _ s10 st8 H10 _ I10 q10) fun vu s11 k11 => ?_
        obtain ⟨yv, H11, I11, r11, q11⟩ := k11
        refine thnF (so.store (X.blk s3 H3 sc ce fp) _ st8 H11 s11 D yk yv ku vu Nx rfl rfl rfl I11 r10 r11 q11) fun _ s12 k12 => ?_
        obtain ⟨H12, I12, nx⟩ := k12
        exact next I12 nx
  exact codeAny_compStart_dict loop (T.self X.A 0 _ _ _ at4 loop)

theorem pe_dcG {X : Cx} {kx vx tg iter : Expr} {ifs : List Expr} {sc : Scope} {own : List (Str × Nat)} {pos : Pos} {wi : TI} {g : TG} {tt : TT} {tk tv : TE} {new : HO} {t : TStore}
    (so : StoreOk X.prog X.w X.A new t) (calm : X.calm = true) (nd : X.N.Nodup) (walk : PI X tg iter wi) (ok : BlkOk X.N X.env.scope sc own)
    (pgA : ∀ (s : Shared) (H : Hp) (C : Addr) (cl : List (Str × Addr)) (fp : List Addr), PG (X.blk s H sc (compEnvC sc cl C X.env) fp) tg g)
    (ptA : ∀ (s : Shared) (H : Hp) (C : Addr) (cl : List (Str × Addr)) (fp : List Addr), PTs (X.blk s H sc (compEnvC sc cl C X.env) fp) ifs tt)
    (pkA : ∀ (s : Shared) (H : Hp) (C : Addr) (cl : List (Str × Addr)) (fp : List Addr), PE (X.blk s H sc (compEnvC sc cl C X.env) fp) kx tk)
    (pvA : ∀ (s : Shared) (H : Hp) (C : Addr) (cl : List (Str × Addr)) (fp : List Addr), PE (X.blk s H sc (compEnvC sc cl C X.env) fp) vx tv)
    (hs : ∀ x, foldedSetIterable iter X.env x = pure x := by intro _; rfl) :
    PE X (.DictComp kx vx [⟨tg, iter, ifs, 0⟩] sc pos) (tDcG new t wi g tt tk tv (own.map (·.2))) := by
  constructor
  intro ps s st H Q I h
  rw [arm_eval_DictComp]
  refine dcG_core so calm nd I walk ok pgA ptA pkA pvA hs h fun D C s2 m H2 I2 q hn f => ⟨m, hn, fun h3 sb => ?_⟩
  obtain ⟨f0, f1, f2, f3, f4, f5⟩ := f
  exact ⟨.ref D, H2, I2.turned (t' := s2.toks) (fun b o hb e => (sb.2 b hb).trans e) f0 f1 f3 f4 f5, rfl, q⟩

/-- keys that are tuples of ints and texts -/
def stT : TStore := fun D y z H R => ∃ (b : Addr) (kvs : List (List L2.Key × V)) (k : List L2.Key), y = .ref b ∧ H b = some (.tup (k.map kV)) ∧ H D = some (.dT kvs) ∧ kvs.length < sizeLine ∧ R (upd H D (.dT (putK kvs k z)))
theorem storeT {P : Program} {w : World} {A : Around} (hu : A.units < cLine) : StoreOk P w A (.dT []) stT where
  fresh := fun H h hb => dt_empty h hb
  store := by
    intro X ps st H s D y z u r R eP ew eA I ry rz q
    subst eP ew eA
    obtain ⟨b, kvs, k, rfl, hb, hD, lt, q⟩ := q
    cases (show u = Value.ref b from ry)
    obtain ⟨le, nsys, xs, rel, dd⟩ := dt_of I.hok hD
    have hz : xs.length ≤ sizeLine := by
      have e := Paired.length rel
      omega
    refine wpAny_dictSet_heap (hsz := hz) (show (tupleKind (mixKind X.prog X.w)).room X.A from hu) (key_of I.hok hb) dd fun h2 d2 sb => ?_
    obtain ⟨o, es, ep, g1, g2, g3, g4, _, g5⟩ := d2
    refine ⟨_, d_write I (by rw [hD]; exact True.intro) sb ⟨o, g1⟩ ?_, q⟩
    have lp := length_putK kvs k z
    refine ⟨by omega, nsys, _, (rel.put k hb rz).keeps fun c ys ec => ?_, o, es, ep, g1, g2, g3, g4, g5⟩
    exact (upd_ne (ne_of ec hD (fun z => nomatch z))).trans ec
end Gk
/-! Gk2: sorted of a dict whose keys are tuples of texts. -/
namespace Gk
open PySem PySem.Spec PyProof.Rows L2

abbrev Pth := List Str
def pkey (p : Pth) : List (Int ⊕ List Nat) := p.map fun x => Sum.inr x.cps.toList
def ltP (p q : Pth) : Bool := PyProof.Rows.lexLt PyProof.Rows.itemOrd (pkey p) (pkey q)
abbrev shT : Nat → Bool := fun _ => true

theorem items_pth : ∀ (p : Pth) (us : List Value) (i : Nat), Vals (p.map V.str) us → tupItems shT i us = some (pkey p)
  | [], _, _, .nil => rfl
  | x :: p, _, i, .cons r t => by
    obtain ⟨k, rfl⟩ := r
    have e := items_pth p _ (i + 1) t
    show (if shT i = true then (tupItems shT (i + 1) _).map (Sum.inr x.cps.toList :: ·) else none) = _
    rw [if_pos rfl, e] <;> rfl

theorem tupKeyC_at {h : Heap} {a : Addr} {o : Obj} {xs : Array Value} {n : Nat} {l : List (Int ⊕ List Nat)} (ho : h.get? a = some o) (hc : o.cls = .type "tuple") (hd : o.data = .seq xs n)
    (hi : tupItems shT 0 xs.toList = some l) : G.tupKeyC h shT (.ref a) = some l := by
  have e1 : G.isTupObj h (.ref a) = true := by simp [G.isTupObj, ho, hc]
  unfold G.tupKeyC
  rw [if_pos e1]
  show tupKey h shT (.ref a) = some l
  simp only [tupKey, ho, hd]
  exact hi

section
variable {X : Cx}
/-- sorted(d), d's keys tuples of one or more texts -/
def rSortDT : List V → Hp → VK → Prop := fun vs H Q => ∃ (d : Addr) (kvs : List (List L2.Key × V)) (ks : List Pth), vs = [V.ref d] ∧ H d = some (.dT kvs) ∧ kvs.map (·.1) = ks.map (List.map Sum.inr) ∧ (∀ p ∈ ks, p ≠ []) ∧
  ∀ (bs : List (Addr × Pth)) (l : Addr), (bs.map (·.2)).Perm ks → bs.Pairwise (fun a b => ltP b.2 a.2 = false) → (∀ b ∈ bs, H b.1 = some (.tup (b.2.map V.str))) → H l = none →
    Q (.ref l) (upd H l (.lst (bs.map fun b => V.ref b.1)))

theorem kt_keys {H : Hp} : ∀ {kvs : List (List L2.Key × V)} {xs : List (List L2.Key × Addr × Value)} {ks : List Pth}, KT H kvs xs → kvs.map (·.1) = ks.map (List.map Sum.inr) →
    ∃ bs : List (Addr × Pth), bs.map (·.2) = ks ∧ bs.map (·.1) = xs.map (·.2.1) ∧ ∀ b ∈ bs, H b.1 = some (.tup (b.2.map V.str))
  | _, _, ks, .nil, e => by
    have e2 : ks = [] := List.map_eq_nil_iff.mp e.symm
    exact ⟨[], e2.symm, rfl, fun _ h => nomatch h⟩
  | p :: kvs, q :: xs, [], .cons _ _, e => nomatch e
  | p :: kvs, q :: xs, k :: ks, .cons r t, e => by
    rw [List.map_cons, List.map_cons] at e
    injection e with e1 e2
    obtain ⟨bs, b1, b2, b3⟩ := kt_keys t e2
    refine ⟨(q.2.1, k) :: bs, by rw [List.map_cons, b1], by rw [List.map_cons, List.map_cons, b2], ?_⟩
    intro b hb
    rcases List.mem_cons.mp hb with rfl | hb
    · have h1 := r.2.1
      rw [e1, List.map_map] at h1
      exact h1
    · exact b3 b hb

theorem vals_fst : ∀ cs : List (Addr × Pth), Vals (cs.map fun b => V.ref b.1) (cs.map fun b => Value.ref b.1)
  | [] => .nil
  | _ :: cs => .cons rfl (vals_fst cs)

theorem cr_sortedDT (calm : X.calm = true) : CallR X (.builtin "sorted") rSortDT := by
  intro ps st0 st H xs us Q I r h
  obtain ⟨d, kvs, ks, rfl, hd, hk, hne, q⟩ := h
  obtain ⟨u, rfl, rx⟩ := vals1 r
  cases rx
  obtain ⟨z, nsys, ys, pr, o, es, ep, ho, hx, hdat, hes, hkeys, hnd⟩ := dt_of I.hok hd
  obtain ⟨bs, b1, b2, b3⟩ := kt_keys pr hk
  have l1 : es.size = ys.length := size_of_entries hes
  have l2 : kvs.length = ys.length := Paired.length pr
  have lb : bs.length = ys.length := by
    have e := congrArg List.length b2
    rw [List.length_map, List.length_map] at e
    exact e
  refine Calls.call_function_entry PyProof.Rows.kind_sorted PyProof.Rows.plain_sorted PyProof.Rows.entry_sorted (PyProof.Rows.args_sorted1 _) ?_
  unfold Builtin.«sorted»
  refine wpAny_bind (m := checkCount "sorted" 1 1 _) (wpAny_pure ?_)
  refine wpAny_bind (PySem.W.kdu_collect (A := X.A.in1) (kdl_raw nsys hx hdat) (I.ok.hd calm) ho (by omega) fun h1 tk acc keep it => ?_)
  have ea : acc.toList = bs.map fun b => Value.ref b.1 := by
    have e0 : acc.toList.length = ys.length := by rw [Array.length_toList, it.1]; exact l1
    have e1 : (bs.map fun b => Value.ref b.1) = ys.map fun x => Value.ref x.2.1 := by
      have e := congrArg (List.map Value.ref) b2
      rw [List.map_map, List.map_map] at e
      exact e
    rw [e1]
    refine List.ext_getElem (by rw [List.length_map]; exact e0) fun j j1 j2 => ?_
    obtain ⟨en, g1, g2⟩ := it.2 j (acc.toList[j]) (by rw [← Array.getElem?_toList]; exact List.getElem?_eq_getElem j1)
    have g3 := entry_at hes j
    have j3 : j < ys.length := by omega
    rw [g1, List.getElem?_eq_getElem j3] at g3
    have g4 : en = entryOfKey (tupleKind (mixKind X.prog X.w)) ys[j] := Option.some.inj g3
    rw [g2, g4, List.getElem_map]
    rfl
  have I1 : Inv X ps st H { st0 with heap := h1, toks := tk } := I.kept keep
  rw [ea]
  have hln : (bs.map fun b => Value.ref b.1).length ≤ sizeLine := by rw [List.length_map]; omega
  refine wpAny_bind (wpAny_newList ?_ hln)
  have hoL : (h1.push (seqObj "list" (bs.map fun b => Value.ref b.1).toArray 0)).get? h1.objs.size = some (seqObj "list" (bs.map fun b => Value.ref b.1).toArray 0) := Heap.get?_push_size _ rfl
  show wpAny _ _ _ _ _ { st0 with heap := h1.push (seqObj "list" (bs.map fun b => Value.ref b.1).toArray 0), toks := tk }
  -- each key, where it stands
  have at1 : ∀ b ∈ bs, ∃ (ob : Obj) (its : List Value) (n : Nat), (h1.push (seqObj "list" (bs.map fun b => Value.ref b.1).toArray 0)).get? b.1 = some ob ∧ ob.cls = .type "tuple" ∧ ob.data = .seq its.toArray n ∧ Vals (b.2.map V.str) its := by
    intro b hb
    obtain ⟨_, its, rv, ob, g1, g2, n, g3⟩ := (show ObjOk X.prog X.w H h1 b.1 (.tup (b.2.map V.str)) from I1.hok b.1 _ (b3 b hb))
    exact ⟨ob, its, n, Heap.get?_push_of_some _ g1, g2, g3, rv⟩
  have key1 : ∀ b ∈ bs, G.tupKeyC (h1.push (seqObj "list" (bs.map fun b => Value.ref b.1).toArray 0)) shT (.ref b.1) = some (pkey b.2) := by
    intro b hb
    obtain ⟨ob, its, n, g1, g2, g3, rv⟩ := at1 b hb
    exact tupKeyC_at g1 g2 g3 (items_pth b.2 its 0 rv)
  have ne1 : ∀ b ∈ bs, b.2 ≠ [] := by
    intro b hb
    exact hne _ (by rw [← b1]; exact List.mem_map.mpr ⟨b, hb, rfl⟩)
  have tups : ∀ cs : List (Addr × Pth), (∀ b ∈ cs, b ∈ bs) → ∃ fs, TupsOf (h1.push (seqObj "list" (bs.map fun b => Value.ref b.1).toArray 0)) shT (cs.map fun b => Value.ref b.1) fs := by
    intro cs
    induction cs with
    | nil => intro _; exact ⟨[], .nil⟩
    | cons c cs ih =>
      intro hc
      obtain ⟨fs, t⟩ := ih fun b hb => hc b (List.mem_cons_of_mem _ hb)
      obtain ⟨ob, its, n, g1, g2, g3, rv⟩ := at1 c (hc c List.mem_cons_self)
      have nz := ne1 c (hc c List.mem_cons_self)
      cases e : c.2 with
      | nil => exact absurd e nz
      | cons x p =>
        rw [e, List.map_cons] at rv
        cases rv with
        | @cons _ u _ its' ru rt =>
          obtain ⟨k, rfl⟩ := ru
          exact ⟨Value.str x k :: fs, .cons ⟨c.1, ob, _, n, rfl, g1, g2, g3, rfl, (fun z => nomatch z), fun _ => ⟨x, k, rfl⟩⟩ t⟩
  obtain ⟨fs, tu⟩ := tups bs fun _ hb => hb
  refine wpAny_bind (wpAny_holding (wpAny_call_entry PyProof.Rows.slot_list_sort ⟨_, hoL, rfl⟩ PyProof.Rows.entry_list_sort
    (G.list_sort_tups (s := { st0 with heap := h1.push (seqObj "list" (bs.map fun b => Value.ref b.1).toArray 0), toks := tk }) (shape := shT) hoL tu ?_ hln fun so hp hs _ => ⟨_, rfl, ?_⟩)
    (PyProof.Rows.args_list_sort _)))
  · intro v hv
    obtain ⟨b, hb, rfl⟩ := List.mem_map.mp hv
    exact ⟨_, key1 b hb⟩
  · have hpl : (arrOf so).toList.Perm (bs.map fun b => ((Value.ref b.1, Value.ref b.1) : Keyed)) := by
      have e := Array.perm_iff_toList_perm.mp hp
      rw [pairsOf_toList] at e
      have e2 : ((bs.map fun b => Value.ref b.1).zip (bs.map fun b => Value.ref b.1)) = bs.map fun b => ((Value.ref b.1, Value.ref b.1) : Keyed) := by
        rw [List.zip_map'] <;> rfl
      rw [e2] at e
      exact e
    obtain ⟨cs, c1, c2⟩ := perm_lift (fun b : Addr × Pth => ((Value.ref b.1, Value.ref b.1) : Keyed)) hpl bs rfl
    have out : ((arrOf so).map (·.2)).toList = cs.map fun b => Value.ref b.1 := by
      rw [Array.toList_map, ← c2, List.map_map] <;> rfl
    have len : cs.length = bs.length := c1.length_eq
    have kk : ∀ (i : Nat) (hi : i < cs.length), KK (G.tupKindC (h1.push (seqObj "list" (bs.map fun b => Value.ref b.1).toArray 0)) shT) (arrOf so) i = pkey cs[i].2 := by
      intro i hi
      have e : (arrOf so)[i]? = some ((Value.ref cs[i].1, Value.ref cs[i].1) : Keyed) := by
        rw [← Array.getElem?_toList, ← c2, List.getElem?_map, List.getElem?_eq_getElem hi] <;> rfl
      unfold KK
      rw [e]
      show (G.tupKeyC (h1.push (seqObj "list" (bs.map fun b => Value.ref b.1).toArray 0)) shT (.ref cs[i].1)).getD [] = _
      rw [key1 cs[i] (c1.mem_iff.mp (List.getElem_mem hi))] <;> rfl
    have srt : cs.Pairwise (fun a b => ltP b.2 a.2 = false) := by
      rw [List.pairwise_iff_getElem]
      intro i j hi hj lt
      have r : PyProof.Rows.lexLt PyProof.Rows.itemOrd (KK (G.tupKindC (h1.push (seqObj "list" (bs.map fun b => Value.ref b.1).toArray 0)) shT) (arrOf so) j)
          (KK (G.tupKindC (h1.push (seqObj "list" (bs.map fun b => Value.ref b.1).toArray 0)) shT) (arrOf so) i) = false :=
        hs i j (Nat.le_of_lt lt) (by rw [pairsOf_size, List.length_map]; omega)
      rw [kk i hi, kk j hj] at r
      exact r
    obtain ⟨ep2, he2⟩ := PyProof.Rows.sortedHeap_at (vs := bs.map fun b => Value.ref b.1) (out := (arrOf so).map (·.2)) hoL
    have lc : (cs.map fun b => V.ref b.1).length ≤ sizeLine := by rw [List.length_map]; omega
    refine wpAny_pure ⟨_, rfl, .ref h1.objs.size, upd H h1.objs.size (.lst (cs.map fun b => V.ref b.1)), I1.laid (t' := tk) (fun b u e => ?_) (Nat.le_refl _)
      (show ObjOk X.prog X.w _ _ _ (.lst (cs.map fun b => V.ref b.1)) from ⟨lc, ((arrOf so).map (·.2)).toList, ep2, by rw [out]; exact vals_fst cs, by rw [Array.toArray_toList]; exact he2⟩), rfl,
      q cs _ (by rw [← b1]; exact c1.map _) srt (fun b hb => b3 b (c1.mem_iff.mp hb)) (I1.hok.fresh (Nat.le_refl _))⟩
    have lt := Heap.lt_size e
    rw [PyProof.Rows.sortedHeap_old (Nat.ne_of_lt lt) (by rw [size_push']; exact Nat.lt_succ_of_lt lt)]
    exact Heap.get?_push_of_some _ e
end
end Gk
/-! Gk3: operators that a class of the program's own defines, by the promise of its method; a method called with keywords. -/
namespace Gk
open PySem PySem.Spec PyProof.Rows L2

theorem rel_ni {v : V} {u : Value} (r : RelV v u) : u ≠ .notImplemented := by
  intro e
  subst e
  cases v with
  | non => exact nomatch (show Value.notImplemented = Value.none from r)
  | bl b => exact nomatch (show Value.notImplemented = Value.bool b from r)
  | int i => obtain ⟨t, e⟩ := (show ∃ t, Value.notImplemented = Value.int i t from r); exact nomatch e
  | str x => obtain ⟨t, e⟩ := (show ∃ t, Value.notImplemented = Value.str x t from r); exact nomatch e
  | byt b => obtain ⟨t, e⟩ := (show ∃ t, Value.notImplemented = Value.bytes b t from r); exact nomatch e
  | flt b => obtain ⟨t, e⟩ := (show ∃ t, Value.notImplemented = Value.float b t from r); exact nomatch e
  | ref a => exact nomatch (show Value.notImplemented = Value.ref a from r)
  | ty n => exact nomatch (show Value.notImplemented = Value.type n from r)
theorem cmpBack_of {Q : Value → Shared → Prop} {u : Value} {s : Shared} (hn : u ≠ .notImplemented) (h : Q u s) : PySem.W.CmpBack Q u s := by
  cases u with
  | notImplemented => exact hn rfl
  | _ => exact h

section
variable {X : Cx} {CX : CXT} {k : Nat} {f C : Addr} {fd : FuncData} {ps : List Str} {sp : Sp} {E : XK}

/-- a def is run somewhere below the body X, the frames being the body's -/
theorem run_below {A : Around} {pins : List (Addr × Obj)} {st : L2.St} {H : Hp} {s : Shared} {Q : VK} {us : List Value} {vs : List V} (F : FnOk X.prog X.w X.K X.mg X.base CX k f fd ps sp) (fr : A.frames = X.A.frames) (hr : Room k A)
    (hb : Binds X.K fd ps []) (hx : Passes CX X E) (I : Inv X pins st H s) (r : Vals vs us) (h : sp vs H Q E) : wpAny (model X.prog X.w) A (call (.ref f) us) (EP X pins st Q) X.xe s := by
  have e0 : Env0 X.prog X.w X.K X.mg X.base A X.stack s H := by
    have e := I.env0
    exact ⟨fr.trans e.frames, e.mod, e.bs, e.bsz, e.funs, e.frf, e.hok, e.bare⟩
  have hl : us.length = ps.length := r.length.symm.trans (F.len _ _ _ _ h)
  have bd := hb s us I.kIn (by rw [List.append_nil]; exact hl)
  rw [List.append_nil] at bd
  refine wpAny_call (codeAny_mono (F.run A X.stack s H ⟨us, []⟩ us vs Q E hr e0 bd r h) ?_)
  intro res s2 q
  match res, q with
  | .error e, q => exact hx pins st H s e s2 I q
  | .ok (.ret u), q => exact I.after q
  | .ok .next, q => exact q.elim
  | .ok .brk, q => exact q.elim
  | .ok .cont, q => exact q.elim

/-- a method of the class, found by an operator -/
structure Dun (K : PySem.W.Frag) (C : Addr) (m : Str) (f : Addr) : Prop where
  at_ : PySem.W.findIn K (.ref C) m = some (some (.ref f))
  fn : PySem.W.isFn K (.ref f) = true

/-- x op y, both of the class -/
def rOwn (C : Addr) (sp : Sp) (E : XK) : R2 := fun x y H Q => ∃ (a b dx dy : Addr) (fs gs : List (Str × V)), x = .ref a ∧ y = .ref b ∧ H a = some (.ins C dx fs) ∧ H b = some (.ins C dy gs) ∧ sp [.ref a, .ref b] H Q E
theorem op_own {op : Operator} (F : FnOk X.prog X.w X.K X.mg X.base CX k f fd ps sp) (D : Dun X.K C (PySem.dunder op.info.2) f) (self : PySem.W.selfFirst X.K C = true) (hr : Room k X.A) (hb : Binds X.K fd ps []) (hx : Passes CX X E) :
    OpR X (binaryOp op) (rOwn C sp E) := by
  intro pins s st H x y v u Q I rx ry h
  obtain ⟨a, b, dx, dy, fs, gs, rfl, rfl, ha, hb2, h⟩ := h
  cases rx
  cases ry
  obtain ⟨mA, J, _⟩ := ins_get I.hok ha
  obtain ⟨mB, J2, _⟩ := ins_get I.hok hb2
  obtain ⟨od, J, _⟩ := J.look
  obtain ⟨od2, J2, _⟩ := J2.look
  obtain ⟨m, hF⟩ := I.fr
  refine PySem.W.binop_K hF I.ok.mod.kin J J2.type self D.at_ D.fn ?_
  refine thn (run_below F rfl hr hb hx I (show Vals [V.ref a, V.ref b] [Value.ref a, Value.ref b] from .cons rfl (.cons rfl .nil)) h) fun u2 s2 q => ?_
  obtain ⟨z, H2, I2, rz, q2⟩ := q
  exact cmpBack_of (rel_ni rz) ⟨z, H2, I2, rz, q2⟩

/-- y in x, x of the class -/
def rOwnIn (C : Addr) (sp : Sp) (E : XK) (neg : Bool) : R2 := fun y x H Q => ∃ (a dx : Addr) (fs : List (Str × V)), x = .ref a ∧ H a = some (.ins C dx fs) ∧
  sp [.ref a, y] H (fun r H2 => ∃ c : Bool, r = .bl c ∧ Q (.bl (if neg then !c else c)) H2) E
theorem op_ownIn (F : FnOk X.prog X.w X.K X.mg X.base CX k f fd ps sp) (D : Dun X.K C "__contains__" f) (hr : Room k X.A) (hb : Binds X.K fd ps []) (hx : Passes CX X E) : OpR X (compareOp .In) (rOwnIn C sp E false) := by
  intro pins s st H y x v u Q I ry rx h
  obtain ⟨a, dx, fs, rfl, ha, h⟩ := h
  cases rx
  obtain ⟨mA, J, _⟩ := ins_get I.hok ha
  obtain ⟨od, J, _⟩ := J.look
  obtain ⟨m, hF⟩ := I.fr
  refine PySem.W.in_K hF I.ok.mod.kin J D.at_ D.fn ?_
  refine thn (run_below F rfl hr hb hx I (show Vals [V.ref a, y] [Value.ref a, v] from .cons rfl (.cons ry .nil)) h) fun u2 s2 q => ?_
  obtain ⟨z, H2, I2, rz, c, rfl, q2⟩ := q
  cases rz
  exact wpAny_truthy_bool ⟨.bl c, H2, I2, rfl, q2⟩
theorem op_ownNotIn (F : FnOk X.prog X.w X.K X.mg X.base CX k f fd ps sp) (D : Dun X.K C "__contains__" f) (hr : Room k X.A) (hb : Binds X.K fd ps []) (hx : Passes CX X E) : OpR X (compareOp .NotIn) (rOwnIn C sp E true) := by
  intro pins s st H y x v u Q I ry rx h
  obtain ⟨a, dx, fs, rfl, ha, h⟩ := h
  cases rx
  obtain ⟨mA, J, _⟩ := ins_get I.hok ha
  obtain ⟨od, J, _⟩ := J.look
  obtain ⟨m, hF⟩ := I.fr
  refine PySem.W.notIn_K hF I.ok.mod.kin J D.at_ D.fn ?_
  refine thn (run_below F rfl hr hb hx I (show Vals [V.ref a, y] [Value.ref a, v] from .cons rfl (.cons ry .nil)) h) fun u2 s2 q => ?_
  obtain ⟨z, H2, I2, rz, c, rfl, q2⟩ := q
  cases rz
  exact wpAny_truthy_bool ⟨.bl (!c), H2, I2, rfl, q2⟩

/-- x == y, both of the class -/
theorem op_ownEq (F : FnOk X.prog X.w X.K X.mg X.base CX k f fd ps sp) (D : Dun X.K C "__eq__" f) (hr : Room k X.A) (hb : Binds X.K fd ps []) (hx : Passes CX X E) : OpR X (compareOp .Eq) (rOwn C sp E) := by
  intro pins s st H x y v u Q I rx ry h
  obtain ⟨a, b, dx, dy, fs, gs, rfl, rfl, ha, hb2, h⟩ := h
  cases rx
  cases ry
  obtain ⟨mA, J, _⟩ := ins_get I.hok ha
  obtain ⟨mB, J2, _⟩ := ins_get I.hok hb2
  obtain ⟨od, J, _⟩ := J.look
  obtain ⟨od2, J2, _⟩ := J2.look
  obtain ⟨m, hF⟩ := I.fr
  refine PySem.W.cmp_K (op := .Eq) (tb := .ref C) hr.units0 hF I.ok.mod.kin J J2.type (by simp [PySem.W.notFirst]) D.at_ D.fn ?_
  refine thn (run_below F rfl hr hb hx I (show Vals [V.ref a, V.ref b] [Value.ref a, Value.ref b] from .cons rfl (.cons rfl .nil)) h) fun u2 s2 q => ?_
  obtain ⟨z, H2, I2, rz, q2⟩ := q
  exact cmpBack_of (rel_ni rz) ⟨z, H2, I2, rz, q2⟩
end

/-! ### != where the class has an __eq__ alone -/
section
variable {prog : Program} {w : World} {A : Around} {E : Value → Shared → Prop} {s : Shared} {K : PySem.W.Frag} {x C L f : Addr} {h0 : Heap} {m : Str → Option Value} {ox : Obj} {od : Option Obj} {b tb : Value}

/-- the class has object's own __ne__ -/
structure NoNe (K : PySem.W.Frag) (C : Addr) : Prop where
  ne : PySem.W.findIn K (.ref C) "__ne__" = some (some (.builtin "object.__ne__"))
  obj : PySem.W.subIn K (.ref C) (.type "object") = some true

theorem ne_body {Q : Fin → Shared → Prop} (hu : A.units < cLine) (X : K.In s.heap) (I : PySem.W.InstAt s.heap x ox C od) (hs : PySem.W.findIn K (.ref C) "__eq__" = some (some (.ref f))) (hf : PySem.W.isFn K (.ref f) = true)
    (h : wpAny (model prog w) A (call (.ref f) [.ref x, b]) (fun v s2 => ∃ c, v = .bool c ∧ Q (.done (.ret (.bool (!c)))) s2) E s) : wpAny (model prog w) A (Builtin.«object.__ne__» ⟨[.ref x, b], []⟩) Q E s := by
  have e : Builtin.«object.__ne__» ⟨[.ref x, b], []⟩ = (do
      cRoomFor "comparison" [.ref x, b]
      match ← callSpecialIfBound? (.ref x) "__eq__" [b] with
      | some .notImplemented | none => ret .notImplemented
      | some r => ret (.bool (!(← truthy r)))) := rfl
  rw [e]
  refine wpAny_bind (wpAny_cRoomFor hu (wpAny_bind (PySem.W.ifBound_K X I hs hf (thn h fun v s2 q => ?_))))
  obtain ⟨c, rfl, q⟩ := q
  exact wpAny_bind (wpAny_truthy_bool (wpAny_pure q))

theorem ne_call {Q : Value → Shared → Prop} (hu : A.units + 1 < cLine) (X : K.In s.heap) (I : PySem.W.InstAt s.heap x ox C od) (N : NoNe K C) (hs : PySem.W.findIn K (.ref C) "__eq__" = some (some (.ref f))) (hf : PySem.W.isFn K (.ref f) = true)
    (h : wpAny (model prog w) A.in1 (call (.ref f) [.ref x, b]) (fun v s2 => ∃ c, v = .bool c ∧ Q (.bool (!c)) s2) E s) : wpAny (model prog w) A (call (.builtin "object.__ne__") [.ref x, b]) Q E s := by
  have top : PySem.W.Looks (model prog w) s.heap (isInstance (.ref x) (.type "object")) true := I.type.andThen (PySem.W.looks_subIn X N.obj)
  refine wpAny_call (codeAny_call_builtin F.cmp_object.ne.plain F.cmpEntry_ne (PySem.W.check_slot F.cmpKind_ne F.cmpSplit_ne top (F.cmpArgs_ne _ _) ?_))
  refine ne_body (A := A.in1) hu X I hs hf (thn h fun v s2 q => ?_)
  obtain ⟨c, rfl, q⟩ := q
  exact ⟨c, rfl, q⟩

theorem ne_try {Q : Option Value → Shared → Prop} (hu : A.units + 1 < cLine) (X : K.In s.heap) (I : PySem.W.InstAt s.heap x ox C od) (N : NoNe K C) (hs : PySem.W.findIn K (.ref C) "__eq__" = some (some (.ref f))) (hf : PySem.W.isFn K (.ref f) = true)
    (h : wpAny (model prog w) A.in1 (call (.ref f) [.ref x, b]) (fun v s2 => ∃ c, v = .bool c ∧ Q (some (.bool (!c))) s2) E s) : wpAny (model prog w) A (tryCompare (.ref x) "__ne__" b) Q E s := by
  have go : wpAny (model prog w) A (call (.builtin "object.__ne__") ([.ref x] ++ [b]) >>= fun v => pure (some v)) (fun r s2 => ∃ c, r = some (Value.bool c) ∧ Q (some (.bool c)) s2) E s :=
    wpAny_bind (thn (ne_call (Q := fun v s2 => ∃ c, v = .bool c ∧ Q (some (.bool c)) s2) hu X I N hs hf (thn h fun v s2 q => by
      obtain ⟨c, rfl, q⟩ := q
      exact ⟨c, rfl, !c, rfl, q⟩)) fun v s2 q => by
      obtain ⟨c, rfl, q⟩ := q
      exact wpAny_pure ⟨c, rfl, q⟩)
  unfold tryCompare
  refine wpAny_bind (wpAny_mono (Q := fun r s2 => ∃ c, r = some (Value.bool c) ∧ Q (some (.bool c)) s2) ?_ (fun r s2 q => ?_) fun _ _ z => z)
  · simp only [callSpecialIfBound?, bindSpecialIfBound?]
    refine wpAny_holding (wpAny_bind (wpAny_bind (wpAny_bind (I.type.here ((PySem.W.looks_findIn X N.ne).here ?_)))))
    simp only [F.cmp_object.ne.bind]
    refine wpAny_bind (wpAny_askSetting (wpAny_ite ?_))
    split
    · exact wpAny_bind (wpAny_pure (wpAny_pure (by exact go)))
    · exact wpAny_tryCatch (wpAny_bind (wpAny_pure (wpAny_pure (by exact go))))
  · obtain ⟨c, rfl, q⟩ := q
    exact wpAny_pure q

theorem ne_K {Q : Value → Shared → Prop} (hu : A.units + 1 < cLine) (F0 : Fr h0 L s.heap m) (X0 : K.In h0) (I : PySem.W.InstAt s.heap x ox C od) (tyb : PySem.W.Looks (model prog w) s.heap (typeOf b) tb) (hn : PySem.W.notFirst K C tb = true)
    (N : NoNe K C) (hs : PySem.W.findIn K (.ref C) "__eq__" = some (some (.ref f))) (hf : PySem.W.isFn K (.ref f) = true)
    (h : wpAny (model prog w) A.in1 (call (.ref f) [.ref x, b]) (fun v s2 => ∃ c, v = .bool c ∧ Q (.bool (!c)) s2) E s) : wpAny (model prog w) A (richCompare .NotEq (.ref x) b) Q E s := by
  have X := X0.keeps F0.keep
  have one : wpAny (model prog w) A (tryCompare (.ref x) "__ne__" b) (fun r s2 => ∃ v, r = some v ∧ Q v s2) E s :=
    ne_try (Q := fun r s2 => ∃ v, r = some v ∧ Q v s2) hu X I N hs hf (thn h fun v s2 q => by
      obtain ⟨c, rfl, q⟩ := q
      exact ⟨c, rfl, _, rfl, q⟩)
  unfold richCompare
  simp only [oneThing_ref]
  refine wpAny_holding (wpAny_bind (wpAny_cRoomFor (Nat.lt_of_succ_lt hu) ?_))
  rw [cmpInfo_NotEq]
  dsimp only
  refine wpAny_bind (I.type.here (wpAny_bind (tyb.here ?_)))
  split
  · rename_i q
    have e : PySem.W.subIn K tb (.ref C) = some false := by
      rcases Bool.or_eq_true_iff.mp hn with e | e
      · exact absurd q (by rw [beq_iff_eq.mp e]; simp)
      · exact beq_iff_eq.mp e
    refine wpAny_bind ((PySem.W.looks_subIn X e).here ?_)
    rw [if_neg Bool.false_ne_true]
    refine wpAny_bind (thn one fun r s2 q => ?_)
    obtain ⟨v, rfl, q⟩ := q
    exact wpAny_pure q
  · refine wpAny_bind (wpAny_pure ?_)
    rw [if_neg Bool.false_ne_true]
    refine wpAny_bind (thn one fun r s2 q => ?_)
    obtain ⟨v, rfl, q⟩ := q
    exact wpAny_pure q
end

section
variable {X : Cx} {CX : CXT} {k : Nat} {f C : Addr} {fd : FuncData} {ps : List Str} {sp : Sp} {E : XK}
def rOwnNe (C : Addr) (sp : Sp) (E : XK) : R2 := fun x y H Q => ∃ (a b dx dy : Addr) (fs gs : List (Str × V)), x = .ref a ∧ y = .ref b ∧ H a = some (.ins C dx fs) ∧ H b = some (.ins C dy gs) ∧
  sp [.ref a, .ref b] H (fun r H2 => ∃ c : Bool, r = .bl c ∧ Q (.bl (!c)) H2) E
theorem op_ownNe (F : FnOk X.prog X.w X.K X.mg X.base CX k f fd ps sp) (D : Dun X.K C "__eq__" f) (N : NoNe X.K C) (hr : Room (k + 1) X.A) (hb : Binds X.K fd ps []) (hx : Passes CX X E) : OpR X (compareOp .NotEq) (rOwnNe C sp E) := by
  intro pins s st H x y v u Q I rx ry h
  obtain ⟨a, b, dx, dy, fs, gs, rfl, rfl, ha, hb2, h⟩ := h
  cases rx
  cases ry
  obtain ⟨mA, J, _⟩ := ins_get I.hok ha
  obtain ⟨mB, J2, _⟩ := ins_get I.hok hb2
  obtain ⟨od, J, _⟩ := J.look
  obtain ⟨od2, J2, _⟩ := J2.look
  obtain ⟨m, hF⟩ := I.fr
  refine ne_K (tb := .ref C) (hu_of hr) hF I.ok.mod.kin J J2.type (by simp [PySem.W.notFirst]) N D.at_ D.fn ?_
  refine thn (run_below (A := X.A.in1) F rfl hr.in1 hb hx I (show Vals [V.ref a, V.ref b] [Value.ref a, Value.ref b] from .cons rfl (.cons rfl .nil)) h) fun u2 s2 q => ?_
  obtain ⟨z, H2, I2, rz, c, rfl, q2⟩ := q
  cases rz
  exact ⟨c, rfl, .bl (!c), H2, I2, rfl, q2⟩

/-- o.m(k = v, ..) -/
def tMethK (C : Addr) (m : Str) (n : Nat) (sp : Sp) (gV : List V → List V → List V) (E : XK) (ta : TE) (tk : TA) : TE := fun st H Q => ta st H fun x H1 => ∃ (a dx : Addr) (fs : List (Str × V)), x = .ref a ∧ H1 a = some (.ins C dx fs) ∧ fs.lookup m = none ∧
  tk st H1 fun zs H2 => zs.length = n ∧ sp (gV [x] zs) H2 Q E
theorem pe_methK {o : Expr} {m : Str} {apos pos : Pos} {kws : List Keyword} {ks : List Str} {g : List Value → List Value → List Value} {gV : List V → List V → List V} {ta : TE} {tk : TA} {pl : Sem Bool} (ho : PE X o ta) (c : Cls X.K C)
    (hm : Meth X.K C m f) (F : FnOk X.prog X.w X.K X.mg X.base CX k f fd ps sp) (hr : Room k X.A) (hb : KBn X.K fd ps 1 ks g gV) (hx : Passes CX X E) (hkw : PK X kws tk)
    (hall : (backToKw pos (keywordEach kws X.env)).all (·.1.isSome) = true := by rfl) (hks : (backToKw pos (keywordEach kws X.env)).filterMap (·.1) = ks := by rfl)
    (hpl : ((backTo pos (starEach [] X.env)).any (·.1) || (backToKw pos (keywordEach kws X.env)).any (·.1.isNone)) = false := by rfl)
    (ht : eval (.Call (.Attribute o m apos) [] kws pos) X.env = (do
      let ov ← eval o X.env
      standAt apos.atName
      let (fv, first) ← holding [ov] (getMethod ov m pl)
      callWith pos fv first (backTo pos (starEach [] X.env)) (backToKw pos (keywordEach kws X.env))) := by rfl) :
    PE X (.Call (.Attribute o m apos) [] kws pos) (tMethK C m ks.length sp gV E ta tk) := by
  constructor
  intro pins s st H Q I h
  refine PySem.W.methodCall_KW (pl := pl) (thn (ho.run pins s st H _ I h) fun u s1 k1 => ?_) ht
  obtain ⟨x, H1, I1, rx, a, dx, fs, rfl, ha, l, q⟩ := k1
  cases rx
  refine getmeth_ok I1 ha c hm l ?_
  refine PySem.W.callWith_KW0 (first := [.ref a]) (h₀ := X.base) I.ok.mod.kin hm.kp hall ?_ hpl
  refine thn (hkw.run pos pins s1 st H1 _ I1 q) fun ws s2 k2 => ?_
  obtain ⟨zs, H2, I2, rz, lz, q2⟩ := k2
  refine ⟨I2.kIn, ?_⟩
  rw [hks]
  exact run_fnN (us := [.ref a]) (vs := [.ref a]) F hr hb hx I2 (.cons rfl .nil) rz rfl lz q2
end
/-- how a def without defaults binds keywords -/
theorem fun_kbn {K : PySem.W.Frag} {x qual : Str} {st : Stmt} {f : Addr} {fd : FuncData} {ps ks : List Str} {n : Nat} (F : Fun K x qual st f fd)
    (h : ∀ (kV doc pm : Value) (an : Option Addr) (cdv ct : Value) (us ws : List Value), us.length = n → ws.length = ks.length → bindArgs (PySem.W.fnOf x qual (defArgs st) (defBody st) (defScope st) .none kV doc pm an cdv ct) ⟨us, ks.zip ws⟩ = pure (ps.zip (us ++ ws))) :
    KBn K fd ps n ks (fun us ws => us ++ ws) (fun vs zs => vs ++ zs) := by
  obtain ⟨oc, od, kV, doc, pm, an, cdv, ct, osl, rfl, lk, hcd⟩ := F.ex
  exact ⟨fun s us ws _ l1 l2 => .of_eq (h kV doc pm an cdv ct us ws l1 l2), fun r1 r2 => r1.append r2⟩
/-- a method and its promise -/
structure Dm (P : Program) (w : World) (K : PySem.W.Frag) (mg : Str → Option Value) (base : Heap) (C : Addr) (k : Nat) (m : Str) (f : Addr) (ps : List Str) (sp : Sp) : Prop where
  ex : ∃ fd, FnOk P w K mg base CX0 k f fd ps sp ∧ Binds K fd ps []
  me : Meth K C m f
section
variable {X : Cx} {C f : Addr} {k : Nat} {m : Str} {ps : List Str} {sp : Sp}
theorem op_dm {op : Operator} (D : Dm X.prog X.w X.K X.mg X.base C k (PySem.dunder op.info.2) f ps sp) (self : PySem.W.selfFirst X.K C = true) (hr : Room k X.A) : OpR X (binaryOp op) (rOwn C sp E0) := by
  obtain ⟨fd, F, b⟩ := D.ex
  exact op_own F ⟨D.me.at_, D.me.fn⟩ self hr b pass0
theorem op_dmEq (D : Dm X.prog X.w X.K X.mg X.base C k "__eq__" f ps sp) (hr : Room k X.A) : OpR X (compareOp .Eq) (rOwn C sp E0) := by
  obtain ⟨fd, F, b⟩ := D.ex
  exact op_ownEq F ⟨D.me.at_, D.me.fn⟩ hr b pass0
theorem op_dmNe (D : Dm X.prog X.w X.K X.mg X.base C k "__eq__" f ps sp) (N : NoNe X.K C) (hr : Room (k + 1) X.A) : OpR X (compareOp .NotEq) (rOwnNe C sp E0) := by
  obtain ⟨fd, F, b⟩ := D.ex
  exact op_ownNe F ⟨D.me.at_, D.me.fn⟩ N hr b pass0
theorem op_dmIn (D : Dm X.prog X.w X.K X.mg X.base C k "__contains__" f ps sp) (hr : Room k X.A) : OpR X (compareOp .In) (rOwnIn C sp E0 false) := by
  obtain ⟨fd, F, b⟩ := D.ex
  exact op_ownIn F ⟨D.me.at_, D.me.fn⟩ hr b pass0
theorem op_dmNotIn (D : Dm X.prog X.w X.K X.mg X.base C k "__contains__" f ps sp) (hr : Room k X.A) : OpR X (compareOp .NotIn) (rOwnIn C sp E0 true) := by
  obtain ⟨fd, F, b⟩ := D.ex
  exact op_ownNotIn F ⟨D.me.at_, D.me.fn⟩ hr b pass0
theorem pe_dm {o e : Expr} {es : List Expr} {apos pos : Pos} {ta : TE} {t : TA} {pl : Sem Bool} (ho : PE X o ta) (c : Cls X.K C) (D : Dm X.prog X.w X.K X.mg X.base C k m f ps sp) (hr : Room k X.A) (ha : PA X (e :: es) t)
    (hst : starEach (e :: es) X.env = (false, eval e X.env) :: starEach es X.env := by rfl) (hpl : (backTo pos (starEach es X.env)).any (·.1) = false := by rfl)
    (ht : eval (.Call (.Attribute o m apos) (e :: es) [] pos) X.env = (do
      let ov ← eval o X.env
      standAt apos.atName
      let (fv, first) ← holding [ov] (getMethod ov m pl)
      callWith pos fv first (backTo pos (starEach (e :: es) X.env)) (backToKw pos (keywordEach [] X.env))) := by rfl) :
    PE X (.Call (.Attribute o m apos) (e :: es) [] pos) (tMeth C m sp [] E0 ta t) := by
  obtain ⟨fd, F, b⟩ := D.ex
  exact pe_meth (pl := pl) ho c D.me F hr b .nil pass0 ha hst hpl ht
end
end Gk
/-! Gk4: what stays, comprehensions whose heap grows, defs as bundles. -/
namespace Gk
open PySem PySem.Spec PyProof.Rows L2

/-! ### what stays: all but the addresses of T -/
def Kp (T : Addr → Prop) (H H2 : Hp) : Prop := ∀ b o, ¬ T b → H b = some o → H2 b = some o
abbrev T0 : Addr → Prop := fun _ => False
theorem Kp.refl {T : Addr → Prop} (H : Hp) : Kp T H H := fun _ _ _ h => h
theorem Kp.trans {T : Addr → Prop} {H H1 H2 : Hp} (a : Kp T H H1) (b : Kp T H1 H2) : Kp T H H2 := fun c o n h => b c o n (a c o n h)
theorem Kp.at0 {H H2 : Hp} (a : Kp T0 H H2) {b : Addr} {o : HO} (h : H b = some o) : H2 b = some o := a b o id h
theorem Kp.wide {T : Addr → Prop} {H H2 : Hp} (a : Kp T0 H H2) : Kp T H H2 := fun b o _ h => a b o id h
theorem Kp.new {T : Addr → Prop} {H H2 : Hp} {p : Addr} {o : HO} (a : Kp T H H2) (h : H2 p = none) : Kp T H (upd H2 p o) := fun b u n e => by
  have z := a b u n e
  rw [upd_ne (ne_of_none z h)]
  exact z
theorem Kp.put {T : Addr → Prop} {H H2 : Hp} {p : Addr} {o : HO} (a : Kp T H H2) (h : T p) : Kp T H (upd H2 p o) := fun b u n e => by
  rw [upd_ne (fun z => n (by rw [z]; exact h))]
  exact a b u n e
theorem Kp.over {T : Addr → Prop} {H H2 : Hp} {p : Addr} {o : HO} (a : Kp T H H2) (h : H p = none) : Kp T H (upd H2 p o) := fun b u n e => by
  rw [upd_ne (ne_of_none e h)]
  exact a b u n e
theorem Kp.free {H H2 : Hp} (a : Kp T0 H H2) {p : Addr} (h : H2 p = none) : H p = none := by
  cases e : H p with
  | none => rfl
  | some o => rw [a.at0 e] at h; cases h

/-! ### a comprehension -/
theorem lc_kp {T : Addr → Prop} {J : It} {n : Nat} {G : Hp → Prop} {Y : Nat → Hp → V → Hp → Prop} (w : Walk J n G Y) {i0 : Nat} {tt : TT} {te : TE} {vs : List Nat} {st : L2.St} {H1 : Hp} {D : Addr} {Qd : Hp → Prop}
    (src : Nat → V → Prop) (P : Nat → List V → Hp → Prop) (hY : ∀ i H x H2, i < n → Y i H x H2 → H2 = H ∧ src i x) (hD : H1 D = none) (hT : ¬ T D) (hn : n < sizeLine)  (hws : ∀ x, wipe ((wipe st vs).set i0 (some x)) vs = wipe st vs) (hG : ∀ H, Kp T H1 H → G H) (p0 : P 0 [] (upd H1 D (.lst [])))
    (step : ∀ (i : Nat) (x : V) (ys : List V) (H : Hp) (Ky : V → Hp → Prop) (Kn : Hp → Prop), i < n → src i x → Kp T H1 H → H D = some (.lst ys) → P i ys H →
      (∀ y H4, Kp T H H4 → P (i + 1) (ys ++ [y]) (upd H4 D (.lst (ys ++ [y]))) → Ky y H4) → (∀ H3, Kp T H H3 → P (i + 1) ys H3 → Kn H3) →
      tt ((wipe st vs).set i0 (some x)) H fun b H3 => if b = true then te ((wipe st vs).set i0 (some x)) H3 Ky else Kn H3)
    (fin : ∀ ys H, Kp T H1 H → H D = some (.lst ys) → ys.length ≤ n → P n ys H → Qd H) :
    ∃ W : Nat → Nat → Hp → Prop, (∃ m, W 0 m (upd H1 D (.lst []))) ∧ ∀ i m H, W i m H →
      (J.stop i H ∧ Qd H) ∨ (J.go i H ∧ ∃ Nx : Hp → Prop, (∀ H2, Nx H2 → ∃ m2, m2 < m ∧ W (i + 1) m2 H2) ∧ ∀ x H2, J.yld i H x H2 → gName i0 x (wipe st vs) H2 fun s2 H2 => wipe s2 vs = wipe st vs ∧ tt s2 H2 fun b H3 =>
        if b = true then te s2 H3 fun y H4 => ∃ acc, H4 D = some (.lst acc) ∧ acc.length < sizeLine ∧ Nx (upd H4 D (.lst (acc ++ [y]))) else Nx H3) := by
  refine lc_it w (fun i H => ∃ ys, Kp T H1 H ∧ H D = some (.lst ys) ∧ ys.length ≤ i ∧ P i ys H) ⟨[], (Kp.refl H1).over hD, upd_same, Nat.le_refl _, p0⟩ (fun i H _ q => ?_) (fun i x H H2 hi q y => ?_) (fun H q => ?_)
  · obtain ⟨ys, k, _⟩ := q
    exact hG H k
  · obtain ⟨ys, k, d, l, p⟩ := q
    obtain ⟨rfl, sx⟩ := hY i H x H2 hi y
    refine ⟨hws x, ?_⟩
    refine step i x ys H2 _ _ hi sx k d p (fun y H4 k4 p4 => ?_) (fun H3 k3 p3 => ?_)
    · refine ⟨ys, k4 D _ hT d, by omega, ys ++ [y], (k.trans k4).over hD, upd_same, ?_, p4⟩
      rw [List.length_append, List.length_singleton]
      omega
    · exact ⟨ys, k.trans k3, k3 D _ hT d, by omega, p3⟩
  · obtain ⟨ys, k, d, l, p⟩ := q
    exact fin ys H k d l p

theorem yes_ {st : L2.St} {H : Hp} {A B : Hp → Prop} (h : A H) : tYes st H fun b H3 => if b = true then A H3 else B H3 := by
  show (if true = true then A H else B H)
  exact iteT h
/-- lists item by item -/
theorem snoc_at {α : Type} {R : Nat → α → Prop} {ys : List α} {y : α} (h : ∀ (j : Nat) v, ys[j]? = some v → R j v) (hy : R ys.length y) : ∀ (j : Nat) v, (ys ++ [y])[j]? = some v → R j v := by
  intro j v e
  by_cases hj : j < ys.length
  · rw [List.getElem?_append_left hj] at e
    exact h j v e
  · have ej : j = ys.length := by
      have l := (List.getElem?_eq_some_iff.mp e).1
      rw [List.length_append, List.length_singleton] at l
      omega
    rw [ej, List.getElem?_concat_length] at e
    cases Option.some.inj e
    rw [ej]
    exact hy
theorem bools_of {R : Nat → Bool → Prop} {ys : List V} (h : ∀ (j : Nat) v, ys[j]? = some v → ∃ b, v = .bl b ∧ R j b) : ∃ bs : List Bool, ys = bs.map V.bl ∧ bs.length = ys.length ∧ ∀ (j : Nat) b, bs[j]? = some b → R j b := by
  refine ⟨ys.map fun v => match v with | .bl b => b | _ => false, ?_, by rw [List.length_map], fun j b e => ?_⟩
  · rw [List.map_map]
    refine (List.map_id _).symm.trans (List.map_congr_left fun v hv => ?_)
    obtain ⟨j, hj⟩ := List.mem_iff_getElem?.mp hv
    obtain ⟨c, rfl, _⟩ := h j v hj
    rfl
  · rw [List.getElem?_map] at e
    cases ev : ys[j]? with
    | none => rw [ev] at e; cases e
    | some v =>
      rw [ev] at e
      obtain ⟨c, rfl, r⟩ := h j v ev
      have e2 : c = b := Option.some.inj e
      rw [← e2]
      exact r
/-- slots: a comprehension's own one -/
theorem wipe1 (st : L2.St) (i : Nat) (x : V) : wipe ((wipe st [i]).set i (some x)) [i] = wipe st [i] := by
  show ((st.set i none).set i (some x)).set i none = st.set i none
  rw [List.set_set, List.set_set]

/-- a dict's comprehension -/
theorem dc_it {J : It} {n : Nat} {G : Hp → Prop} {Y : Nat → Hp → V → Hp → Prop} (w : Walk J n G Y) {new : HO} {t : TStore} {g : TG} {tt : TT} {tk tv : TE} {vs : List Nat} {st : L2.St} {H1 : Hp} {D : Addr} {Qd : Hp → Prop}
    (Pv : Nat → Hp → Prop) (h0 : Pv 0 (upd H1 D new)) (hG : ∀ i H, i ≤ n → Pv i H → G H)
    (hs : ∀ i x H H2, i < n → Pv i H → Y i H x H2 → g x (wipe st vs) H2 fun s2 H2 => wipe s2 vs = wipe st vs ∧ tt s2 H2 fun b H3 => if b = true then tk s2 H3 fun y H4 => tv s2 H4 fun z H5 => t D y z H5 (Pv (i + 1)) else Pv (i + 1) H3)
    (hd : ∀ H, Pv n H → Qd H) :
    ∃ W : Nat → Nat → Hp → Prop, (∃ m, W 0 m (upd H1 D new)) ∧ ∀ i m Ha, W i m Ha →
      (J.stop i Ha ∧ Qd Ha) ∨
      (J.go i Ha ∧ ∃ Nx : Hp → Prop, (∀ Hb, Nx Hb → ∃ m2, m2 < m ∧ W (i + 1) m2 Hb) ∧ ∀ x Hb, J.yld i Ha x Hb →
        g x (wipe st vs) Hb fun st2 H2 => wipe st2 vs = wipe st vs ∧ tt st2 H2 fun b H3 =>
          if b = true then tk st2 H3 fun y H4 => tv st2 H4 fun z H5 => t D y z H5 Nx else Nx H3) := by
  refine ⟨fun i m H => m = n - i ∧ i ≤ n ∧ Pv i H, ⟨n, rfl, Nat.zero_le _, h0⟩, ?_⟩
  rintro i m H ⟨rfl, hi, p⟩
  have q := hG i H hi p
  by_cases lt : i < n
  · exact .inr ⟨w.goes i H lt q, Pv (i + 1), fun H2 p2 => ⟨n - (i + 1), by omega, rfl, lt, p2⟩, fun x H2 y => hs i x H H2 lt p (w.yields i H x H2 lt q y)⟩
  · have e : i = n := by omega
    subst e
    exact .inl ⟨w.stops H q, hd H p⟩

/-! ### scopes of a comprehension in a comprehension -/
def rel2 (sc outer : Scope) : Scope := { sc with names := sc.names.map fun (n, k) => if (k == .free && outer.kind == .function && outer.names.lookup n == some .cell) then (n, .cell) else (n, k) }
theorem blkOk_in {N : List Str} {env : Env} {sc2 scope outer : Scope} {own : List (Str × Nat)} (e : env.scope = outer) (h : blkC N (rel2 sc2 outer) scope own = true) : BlkOk N (relabel sc2 env) scope own := by
  subst e
  exact blkOk_by h

/-! ### a def and its promise, in one -/
structure Df (P : Program) (w : World) (K : PySem.W.Frag) (mg : Str → Option Value) (base : Heap) (k : Nat) (f : Addr) (x : Str) (ps : List Str) (sp : Sp) : Prop where
  ex : ∃ fd, FnOk P w K mg base CX0 k f fd ps sp ∧ Binds K fd ps []
  mgx : mg x = some (.ref f)
  kp : PySem.W.keepIn K (.ref f) = true
section
variable {X : Cx} {k : Nat} {f : Addr} {x : Str} {ps : List Str} {sp : Sp} {p pos : Pos} {e : Expr} {es : List Expr} {t : TA}
theorem pe_df (D : Df X.prog X.w X.K X.mg X.base k f x ps sp) (hr : Room k X.A) (hg : Gl X x) (ha : PA X (e :: es) t) (hdb : (x == ("__debug__" : Str)) = false := by decide)
    (he : starEach (e :: es) X.env = (false, eval e X.env) :: starEach es X.env := by rfl) (hpl : (backTo pos (starEach es X.env)).any (·.1) = false := by rfl) :
    PE X (.Call (.Name x p) (e :: es) [] pos) (tCall sp [] E0 t) := by
  obtain ⟨fd, F, b⟩ := D.ex
  exact pe_call F hr hg D.mgx D.kp b .nil pass0 ha hdb he hpl
end

/-! ### paths and masks in the heap -/
def IsP (H : Hp) (v : V) (p : Pth) : Prop := ∃ a, v = .ref a ∧ H a = some (.tup (p.map V.str))
abbrev Ps (H : Hp) : List V → List Pth → Prop := Paired (IsP H)
theorem IsP.keep {T : Addr → Prop} {H H2 : Hp} {v : V} {p : Pth} (h : IsP H v p) (k : Kp T H H2) (hT : ∀ a o, T a → H a = some o → ∀ xs, o ≠ .tup xs) : IsP H2 v p := by
  obtain ⟨a, e, h⟩ := h
  exact ⟨a, e, k a _ (fun t => hT a _ t h _ rfl) h⟩
theorem IsP.keep0 {H H2 : Hp} {v : V} {p : Pth} (h : IsP H v p) (k : Kp T0 H H2) : IsP H2 v p := h.keep k fun _ _ z => z.elim
theorem Ps.keep {T : Addr → Prop} {H H2 : Hp} {vs : List V} {ps : List Pth} (h : Ps H vs ps) (k : Kp T H H2) (hT : ∀ a o, T a → H a = some o → ∀ xs, o ≠ .tup xs) : Ps H2 vs ps := Paired.mapP h fun _ _ z => z.keep k hT
theorem Ps.keep0 {H H2 : Hp} {vs : List V} {ps : List Pth} (h : Ps H vs ps) (k : Kp T0 H H2) : Ps H2 vs ps := h.keep k fun _ _ z => z.elim
theorem Ps.get {H : Hp} : ∀ {vs : List V} {ps : List Pth} {i : Nat} {v : V}, Ps H vs ps → vs[i]? = some v → ∃ p, ps[i]? = some p ∧ IsP H v p
  | _, _, _, _, .nil, e => nomatch e
  | _, _, 0, _, .cons r _, e => by
    cases Option.some.inj e
    exact ⟨_, rfl, r⟩
  | _, _, i + 1, _, .cons _ t, e => Ps.get (i := i) t e
theorem Ps.snoc {H : Hp} : ∀ {vs : List V} {ps : List Pth} {v : V} {p : Pth}, Ps H vs ps → IsP H v p → Ps H (vs ++ [v]) (ps ++ [p])
  | _, _, _, _, .nil, h => .cons h .nil
  | _, _, _, _, .cons r t, h => .cons r (Ps.snoc t h)
theorem Ps.app {H : Hp} : ∀ {vs us : List V} {ps qs : List Pth}, Ps H vs ps → Ps H us qs → Ps H (vs ++ us) (ps ++ qs)
  | _, _, _, _, .nil, h => h
  | _, _, _, _, .cons r t, h => .cons r (Ps.app t h)
end Gk
/-! Gk5: names and paths, as plain data. -/
namespace Gk
open PySem PySem.Spec PyProof.Rows L2

/-! ### names -/
def LET : Str := "abcdefghijklmnopqrstuvwxyz"
def isLet (x : Str) (lo hi : Int) : Bool := decide (lo ≤ (x.length : Int)) && decide ((x.length : Int) ≤ hi) && x.cps.toList.all fun c => decide (c ∈ LET.cps.toList)
def isNm (x : Str) : Bool := isLet x 1 8
theorem all_seq (p : Nat → Bool) (x : Str) (bs : List Bool) (hl : bs.length = x.cps.size) (h : ∀ (i : Nat) b, bs[i]? = some b → ∃ c, x.cps[i]? = some c ∧ b = p c) : bs.all id = x.cps.toList.all p := by
  have e : bs = x.cps.toList.map p := by
    refine List.ext_getElem (by rw [List.length_map, Array.length_toList]; exact hl) fun i h1 h2 => ?_
    obtain ⟨c, e1, e2⟩ := h i bs[i] (List.getElem?_eq_getElem h1)
    rw [e2, List.getElem_map]
    congr 1
    rw [Array.getElem?_eq_some_iff] at e1
    obtain ⟨g1, g2⟩ := e1
    rw [← g2, Array.getElem_toList]
  rw [e, List.all_map]
  rfl
theorem let_small : ∀ c ∈ LET.cps.toList, c < 128 := by decide +kernel
theorem isLet_ok {x : Str} {lo hi : Int} (h : isLet x lo hi = true) : PyData.strOk x = true ∧ lo ≤ (x.length : Int) ∧ (x.length : Int) ≤ hi := by
  unfold isLet at h
  rw [Bool.and_eq_true, Bool.and_eq_true] at h
  obtain ⟨⟨h1, h2⟩, h3⟩ := h
  refine ⟨?_, of_decide_eq_true h1, of_decide_eq_true h2⟩
  unfold PyData.strOk
  rw [Array.all_eq_true']
  intro c hc
  have q := List.all_eq_true.mp h3 c (Array.mem_toList_iff.mpr hc)
  have l := let_small c (of_decide_eq_true q)
  exact decide_eq_true (by omega)
theorem isNm_ok {x : Str} (h : isNm x = true) : PyData.strOk x = true ∧ x.length < sizeLine := by
  obtain ⟨h1, _, h3⟩ := isLet_ok h
  exact ⟨h1, by rw [sizeLine_eq]; omega⟩

/-- a value that is no text; none that is a tuple -/
def NoStr (K : PySem.W.Frag) (H : Hp) (v : V) : Prop := ∃ t, TyX K H v t ∧ PySem.W.kitOne K t (.type "str") = some false
def NoTup (K : PySem.W.Frag) (H : Hp) (v : V) : Prop := ∃ t, TyX K H v t ∧ PySem.W.kitOne K t (.type "tuple") = some false
theorem tyx_keep {K : PySem.W.Frag} {H H2 : Hp} {v : V} {t : Value} (h : TyX K H v t) (k : Kp T0 H H2) : TyX K H2 v t := by
  cases h with
  | base b =>
    refine .base ?_
    cases b with
    | non => exact .non
    | bl x => exact .bl x
    | int i => exact .int i
    | str x => exact .str x
    | flt x => exact .flt x
    | lst e => exact .lst (k.at0 e)
    | frz e => exact .frz (k.at0 e)
    | tup e => exact .tup (k.at0 e)
    | dK e => exact .dK (k.at0 e)
    | dT e => exact .dT (k.at0 e)
    | ins e c h1 h2 h3 h4 => exact .ins (k.at0 e) c h1 h2 h3 h4
  | byt b => exact .byt b
  | set e => exact .set (k.at0 e)
  | kList e c => exact .kList e c
  | kTuple e c => exact .kTuple e c
  | kDict e c => exact .kDict e c
  | fTuple e => exact .fTuple (k.at0 e)
  | fDict e => exact .fDict (k.at0 e)
theorem NoStr.keep0 {K : PySem.W.Frag} {H H2 : Hp} {v : V} (h : NoStr K H v) (k : Kp T0 H H2) : NoStr K H2 v := by
  obtain ⟨t, a, b⟩ := h
  exact ⟨t, tyx_keep a k, b⟩
theorem NoTup.keep0 {K : PySem.W.Frag} {H H2 : Hp} {v : V} (h : NoTup K H v) (k : Kp T0 H H2) : NoTup K H2 v := by
  obtain ⟨t, a, b⟩ := h
  exact ⟨t, tyx_keep a k, b⟩
/-- an item of a row and whether it is a name -/
def ItN (K : PySem.W.Frag) (H : Hp) (v : V) (r : Bool) : Prop := (∃ x : Str, v = .str x ∧ x.length < sizeLine ∧ r = isNm x) ∨ (NoStr K H v ∧ r = false)
theorem ItN.keep0 {K : PySem.W.Frag} {H H2 : Hp} {v : V} {r : Bool} (h : ItN K H v r) (k : Kp T0 H H2) : ItN K H2 v r :=
  h.imp id fun z => ⟨z.1.keep0 k, z.2⟩

/-! ### paths as data -/
abbrev dP (p : Pth) : PyData := .tuple (p.map PyData.str)
abbrev dM (ps : List Pth) : PyData := .tuple (ps.map dP)
theorem dp_strs {K : PySem.W.Frag} {H : Hp} : ∀ p : Pth, DpAll K H (p.map V.str) (p.map PyData.str)
  | [] => .nil
  | x :: p => .cons (.str x) (dp_strs p)
theorem IsP.dp {K : PySem.W.Frag} {H : Hp} {v : V} {p : Pth} (h : IsP H v p) : Dp K H v (dP p) := by
  obtain ⟨a, rfl, h⟩ := h
  exact .tup (SqT.of h) (dp_strs p)
theorem Ps.dp {K : PySem.W.Frag} {H : Hp} : ∀ {vs : List V} {ps : List Pth}, Ps H vs ps → DpAll K H vs (ps.map dP)
  | _, _, .nil => .nil
  | _, _, .cons r t => .cons (IsP.dp r) (Ps.dp t)
theorem eqv_strs : ∀ p q : Pth, PyData.eqvAll (p.map PyData.str) (q.map PyData.str) = decide (p = q)
  | [], [] => by rw [decide_eq_true rfl] <;> rfl
  | [], _ :: _ => by rw [decide_eq_false (by intro e; cases e)] <;> rfl
  | _ :: _, [] => by rw [decide_eq_false (by intro e; cases e)] <;> rfl
  | x :: p, y :: q => by
    show (PyData.eqv (.str x) (.str y) && PyData.eqvAll (p.map PyData.str) (q.map PyData.str)) = _
    rw [eqv_strs p q]
    show (x == y && decide (p = q)) = _
    by_cases h1 : x = y
    · subst h1
      rw [beq_self_eq_true, Bool.true_and]
      exact decide_eq_decide.mpr ⟨fun e => by rw [e], fun e => by injection e⟩
    · rw [beq_eq_false_iff_ne.mpr h1, Bool.false_and, decide_eq_false]
      intro e
      injection e with e1 e2
      exact h1 e1
theorem eqv_dP (p q : Pth) : PyData.eqv (dP p) (dP q) = decide (p = q) := eqv_strs p q
theorem eqv_paths : ∀ ps qs : List Pth, PyData.eqvAll (ps.map dP) (qs.map dP) = decide (ps = qs)
  | [], [] => by rw [decide_eq_true rfl] <;> rfl
  | [], _ :: _ => by rw [decide_eq_false (by intro e; cases e)] <;> rfl
  | _ :: _, [] => by rw [decide_eq_false (by intro e; cases e)] <;> rfl
  | p :: ps, q :: qs => by
    show (PyData.eqv (dP p) (dP q) && PyData.eqvAll (ps.map dP) (qs.map dP)) = _
    rw [eqv_paths ps qs, eqv_dP]
    by_cases h1 : p = q
    · subst h1
      rw [decide_eq_true rfl, Bool.true_and]
      exact decide_eq_decide.mpr ⟨fun e => by rw [e], fun e => by injection e⟩
    · rw [decide_eq_false h1, Bool.false_and, decide_eq_false]
      intro e
      injection e with e1 e2
      exact h1 e1
theorem eqv_dM (ps qs : List Pth) : PyData.eqv (dM ps) (dM qs) = decide (ps = qs) := eqv_paths ps qs
/-- a path whose parts are names -/
def OkN (p : Pth) : Prop := ∀ x ∈ p, isNm x = true
def OkP (p : Pth) : Prop := OkN p ∧ p.length ≤ 1000
theorem lay_dN {p : Pth} (h : OkN p) : (dP p).canLay0 = true := by
  show PyData.canLayAll0 (p.map PyData.str) = true
  induction p with
  | nil => rfl
  | cons x p ih =>
    show (PyData.canLay0 (.str x) && PyData.canLayAll0 (p.map PyData.str)) = true
    rw [ih fun y hy => h y (List.mem_cons_of_mem _ hy), Bool.and_true]
    exact (isNm_ok (h x List.mem_cons_self)).1
theorem lay_dP {p : Pth} (h : OkP p) : (dP p).canLay0 = true := lay_dN h.1
theorem depth_dP (p : Pth) : (dP p).depth ≤ 1 := by
  have e : PyData.depthAll (p.map PyData.str) = 0 := by
    induction p with
    | nil => rfl
    | cons x p ih =>
      show max (PyData.depth (.str x)) (PyData.depthAll (p.map PyData.str)) = 0
      rw [ih] <;> rfl
  show PyData.depthAll (p.map PyData.str) + 1 ≤ 1
  omega
theorem shaped_dP {p : Pth} (h : OkP p) : SeqAt.shaped (dP p) = true := by
  unfold SeqAt.shaped
  rw [lay_dP h, Bool.true_and]
  have := depth_dP p
  exact decide_eq_true (by omega)
theorem shaped_dM {ps : List Pth} (h : ∀ p ∈ ps, OkP p) : SeqAt.shaped (dM ps) = true := by
  have h1 : PyData.canLayAll0 (ps.map dP) = true := by
    induction ps with
    | nil => rfl
    | cons p ps ih =>
      show (PyData.canLay0 (dP p) && PyData.canLayAll0 (ps.map dP)) = true
      rw [ih fun y hy => h y (List.mem_cons_of_mem _ hy), lay_dP (h p List.mem_cons_self)] <;> rfl
  have h2 : PyData.depthAll (ps.map dP) ≤ 1 := by
    clear h1
    induction ps with
    | nil => exact Nat.zero_le _
    | cons p ps ih =>
      show max (PyData.depth (dP p)) (PyData.depthAll (ps.map dP)) ≤ 1
      exact Nat.max_le.mpr ⟨depth_dP p, ih fun y hy => h y (List.mem_cons_of_mem _ hy)⟩
  unfold SeqAt.shaped
  rw [show (dM ps).canLay0 = true from h1, Bool.true_and]
  exact decide_eq_true (by show PyData.depthAll (ps.map dP) + 1 ≤ 64; omega)

/-! ### promises of names.py -/
def spIsLetters (K : PySem.W.Frag) : Sp := fun vs H Q _ => ∃ (v : V) (lo hi : Int), vs = [v, .int lo, .int hi] ∧
  ((∃ x : Str, v = .str x ∧ x.length < sizeLine ∧ ∀ H2, Kp T0 H H2 → Q (.bl (isLet x lo hi)) H2) ∨ (NoStr K H v ∧ Q (.bl false) H))
def spIsName (K : PySem.W.Frag) : Sp := fun vs H Q _ => ∃ (v : V) (r : Bool), vs = [v] ∧ ItN K H v r ∧ ∀ H2, Kp T0 H H2 → Q (.bl r) H2

/-! ### rows, what covers -/
section
variable {X : Cx}
/-- a != b over data of any depth that one side bounds -/
def rNeL (K : PySem.W.Frag) (u : Nat) : R2 := fun x y H Q => ∃ d e, Dp K H x d ∧ Dp K H y e ∧ d.canLay0 = true ∧ e.canLay0 = true ∧ u + min d.depth e.depth < cLine ∧ Q (.bl (!PyData.eqv d e)) H
theorem op_neL : OpR X (compareOp .NotEq) (rNeL X.K X.A.units) := by
  intro ps s st H x y v u Q I rx ry h
  obtain ⟨d, e, hd, he, ld, le, hu, q⟩ := h
  obtain ⟨ads, r1⟩ := Dp.reads I d x v hd rx
  obtain ⟨bds, r2⟩ := Dp.reads I e y u he ry
  exact SeqAt.compareNe_reads r1 r2 ld le hu ⟨.bl _, H, I, rfl, q⟩
end
theorem eqv_nil (ds : List PyData) : PyData.eqv (.tuple ds) (.tuple []) = ds.isEmpty := by
  cases ds <;> rfl
def spIsRow (K : PySem.W.Frag) : Sp := fun vs H Q _ => ∃ (v : V) (r : Bool), vs = [v] ∧
  ((∃ (a : Addr) (xs : List V) (rs : List Bool) (ds : List PyData), v = .ref a ∧ H a = some (.tup xs) ∧ Paired (ItN K H) xs rs ∧ DpAll K H xs ds ∧ (PyData.tuple ds).canLay0 = true ∧ xs.length < sizeLine ∧ r = (!xs.isEmpty && rs.all id)) ∨ (NoTup K H v ∧ r = false)) ∧
  ∀ H2, Kp T0 H H2 → Q (.bl r) H2
def beginsP (p f : Pth) : Bool := decide (p.take f.length = f)
def coversP (ps : List Pth) (p : Pth) : Bool := ps.any (beginsP p)
def spBegins : Sp := fun vs H Q _ => ∃ (v u : V) (p f : Pth), vs = [v, u] ∧ IsP H v p ∧ IsP H u f ∧ OkP p ∧ OkP f ∧ ∀ H2, Kp T0 H H2 → Q (.bl (beginsP p f)) H2
def spCovers : Sp := fun vs H Q _ => ∃ (a : Addr) (xs : List V) (ps : List Pth) (v : V) (p : Pth), vs = [.ref a, v] ∧ H a = some (.tup xs) ∧ Ps H xs ps ∧ xs.length < sizeLine ∧ (∀ f ∈ ps, OkP f) ∧ IsP H v p ∧ OkP p ∧
  ∀ H2, Kp T0 H H2 → Q (.bl (coversP ps p)) H2
theorem OkP.take {p : Pth} (h : OkP p) (n : Nat) : OkP (p.take n) := ⟨fun x hx => h.1 x (List.mem_of_mem_take hx), Nat.le_trans (by rw [List.length_take]; exact Nat.min_le_right _ _) h.2⟩
theorem cut_take (xs : List V) (n : Nat) : cutV xs none (some (n : Int)) = xs.take n := by
  unfold cutV
  rw [HT.sIx_none, HT.sIx_nat, List.drop_zero, Nat.sub_zero]
  rcases Nat.le_total n xs.length with h | h
  · rw [Nat.min_eq_left h]
  · rw [Nat.min_eq_right h, List.take_of_length_le h, List.take_length]
theorem cut_whole {xs : List V} {n : Nat} (h : HT.sIx xs.length xs.length (some (n : Int)) = xs.length) : xs.take n = xs := by
  rw [HT.sIx_nat] at h
  exact List.take_of_length_le (by omega)
theorem OkN.items {K : PySem.W.Frag} {H : Hp} {p : Pth} (h : OkN p) : Paired (ItN K H) (p.map V.str) (p.map fun _ => true) := by
  induction p with
  | nil => exact .nil
  | cons x p ih =>
    have hx := h x List.mem_cons_self
    exact .cons (.inl ⟨x, rfl, (isNm_ok hx).2, hx.symm⟩) (ih fun y hy => h y (List.mem_cons_of_mem _ hy))
mutual
theorem dp_keep {K : PySem.W.Frag} {H H2 : Hp} (k : Kp T0 H H2) : ∀ {v : V} {d : PyData}, Dp K H v d → Dp K H2 v d
  | _, _, .non => .non
  | _, _, .bl b => .bl b
  | _, _, .int i => .int i
  | _, _, .str x => .str x
  | _, _, .lst a t => .lst (SqL.ext a fun b o e => k.at0 e) (dpAll_keep t k)
  | _, _, .tup a t => .tup (SqT.ext a fun b o e => k.at0 e) (dpAll_keep t k)
theorem dpAll_keep {K : PySem.W.Frag} {H H2 : Hp} : ∀ {vs : List V} {ds : List PyData}, DpAll K H vs ds → Kp T0 H H2 → DpAll K H2 vs ds
  | _, _, .nil, _ => .nil
  | _, _, .cons a t, k => .cons (dp_keep k a) (dpAll_keep t k)
end
end Gk
/-! Gk6: masks, in plain Lean. -/
namespace Gk
open PySem PySem.Spec PyProof.Rows L2

/-! ### the order of paths -/
theorem pkey_inj : ∀ {p q : Pth}, pkey p = pkey q → p = q
  | [], [], _ => rfl
  | [], _ :: _, e => nomatch e
  | _ :: _, [], e => nomatch e
  | x :: p, y :: q, e => by
    injection e with e1 e2
    have e3 := Sum.inr.inj e1
    have e4 : x = y := by
      have h := Array.toList_inj.mp e3
      cases x
      cases y
      simp only [Str.mk.injEq]
      exact h
    rw [e4, pkey_inj e2]
theorem ltP_irrefl (p : Pth) : ltP p p = false := lex_irrefl _
theorem ltP_trans {p q r : Pth} (h1 : ltP p q = true) (h2 : ltP q r = true) : ltP p r = true := lex_trans _ _ _ h1 h2
theorem ltP_total {p q : Pth} (h1 : ltP p q = false) (h2 : ltP q p = false) : p = q := pkey_inj (lex_total _ _ h1 h2)
abbrev Asc (qs : List Pth) : Prop := qs.Pairwise fun a b => ltP a b = true
/-- two ascending lists of the same paths are one -/
theorem asc_ext : ∀ {ps qs : List Pth}, Asc ps → Asc qs → (∀ p, p ∈ ps ↔ p ∈ qs) → ps = qs
  | [], [], _, _, _ => rfl
  | [], q :: qs, _, _, h => absurd ((h q).mpr List.mem_cons_self) List.not_mem_nil
  | p :: ps, [], _, _, h => absurd ((h p).mp List.mem_cons_self) List.not_mem_nil
  | p :: ps, q :: qs, a, b, h => by
    have a1 : ∀ {r : Pth}, r ∈ ps → ltP p r = true := fun m => List.rel_of_pairwise_cons a m
    have b1 : ∀ {r : Pth}, r ∈ qs → ltP q r = true := fun m => List.rel_of_pairwise_cons b m
    have e : p = q := by
      rcases List.mem_cons.mp ((h p).mp List.mem_cons_self) with e | m
      · exact e
      · rcases List.mem_cons.mp ((h q).mpr List.mem_cons_self) with e | m2
        · exact e.symm
        · have l1 := a1 m2
          have l2 := b1 m
          have l3 := ltP_trans l1 l2
          rw [ltP_irrefl] at l3
          cases l3
    subst e
    have n1 : p ∉ ps := fun m => by
      have l := a1 m
      rw [ltP_irrefl] at l
      cases l
    have n2 : p ∉ qs := fun m => by
      have l := b1 m
      rw [ltP_irrefl] at l
      cases l
    rw [asc_ext (List.Pairwise.of_cons a) (List.Pairwise.of_cons b) fun r => ?_]
    constructor
    · intro m
      rcases List.mem_cons.mp ((h r).mp (List.mem_cons_of_mem _ m)) with e | m2
      · exact absurd (e ▸ m) n1
      · exact m2
    · intro m
      rcases List.mem_cons.mp ((h r).mpr (List.mem_cons_of_mem _ m)) with e | m2
      · exact absurd (e ▸ m) n2
      · exact m2
theorem asc_of {ks : List Pth} (nd : ks.Nodup) (h : ks.Pairwise fun a b => ltP b a = false) : Asc ks := by
  refine List.Pairwise.imp ?_ (List.Pairwise.and h nd)
  intro a b ⟨h1, h2⟩
  cases e : ltP a b with
  | true => rfl
  | false => exact absurd (ltP_total e h1) h2

/-! ### what begins with what -/
theorem begins_iff {p f : Pth} : beginsP p f = true ↔ f <+: p := by
  unfold beginsP
  rw [decide_eq_true_iff]
  exact ⟨fun h => h ▸ List.take_prefix _ _, fun h => (List.prefix_iff_eq_take.mp h).symm⟩
theorem begins_self (p : Pth) : beginsP p p = true := begins_iff.mpr (List.prefix_refl p)
theorem begins_trans {p f g : Pth} (h1 : beginsP p f = true) (h2 : beginsP f g = true) : beginsP p g = true := begins_iff.mpr ((begins_iff.mp h2).trans (begins_iff.mp h1))
theorem begins_anti {p f : Pth} (h1 : beginsP p f = true) (h2 : beginsP f p = true) : p = f := (begins_iff.mp h2).eq_of_length_le (begins_iff.mp h1).length_le
theorem begins_len {p f : Pth} (h : beginsP p f = true) (n : f ≠ p) : f.length < p.length := by
  have q := begins_iff.mp h
  rcases Nat.lt_or_ge f.length p.length with l | l
  · exact l
  · exact absurd (q.eq_of_length_le l) n
theorem covers_iff {ps : List Pth} {p : Pth} : coversP ps p = true ↔ ∃ f ∈ ps, beginsP p f = true := by
  unfold coversP
  rw [List.any_eq_true]
theorem covers_false {ps : List Pth} {p : Pth} : coversP ps p = false ↔ ∀ f ∈ ps, beginsP p f = false := by
  constructor
  · intro h f hf
    cases e : beginsP p f with
    | false => rfl
    | true => rw [covers_iff.mpr ⟨f, hf, e⟩] at h; cases h
  · intro h
    cases e : coversP ps p with
    | false => rfl
    | true =>
      obtain ⟨f, hf, e⟩ := covers_iff.mp e
      rw [h f hf] at e
      cases e
/-- rows qs are the mask made of the paths ps -/
structure Canon (ps qs : List Pth) : Prop where
  asc : Asc qs
  mem : ∀ q, q ∈ qs ↔ q ∈ ps ∧ ∀ f ∈ ps, f ≠ q → beginsP q f = false
theorem Canon.sub {ps qs : List Pth} (c : Canon ps qs) {q : Pth} (h : q ∈ qs) : q ∈ ps := ((c.mem q).mp h).1
/-- each path has a least beginning among some -/
theorem least_front (ps : List Pth) : ∀ (n : Nat) (p : Pth), p.length ≤ n → p ∈ ps → ∃ f ∈ ps, beginsP p f = true ∧ ∀ g ∈ ps, g ≠ f → beginsP f g = false
  | 0, p, l, m => by
    refine ⟨p, m, begins_self p, fun g _ ne => ?_⟩
    cases e : beginsP p g with
    | false => rfl
    | true =>
      have := begins_len e ne
      omega
  | n + 1, p, l, m => by
    by_cases h : ∃ g ∈ ps, g ≠ p ∧ beginsP p g = true
    · obtain ⟨g, mg, ne, b⟩ := h
      have lt := begins_len b ne
      obtain ⟨f, mf, bf, k⟩ := least_front ps n g (by omega) mg
      exact ⟨f, mf, begins_trans b bf, k⟩
    · refine ⟨p, m, begins_self p, fun g mg ne => ?_⟩
      cases e : beginsP p g with
      | false => rfl
      | true => exact absurd ⟨g, mg, ne, e⟩ h
theorem Canon.covers {ps qs : List Pth} (c : Canon ps qs) (x : Pth) : coversP qs x = coversP ps x := by
  cases e : coversP ps x with
  | true =>
    obtain ⟨p, mp, b⟩ := covers_iff.mp e
    obtain ⟨f, mf, bf, k⟩ := least_front ps p.length p (Nat.le_refl _) mp
    exact covers_iff.mpr ⟨f, (c.mem f).mpr ⟨mf, k⟩, begins_trans b bf⟩
  | false => exact covers_false.mpr fun f hf => covers_false.mp e f (c.sub hf)
/-- rows of which none begins with another one -/
theorem Canon.anti {ps qs : List Pth} (c : Canon ps qs) {p q : Pth} (hp : p ∈ qs) (hq : q ∈ qs) (b : beginsP p q = true) : q = p := by
  rcases Classical.em (q = p) with e | ne
  · exact e
  · rw [((c.mem p).mp hp).2 q (c.sub hq) ne] at b
    cases b
/-- rows are known by what they cover -/
theorem canon_ext {ps qs rs ts : List Pth} (c : Canon ps qs) (d : Canon rs ts) (h : ∀ x, coversP qs x = coversP ts x) : qs = ts := by
  have half : ∀ {ps qs rs ts : List Pth}, Canon ps qs → Canon rs ts → (∀ x, coversP qs x = coversP ts x) → ∀ p, p ∈ qs → p ∈ ts := by
    intro ps qs rs ts c d h p hp
    have e1 : coversP ts p = true := (h p) ▸ covers_iff.mpr ⟨p, hp, begins_self p⟩
    obtain ⟨f, mf, bf⟩ := covers_iff.mp e1
    have e2 : coversP qs f = true := (h f).symm ▸ covers_iff.mpr ⟨f, mf, begins_self f⟩
    obtain ⟨g, mg, bg⟩ := covers_iff.mp e2
    have e3 := c.anti hp mg (begins_trans bf bg)
    have e4 : f = p := by
      rw [e3] at bg
      exact begins_anti bg bf
    exact e4 ▸ mf
  exact asc_ext c.asc d.asc fun p => ⟨half c d h p, half d c (fun x => (h x).symm) p⟩
theorem canon_one {ps qs ts : List Pth} (c : Canon ps qs) (d : Canon ps ts) : qs = ts := canon_ext c d fun x => (c.covers x).trans (d.covers x).symm
theorem canon_nil {qs : List Pth} (c : Canon [] qs) : qs = [] := by
  cases qs with
  | nil => rfl
  | cons q qs => exact absurd (c.sub List.mem_cons_self) List.not_mem_nil
theorem covers_app (ps qs : List Pth) (x : Pth) : coversP (ps ++ qs) x = (coversP ps x || coversP qs x) := List.any_append
/-- what both cover -/
def bothP (qs rs : List Pth) : List Pth := qs.filter (coversP rs) ++ rs.filter (coversP qs)
theorem covers_both (qs rs : List Pth) (x : Pth) : coversP (bothP qs rs) x = (coversP qs x && coversP rs x) := by
  cases e1 : coversP (bothP qs rs) x with
  | true =>
    obtain ⟨f, mf, b⟩ := covers_iff.mp e1
    have key : ∀ {as bs : List Pth}, f ∈ as.filter (coversP bs) → coversP as x = true ∧ coversP bs x = true := by
      intro as bs m
      obtain ⟨m1, m2⟩ := List.mem_filter.mp m
      obtain ⟨g, mg, bg⟩ := covers_iff.mp m2
      exact ⟨covers_iff.mpr ⟨f, m1, b⟩, covers_iff.mpr ⟨g, mg, begins_trans b bg⟩⟩
    rcases List.mem_append.mp mf with m | m
    · obtain ⟨h1, h2⟩ := key m
      rw [h1, h2] <;> rfl
    · obtain ⟨h1, h2⟩ := key m
      rw [h1, h2] <;> rfl
  | false =>
    cases e2 : coversP qs x with
    | false => rfl
    | true =>
      cases e3 : coversP rs x with
      | false => rfl
      | true =>
        obtain ⟨f, mf, bf⟩ := covers_iff.mp e2
        obtain ⟨g, mg, bg⟩ := covers_iff.mp e3
        have no := covers_false.mp e1
        rcases Nat.le_total g.length f.length with l | l
        · have bfg : beginsP f g = true := begins_iff.mpr (List.prefix_of_prefix_length_le (begins_iff.mp bg) (begins_iff.mp bf) l)
          have := no f (List.mem_append_left _ (List.mem_filter.mpr ⟨mf, covers_iff.mpr ⟨g, mg, bfg⟩⟩))
          rw [bf] at this
          cases this
        · have bgf : beginsP g f = true := begins_iff.mpr (List.prefix_of_prefix_length_le (begins_iff.mp bf) (begins_iff.mp bg) l)
          have := no g (List.mem_append_right _ (List.mem_filter.mpr ⟨mg, covers_iff.mpr ⟨f, mf, bgf⟩⟩))
          rw [bg] at this
          cases this
def withinP (qs rs : List Pth) : Bool := qs.all (coversP rs)
theorem within_iff {qs rs : List Pth} : withinP qs rs = true ↔ ∀ x, coversP qs x = true → coversP rs x = true := by
  unfold withinP
  rw [List.all_eq_true]
  constructor
  · intro h x hx
    obtain ⟨f, mf, b⟩ := covers_iff.mp hx
    obtain ⟨g, mg, bg⟩ := covers_iff.mp (h f mf)
    exact covers_iff.mpr ⟨g, mg, begins_trans b bg⟩
  · intro h q hq
    exact h q (covers_iff.mpr ⟨q, hq, begins_self q⟩)

/-! ### the list that fewest makes -/
def keepP (ks : List Pth) (p : Pth) : Bool := !(ks.any fun f => decide (p ≠ f) && beginsP p f)
theorem canon_fewest {ps ks : List Pth} (asc : Asc ks) (same : ∀ p, p ∈ ks ↔ p ∈ ps) : Canon ps (ks.filter (keepP ks)) := by
  refine ⟨asc.filter _, fun q => ?_⟩
  rw [List.mem_filter]
  constructor
  · rintro ⟨m, k⟩
    refine ⟨(same q).mp m, fun f mf ne => ?_⟩
    cases e : beginsP q f with
    | false => rfl
    | true =>
      unfold keepP at k
      rw [List.any_eq_true.mpr ⟨f, (same f).mpr mf, Bool.and_eq_true_iff.mpr ⟨decide_eq_true (show q ≠ f from fun z => ne z.symm), e⟩⟩] at k
      cases k
  · rintro ⟨m, k⟩
    refine ⟨(same q).mpr m, ?_⟩
    unfold keepP
    cases e : ks.any fun f => decide (q ≠ f) && beginsP q f with
    | false => rfl
    | true =>
      obtain ⟨f, mf, h⟩ := List.any_eq_true.mp e
      rw [Bool.and_eq_true] at h
      rw [k f ((same f).mp mf) (fun z => of_decide_eq_true h.1 z.symm)] at h
      cases h.2

/-! ### the keys of a dict that is filled -/
theorem keys_putK {κ : Type} [DecidableEq κ] (kvs : List (κ × V)) (k : κ) (v : V) : (putK kvs k v).map (·.1) = if k ∈ kvs.map (·.1) then kvs.map (·.1) else kvs.map (·.1) ++ [k] := by
  unfold putK
  have e : (kvs.any fun kv => decide (kv.1 = k)) = true ↔ k ∈ kvs.map (·.1) := by
    rw [List.any_eq_true, List.mem_map]
    exact ⟨fun ⟨x, m, h⟩ => ⟨x, m, of_decide_eq_true h⟩, fun ⟨x, m, h⟩ => ⟨x, m, decide_eq_true h⟩⟩
  by_cases h : k ∈ kvs.map (·.1)
  · rw [if_pos (e.mpr h), if_pos h, List.map_map]
    refine List.map_congr_left fun x _ => ?_
    show (if x.1 = k then (x.1, v) else x).1 = x.1
    split <;> rfl
  · rw [if_neg (fun z => h (e.mp z)), if_neg h, List.map_append] <;> rfl
theorem inr_inj {p q : Pth} (h : p.map (Sum.inr : Str → L2.Key) = q.map Sum.inr) : p = q := by
  induction p generalizing q with
  | nil => cases q with
    | nil => rfl
    | cons y q => exact nomatch h
  | cons x p ih => cases q with
    | nil => exact nomatch h
    | cons y q =>
      injection h with h1 h2
      rw [Sum.inr.inj h1, ih h2]
theorem keys_step {kvs : List (List L2.Key × V)} {ks : List Pth} (p : Pth) (v : V) (e : kvs.map (·.1) = ks.map (List.map Sum.inr)) (nd : ks.Nodup) :
    ∃ ks2 : List Pth, (putK kvs (p.map Sum.inr) v).map (·.1) = ks2.map (List.map Sum.inr) ∧ ks2.Nodup ∧ ∀ q, q ∈ ks2 ↔ q ∈ ks ∨ q = p := by
  have mem : p.map Sum.inr ∈ kvs.map (·.1) ↔ p ∈ ks := by
    rw [e, List.mem_map]
    exact ⟨fun ⟨q, m, h⟩ => inr_inj h ▸ m, fun m => ⟨p, m, rfl⟩⟩
  rw [keys_putK]
  by_cases h : p ∈ ks
  · rw [if_pos (mem.mpr h)]
    exact ⟨ks, e, nd, fun q => ⟨.inl, fun z => z.elim id fun z => z ▸ h⟩⟩
  · rw [if_neg (fun z => h (mem.mp z))]
    refine ⟨ks ++ [p], by rw [e, List.map_append]; rfl, ?_, fun q => by rw [List.mem_append, List.mem_singleton]⟩
    rw [List.nodup_append]
    refine ⟨nd, List.nodup_cons.mpr ⟨List.not_mem_nil, List.nodup_nil⟩, fun a ha b hb z => ?_⟩
    rw [List.mem_singleton] at hb
    exact h (hb ▸ z ▸ ha)
theorem mem_take_succ {α : Type} {l : List α} {i : Nat} {x : α} (h : l[i]? = some x) (y : α) : y ∈ l.take (i + 1) ↔ y ∈ l.take i ∨ y = x := by
  rw [List.take_add_one, h, Option.toList_some, List.mem_append, List.mem_singleton]
theorem take_succ_filter {α : Type} {l : List α} {i : Nat} {x : α} (h : l[i]? = some x) (f : α → Bool) : (l.take (i + 1)).filter f = if f x = true then (l.take i).filter f ++ [x] else (l.take i).filter f := by
  rw [List.take_add_one, h, Option.toList_some, List.filter_append]
  cases e : f x with
  | true => rw [if_pos rfl, List.filter_cons_of_pos e] <;> rfl
  | false => rw [if_neg Bool.false_ne_true, List.filter_cons_of_neg (by rw [e]; exact Bool.false_ne_true), List.filter_nil, List.append_nil]
end Gk
/-! Gk7: masks in the heap; what their methods promise. -/
namespace Gk
open PySem PySem.Spec PyProof.Rows L2

abbrev MOST : Nat := 100000
theorem most_line : MOST < sizeLine := by rw [sizeLine_eq]; decide
/-- v is a mask whose rows are qs -/
def IsM (C : Addr) (H : Hp) (v : V) (qs : List Pth) : Prop := ∃ (x dx r : Addr) (ys : List V), v = .ref x ∧ H x = some (.ins C dx [("rows", .ref r)]) ∧ H r = some (.tup ys) ∧ Ps H ys qs ∧ ys.length ≤ MOST ∧
  (∀ q ∈ qs, OkP q ∧ q ≠ []) ∧ ∃ ps, Canon ps qs
/-- addresses of T hold no tuple and no instance -/
def Loose (T : Addr → Prop) (H : Hp) : Prop := ∀ a o, T a → H a = some o → (∀ xs, o ≠ .tup xs) ∧ ∀ C dx fs, o ≠ .ins C dx fs
theorem loose0 (H : Hp) : Loose T0 H := fun _ _ z => z.elim
theorem IsM.keep {T : Addr → Prop} {C : Addr} {H H2 : Hp} {v : V} {qs : List Pth} (h : IsM C H v qs) (k : Kp T H H2) (hT : Loose T H) : IsM C H2 v qs := by
  obtain ⟨x, dx, r, ys, e, hx, hr, hp, l, o, c⟩ := h
  exact ⟨x, dx, r, ys, e, k x _ (fun t => (hT x _ t hx).2 _ _ _ rfl) hx, k r _ (fun t => (hT r _ t hr).1 _ rfl) hr, hp.keep k fun a o t e => (hT a o t e).1, l, o, c⟩
theorem IsM.keep0 {C : Addr} {H H2 : Hp} {v : V} {qs : List Pth} (h : IsM C H v qs) (k : Kp T0 H H2) : IsM C H2 v qs := h.keep k (loose0 H)
theorem IsM.canon {C : Addr} {H : Hp} {v : V} {qs : List Pth} (h : IsM C H v qs) : ∃ ps, Canon ps qs := by
  obtain ⟨_, _, _, _, _, _, _, _, _, _, c⟩ := h
  exact c
theorem IsM.len {C : Addr} {H : Hp} {v : V} {qs : List Pth} (h : IsM C H v qs) : qs.length ≤ MOST := by
  obtain ⟨_, _, _, ys, _, _, _, hp, l, _⟩ := h
  rw [← Paired.length hp]
  exact l
theorem IsM.ok {C : Addr} {H : Hp} {v : V} {qs : List Pth} (h : IsM C H v qs) : ∀ q ∈ qs, OkP q ∧ q ≠ [] := by
  obtain ⟨_, _, _, _, _, _, _, _, _, o, _⟩ := h
  exact o

/-! ### promises -/
/-- a list or a tuple of paths -/
def SqP (K : PySem.W.Frag) (H : Hp) (a : Addr) (xs : List V) (ps : List Pth) : Prop := (SqL K H a xs ∨ SqT K H a xs) ∧ Ps H xs ps ∧ ∀ p ∈ ps, OkP p ∧ p ≠ []
theorem SqP.keep0 {K : PySem.W.Frag} {H H2 : Hp} {a : Addr} {xs : List V} {ps : List Pth} (h : SqP K H a xs ps) (k : Kp T0 H H2) : SqP K H2 a xs ps :=
  ⟨h.1.imp (fun z => SqL.ext z fun b o e => k.at0 e) fun z => SqT.ext z fun b o e => k.at0 e, h.2.1.keep0 k, h.2.2⟩
def spFewest (K : PySem.W.Frag) : Sp := fun vs H Q _ => ∃ (a : Addr) (xs : List V) (ps : List Pth), vs = [.ref a] ∧ SqP K H a xs ps ∧ xs.length < sizeLine ∧
  ∀ (H2 : Hp) (l : Addr) (ys : List V) (qs : List Pth), Kp T0 H H2 → H l = none → H2 l = some (.lst ys) → Ps H2 ys qs → ys.length ≤ xs.length → Canon ps qs → Q (.ref l) H2
def spInit (K : PySem.W.Frag) (C : Addr) : Sp := fun vs H Q _ => ∃ (x dx a : Addr) (xs : List V) (ps : List Pth), vs = [.ref x, .ref a] ∧ H x = some (.ins C dx []) ∧ SqP K H a xs ps ∧ xs.length ≤ MOST ∧
  ∀ (H2 : Hp) (qs : List Pth), Kp (fun b => b = x) H H2 → IsM C H2 (.ref x) qs → qs.length ≤ xs.length → Canon ps qs → Q .non H2
def spEqM (C : Addr) : Sp := fun vs H Q _ => ∃ (v u : V) (qs rs : List Pth), vs = [v, u] ∧ IsM C H v qs ∧ IsM C H u rs ∧ Q (.bl (decide (qs = rs))) H
def spAndM (C : Addr) : Sp := fun vs H Q _ => ∃ (v u : V) (qs rs : List Pth), vs = [v, u] ∧ IsM C H v qs ∧ IsM C H u rs ∧ qs.length + rs.length ≤ MOST ∧
  ∀ H2 z ts, Kp T0 H H2 → IsM C H2 z ts → ts.length ≤ qs.length + rs.length → Canon (bothP qs rs) ts → Q z H2
def spOrM (C : Addr) : Sp := fun vs H Q _ => ∃ (v u : V) (qs rs : List Pth), vs = [v, u] ∧ IsM C H v qs ∧ IsM C H u rs ∧ qs.length + rs.length ≤ MOST ∧
  ∀ H2 z ts, Kp T0 H H2 → IsM C H2 z ts → ts.length ≤ qs.length + rs.length → Canon (qs ++ rs) ts → Q z H2
def spWithinM (C : Addr) : Sp := fun vs H Q _ => ∃ (v u : V) (qs rs : List Pth), vs = [v, u] ∧ IsM C H v qs ∧ IsM C H u rs ∧ ∀ H2, Kp T0 H H2 → Q (.bl (withinP qs rs)) H2
def spLenM (C : Addr) : Sp := fun vs H Q _ => ∃ (v : V) (qs : List Pth), vs = [v] ∧ IsM C H v qs ∧ Q (.int (qs.length : Nat)) H
def spPathsM (C : Addr) : Sp := fun vs H Q _ => ∃ (v : V) (qs : List Pth), vs = [v] ∧ IsM C H v qs ∧ ∀ l ys, H l = none → Ps H ys qs → Q (.ref l) (upd H l (.lst ys))
/-- path in mask, or a value that is no row -/
def spInM (K : PySem.W.Frag) (C : Addr) : Sp := fun vs H Q E => ∃ (v u : V) (qs : List Pth), vs = [v, u] ∧ IsM C H v qs ∧
  ((∃ p, IsP H u p ∧ OkP p ∧ p ≠ [] ∧ ∀ H2, Kp T0 H H2 → Q (.bl (coversP qs p)) H2) ∨ spIsRow K [u] H (fun r H2 => r = .bl false ∧ Q (.bl false) H2) E)

/-! ### a new mask -/
theorem Kp.made {H H2 : Hp} {x dx C : Addr} (nx : H x = none) (nd : H dx = none) (k : Kp (fun b => b = x) (upd (upd H dx (.own x)) x (.ins C dx [])) H2) : Kp T0 H H2 := by
  intro b o _ e
  have nb : b ≠ x := ne_of_none e nx
  refine k b o nb ?_
  rw [upd_ne nb, upd_ne (ne_of_none e nd)]
  exact e
theorem Kp.mk {H : Hp} {x dx C : Addr} (nx : H x = none) (nd : H dx = none) : Kp T0 H (upd (upd H dx (.own x)) x (.ins C dx [])) := ((Kp.refl H).over nd).over nx
theorem putF_nil (f : Str) (v : V) : putF f v [] = [(f, v)] := rfl
theorem sqL_at {K : PySem.W.Frag} {T : Addr → Prop} {H H2 : Hp} {a : Addr} {xs : List V} (h : SqL K H a xs) (k : Kp T H H2) (n : ¬ T a) : SqL K H2 a xs :=
  h.imp (fun h => h.imp (fun h => k a _ n h) fun ⟨o, h⟩ => ⟨o, k a _ n h⟩) id
theorem sqT_at {K : PySem.W.Frag} {T : Addr → Prop} {H H2 : Hp} {a : Addr} {xs : List V} (h : SqT K H a xs) (k : Kp T H H2) (n : ¬ T a) : SqT K H2 a xs :=
  h.imp (fun h => h.imp (fun h => k a _ n h) fun ⟨o, h⟩ => ⟨o, k a _ n h⟩) id
/-- a for over a list or a tuple -/
theorem for_seq {K : PySem.W.Frag} {T : Addr → Prop} {i1 : Nat} {a : Addr} {xs : List V} {g : TG} {tb : TS} {D : Ends} {st : L2.St} {H : Hp} (hv : st[i1]? = some (some (.ref a))) (hq : SqL K H a xs ∨ SqT K H a xs) (hT : ¬ T a)
    (Pv : Nat → L2.St → Hp → Prop) (h0 : Pv 0 st H) (hk : ∀ i s2 H2, Pv i s2 H2 → Kp T H H2)
    (hs : ∀ i x s2 H2, xs[i]? = some x → Pv i s2 H2 → g x s2 H2 fun s3 H3 => tb { D with nx := Pv (i + 1), ct := Pv (i + 1), bk := D.nx } s3 H3) (hd : ∀ s2 H2, Pv xs.length s2 H2 → D.nx s2 H2) :
    tFor (fun st H R => iList K (tVar i1) st H R ∨ iTup K (tVar i1) st H R) g tb D st H := by
  rcases hq with h | h
  · refine .inl ⟨_, hv, a, rfl, ⟨xs, h⟩, for_it walk_list Pv h0 (fun i s2 H2 _ p => sqL_at h (hk i s2 H2 p) hT) (fun i x s2 H2 H3 hi p y => ?_) hd⟩
    obtain ⟨rfl, y⟩ := y
    exact hs i x s2 H3 y p
  · refine .inr ⟨_, hv, a, rfl, ⟨xs, h⟩, for_it walk_tup Pv h0 (fun i s2 H2 _ p => sqT_at h (hk i s2 H2 p) hT) (fun i x s2 H2 H3 hi p y => ?_) hd⟩
    obtain ⟨rfl, y⟩ := y
    exact hs i x s2 H3 y p
/-- a path is a row -/
theorem row_of {K : PySem.W.Frag} {H : Hp} {v : V} {p : Pth} {Q : VK} {E : XK} (h : IsP H v p) (o : OkP p) (n : p ≠ []) (q : ∀ H2, Kp T0 H H2 → Q (.bl true) H2) : spIsRow K [v] H Q E := by
  obtain ⟨a, rfl, h⟩ := h
  refine ⟨_, true, rfl, .inl ⟨a, _, _, _, rfl, h, o.1.items, dp_strs p, lay_dP o, ?_, ?_⟩, q⟩
  · rw [List.length_map, sizeLine_eq]
    have := o.2
    omega
  · cases p with
    | nil => exact absurd rfl n
    | cons x p =>
      symm
      show (true && List.all _ id) = true
      rw [Bool.true_and, List.all_map, List.all_eq_true]
      exact fun _ _ => rfl
end Gk
/-! Gk8: the laws' tape of draws. -/
namespace Gk
open PySem PySem.Spec PyProof.Rows L2

def kD : L2.Key := .inr "digits"
def kX : L2.Key := .inr "mixed"
def tapeL (d m : Int) : List (L2.Key × V) := [(kD, .int d), (kX, .int m)]
structure TapeOk (d m : Int) : Prop where
  d0 : 0 ≤ d
  db : nbits d ≤ 2097152
  m0 : 0 ≤ m
  m1 : m < 4294967296
def TapeAt (H : Hp) (t : Addr) : Prop := ∃ d m, H t = some (.dK (tapeL d m)) ∧ TapeOk d m
abbrev At (t : Addr) : Addr → Prop := fun b => b = t
theorem key_ne : ¬ (kX = kD) := by decide +kernel
theorem tape_d (d m : Int) : valV (tapeL d m) kD = some (.int d) := by
  unfold valV tapeL
  have e : (fun kv : L2.Key × V => decide (kv.1 = kD)) (kD, V.int d) = true := decide_eq_true rfl
  rw [List.find?_cons_of_pos (p := fun kv : L2.Key × V => decide (kv.1 = kD)) e]
  rfl
theorem tape_x (d m : Int) : valV (tapeL d m) kX = some (.int m) := by
  unfold valV tapeL
  have e1 : ¬ (fun kv : L2.Key × V => decide (kv.1 = kX)) (kD, V.int d) = true := fun z => key_ne (of_decide_eq_true z).symm
  have e2 : (fun kv : L2.Key × V => decide (kv.1 = kX)) (kX, V.int m) = true := decide_eq_true rfl
  rw [List.find?_cons_of_neg (p := fun kv : L2.Key × V => decide (kv.1 = kX)) e1, List.find?_cons_of_pos (p := fun kv : L2.Key × V => decide (kv.1 = kX)) e2]
  rfl
theorem put_d (d m x : Int) : putK (tapeL d m) kD (.int x) = tapeL x m := by
  unfold putK tapeL
  rw [if_pos (by rw [List.any_cons, decide_eq_true rfl] <;> rfl)]
  show [if kD = kD then (kD, V.int x) else _, if kX = kD then (kX, V.int x) else (kX, V.int m)] = _
  rw [if_pos rfl, if_neg key_ne]
theorem put_x (d m x : Int) : putK (tapeL d m) kX (.int x) = tapeL d x := by
  unfold putK tapeL
  rw [if_pos (by rw [List.any_cons, List.any_cons, decide_eq_true (show kX = kX from rfl), Bool.true_or, Bool.or_true])]
  show [if kD = kX then (kD, V.int x) else (kD, V.int d), if kX = kX then (kX, V.int x) else _] = _
  rw [if_neg (fun z : kD = kX => key_ne z.symm), if_pos rfl]
theorem merge_tape (d m : Int) : mergeK [] [(kD, .int d), (kX, .int m)] = tapeL d m := by
  unfold mergeK
  show putK (putK [] kD (.int d)) kX (.int m) = _
  have e1 : putK [] kD (V.int d) = [(kD, .int d)] := rfl
  rw [e1]
  unfold putK
  rw [if_neg (by rw [List.any_cons, decide_eq_false (fun z : kD = kX => key_ne z.symm)]; exact Bool.false_ne_true)]
  rfl

/-! ### numbers -/
theorem bits_small {x : Int} {k : Nat} (h : x.natAbs < 2 ^ k) : nbits x ≤ k := intBits_le_iff.mpr h
theorem bits_lt {x : Int} {k : Nat} (h : nbits x ≤ k) : x.natAbs < 2 ^ k := intBits_le_iff.mp h
theorem tape_step {m c : Int} (h0 : 0 ≤ m) (h1 : m < 4294967296) (hc : nbits c ≤ 1048576) : nbits (m * 30011 + c * c + 7) ≤ 2097160 := by
  have a1 : nbits (m * 30011) ≤ 47 := intBits_mul_le (bits_small (k := 32) (by omega)) (bits_small (k := 15) (by decide))
  have a2 : nbits (c * c) ≤ 2097152 := intBits_mul_le hc hc
  have a3 := intBits_add_le a1 a2
  have a4 : nbits (7 : Int) ≤ 3 := bits_small (by decide)
  exact Nat.le_trans (intBits_add_le a3 a4) (by decide)

theorem well_step {m c : Int} (h0 : 0 ≤ m) (h1 : m < 4294967296) (hc : nbits c ≤ 1048576) : nbits (m * 70121 + c * c + 41) ≤ 2097160 := by
  have a1 : nbits (m * 70121) ≤ 49 := intBits_mul_le (bits_small (k := 32) (by omega)) (bits_small (k := 17) (by decide))
  have a2 : nbits (c * c) ≤ 2097152 := intBits_mul_le hc hc
  have a4 : nbits (41 : Int) ≤ 6 := bits_small (by decide)
  exact Nat.le_trans (intBits_add_le (intBits_add_le a1 a2) a4) (by decide)

/-! ### what is promised of the tape's functions -/
def spTape (K : PySem.W.Frag) : Sp := fun vs H Q _ => ∃ (a : Addr) (ns : List Int) (start : Int), vs = [.ref a, .int start] ∧ SqL K H a (ns.map V.int) ∧ ns.length ≤ 63 ∧ (∀ z ∈ ns, nbits z ≤ 1048576) ∧ 0 ≤ start ∧ start ≤ 63 ∧
  ∀ t d m, H t = none → TapeOk d m → Q (.ref t) (upd H t (.dK (tapeL d m)))
def spPick : Sp := fun vs H Q _ => ∃ (t : Addr) (n : Int), vs = [.ref t, .int n] ∧ TapeAt H t ∧ 1 ≤ n ∧ n ≤ 1048576 ∧ ∀ H2 r, Kp (At t) H H2 → TapeAt H2 t → 0 ≤ r → r < n → Q (.int r) H2
def spOneOf (K : PySem.W.Frag) : Sp := fun vs H Q _ => ∃ (t l : Addr) (xs : List V), vs = [.ref t, .ref l] ∧ TapeAt H t ∧ SqL K H l xs ∧ 1 ≤ xs.length ∧ xs.length ≤ 1048576 ∧ ∀ H2 x, Kp (At t) H H2 → TapeAt H2 t → x ∈ xs → Q x H2
/-- a drawn path -/
def Drawn (NM : List Str) (p : Pth) : Prop := 1 ≤ p.length ∧ p.length ≤ 3 ∧ ∀ x ∈ p, x ∈ NM
def spPath (NM : List Str) : Sp := fun vs H Q _ => ∃ (t : Addr), vs = [.ref t] ∧ TapeAt H t ∧ ∀ H2 v p, Kp (At t) H H2 → TapeAt H2 t → IsP H2 v p → Drawn NM p → Q v H2
def spDrawn (NM : List Str) : Sp := fun vs H Q _ => ∃ (t : Addr), vs = [.ref t] ∧ TapeAt H t ∧ ∀ H2 l ys ps, Kp (At t) H H2 → TapeAt H2 t → H l = none → H2 l = some (.lst ys) → Ps H2 ys ps → ys.length ≤ 6 → (∀ p ∈ ps, Drawn NM p) → Q (.ref l) H2
theorem tape_ne {H : Hp} {t l : Addr} (h : TapeAt H t) {xs : List V} (s : H l = some (.lst xs)) : ¬ At t l := by
  intro e
  obtain ⟨d, m, z, _⟩ := h
  rw [show l = t from e, z] at s
  cases s
theorem tape_fresh {H : Hp} {t l : Addr} (h : TapeAt H t) (s : H l = none) : ¬ At t l := by
  intro e
  obtain ⟨d, m, z, _⟩ := h
  rw [show l = t from e, z] at s
  cases s
theorem TapeAt.new {H : Hp} {t p : Addr} {o : HO} (h : TapeAt H t) (n : H p = none) : TapeAt (upd H p o) t := by
  obtain ⟨d, m, z, k⟩ := h
  exact ⟨d, m, (upd_ne (ne_of_none z n)).trans z, k⟩
theorem TapeAt.over {H : Hp} {t p : Addr} {o : HO} (h : TapeAt H t) (n : ¬ At t p) : TapeAt (upd H p o) t := by
  obtain ⟨d, m, z, k⟩ := h
  exact ⟨d, m, (upd_ne (fun e => n e.symm)).trans z, k⟩
theorem TapeAt.keep {H H2 : Hp} {t : Addr} (h : TapeAt H t) (k : Kp T0 H H2) : TapeAt H2 t := by
  obtain ⟨d, m, z, q⟩ := h
  exact ⟨d, m, k.at0 z, q⟩
theorem TapeAt.loose {H : Hp} {t : Addr} (h : TapeAt H t) : Loose (At t) H := by
  intro a o e q
  obtain ⟨d, m, z, _⟩ := h
  rw [show a = t from e, z] at q
  cases q
  exact ⟨(fun _ e => nomatch e), fun _ _ _ e => nomatch e⟩
theorem sqL_tape {K : PySem.W.Frag} {H H2 : Hp} {t l : Addr} {xs : List V} (h : TapeAt H t) (s : SqL K H l xs) (k : Kp (At t) H H2) : SqL K H2 l xs := by
  rcases s with (s | ⟨o, s⟩) | s
  · refine .inl (.inl (k l _ (fun e => ?_) s))
    obtain ⟨d, m, z, _⟩ := h
    rw [show l = t from e, z] at s
    cases s
  · refine .inl (.inr ⟨o, k l _ (fun e => ?_) s⟩)
    obtain ⟨d, m, z, _⟩ := h
    rw [show l = t from e, z] at s
    cases s
  · exact .inr s
theorem Ps.tape {H H2 : Hp} {t : Addr} {vs : List V} {ps : List Pth} (h : Ps H vs ps) (k : Kp (At t) H H2) (ta : TapeAt H t) : Ps H2 vs ps := h.keep k fun a o e q => (ta.loose a o e q).1
theorem IsM.tape {H H2 : Hp} {t C : Addr} {v : V} {qs : List Pth} (h : IsM C H v qs) (k : Kp (At t) H H2) (ta : TapeAt H t) : IsM C H2 v qs := h.keep k ta.loose
/-- drawn paths are right ones -/
theorem drawn_ok {NM : List Str} (hn : NM.all isNm = true) {p : Pth} (h : Drawn NM p) : OkP p ∧ p ≠ [] := by
  obtain ⟨h1, h3, hm⟩ := h
  refine ⟨⟨fun x hx => List.all_eq_true.mp hn x (hm x hx), by omega⟩, fun e => ?_⟩
  rw [e] at h1
  exact absurd h1 (by decide)
theorem dget_d {H : Hp} {t : Addr} {d m : Int} (h : H t = some (.dK (tapeL d m))) : DGet H t (.str "digits") (some (.int d)) := by
  rw [← tape_d d m]
  exact DGet.k (k := kD) h
theorem dget_x {H : Hp} {t : Addr} {d m : Int} (h : H t = some (.dK (tapeL d m))) : DGet H t (.str "mixed") (some (.int m)) := by
  rw [← tape_x d m]
  exact DGet.k (k := kX) h
theorem dput_d {H : Hp} {t : Addr} {d m : Int} (h : H t = some (.dK (tapeL d m))) (x : Int) : DPut H t (.str "digits") (.int x) (upd H t (.dK (tapeL x m))) := by
  rw [← put_d d m x]
  exact DPut.k (k := kD) h (by show 2 < sizeLine; rw [sizeLine_eq]; decide)
theorem dput_x {H : Hp} {t : Addr} {d m : Int} (h : H t = some (.dK (tapeL d m))) (x : Int) : DPut H t (.str "mixed") (.int x) (upd H t (.dK (tapeL d x))) := by
  rw [← put_x d m x]
  exact DPut.k (k := kX) h (by show 2 < sizeLine; rw [sizeLine_eq]; decide)
theorem TapeAt.put {H : Hp} {t : Addr} {d m : Int} (o : TapeOk d m) : TapeAt (upd H t (.dK (tapeL d m))) t := ⟨d, m, upd_same, o⟩
/-- what a law promises -/
def spLaw (K : PySem.W.Frag) : Sp := fun vs H Q _ => ∃ (a : Addr) (ns : List Int), vs = [.ref a] ∧ SqL K H a (ns.map V.int) ∧ ns.length ≤ 63 ∧ (∀ z ∈ ns, nbits z ≤ 1048576) ∧ ∀ H2, Q (.bl true) H2
end Gk
/-! Gk9: len of an own instance, properties. -/
namespace Gk
open PySem PySem.Spec PyProof.Rows L2
/-- len(o), o of a class that defines it -/
def rLenOwn (C : Addr) (sp : Sp) : List V → Hp → VK → Prop := fun xs H Q => ∃ (a dx : Addr) (fs : List (Str × V)), xs = [.ref a] ∧ H a = some (.ins C dx fs) ∧ sp [.ref a] H (fun r H2 => ∃ n : Int, r = .int n ∧ 0 ≤ n ∧ n < 2 ^ 63 ∧ Q (.int n) H2) E0
theorem call_lenOwn {X : Cx} {C f : Addr} {k : Nat} {ps : List Str} {sp : Sp} (D : Dm X.prog X.w X.K X.mg X.base C k "__len__" f ps sp) (hr : Room (k + 1) X.A) : CallR X (.builtin "len") (rLenOwn C sp) := by
  intro pins s σ H xs us Q I r h
  obtain ⟨a, dx, fs, rfl, ha, h⟩ := h
  obtain ⟨u, rfl, ru⟩ := vals1 r
  cases ru
  obtain ⟨fd, F, hb⟩ := D.ex
  obtain ⟨mA, J, _⟩ := ins_get I.hok ha
  obtain ⟨od, J, _⟩ := J.look
  obtain ⟨m, hF⟩ := I.fr
  refine PySem.W.len_K hF I.ok.mod.kin J D.me.at_ D.me.fn ?_
  refine thn (run_below (A := X.A.in1) F rfl hr.in1 hb pass0 I (show Vals [V.ref a] [Value.ref a] from .cons rfl .nil) h) fun u2 s2 q => ?_
  obtain ⟨z, H2, I2, rz, n, rfl, n0, n1, q2⟩ := q
  obtain ⟨t, rfl⟩ := (show ∃ t, u2 = Value.int n t from rz)
  exact ⟨⟨n0, n1⟩, .int n, H2, I2.tok _, ⟨_, rfl⟩, q2⟩
/-- a property and its promise -/
structure Pr (P : Program) (w : World) (K : PySem.W.Frag) (mg : Str → Option Value) (base : Heap) (C : Addr) (k : Nat) (m : Str) (sp : Sp) : Prop where
  ex : ∃ p g fd, PropOf K C m p g ∧ FnOk P w K mg base CX0 k g fd ["self"] sp ∧ Binds K fd ["self"] []
theorem pe_pr {X : Cx} {C : Addr} {k : Nat} {m : Str} {sp : Sp} {e : Expr} {pos : Pos} {ta : TE} (he : PE X e ta) (c : Cls X.K C) (D : Pr X.prog X.w X.K X.mg X.base C k m sp) (hr : Room (k + 1) X.A)
    (hab : attributeBase e m X.env (eval e X.env) = eval e X.env := by rfl) : PE X (.Attribute e m pos) (tProp C sp [] E0 ta) := by
  obtain ⟨p, g, fd, hp, F, b⟩ := D.ex
  exact pe_prop he c hp F hr b .nil pass0 hab
end Gk
/-! Gk10: readings of the masks' operators; what the laws want of covering. -/
namespace Gk
open PySem PySem.Spec PyProof.Rows L2
section
variable {K : PySem.W.Frag} {C : Addr} {H : Hp} {v u : V} {qs rs : List Pth} {Q : VK} {E : XK}
theorem IsM.ins (h : IsM C H v qs) : ∃ x dx r, v = .ref x ∧ H x = some (.ins C dx [("rows", .ref r)]) := by
  obtain ⟨x, dx, r, _, e, hx, _⟩ := h
  exact ⟨x, dx, r, e, hx⟩
theorem rd_and (i : IsM C H v qs) (j : IsM C H u rs) (lm : qs.length + rs.length ≤ MOST) (k : ∀ H2 z ts, Kp T0 H H2 → IsM C H2 z ts → ts.length ≤ qs.length + rs.length → Canon (bothP qs rs) ts → Q z H2) : rOwn C (spAndM C) E v u H Q := by
  obtain ⟨x, dx, r, rfl, hx⟩ := i.ins
  obtain ⟨y, dy, t, rfl, hy⟩ := j.ins
  exact ⟨x, y, dx, dy, _, _, rfl, rfl, hx, hy, _, _, qs, rs, rfl, i, j, lm, k⟩
theorem rd_or (i : IsM C H v qs) (j : IsM C H u rs) (lm : qs.length + rs.length ≤ MOST) (k : ∀ H2 z ts, Kp T0 H H2 → IsM C H2 z ts → ts.length ≤ qs.length + rs.length → Canon (qs ++ rs) ts → Q z H2) : rOwn C (spOrM C) E v u H Q := by
  obtain ⟨x, dx, r, rfl, hx⟩ := i.ins
  obtain ⟨y, dy, t, rfl, hy⟩ := j.ins
  exact ⟨x, y, dx, dy, _, _, rfl, rfl, hx, hy, _, _, qs, rs, rfl, i, j, lm, k⟩
theorem rd_eq (i : IsM C H v qs) (j : IsM C H u rs) (k : Q (.bl (decide (qs = rs))) H) : rOwn C (spEqM C) E v u H Q := by
  obtain ⟨x, dx, r, rfl, hx⟩ := i.ins
  obtain ⟨y, dy, t, rfl, hy⟩ := j.ins
  exact ⟨x, y, dx, dy, _, _, rfl, rfl, hx, hy, _, _, qs, rs, rfl, i, j, k⟩
theorem rd_ne (i : IsM C H v qs) (j : IsM C H u rs) (k : Q (.bl (!decide (qs = rs))) H) : rOwnNe C (spEqM C) E v u H Q := by
  obtain ⟨x, dx, r, rfl, hx⟩ := i.ins
  obtain ⟨y, dy, t, rfl, hy⟩ := j.ins
  exact ⟨x, y, dx, dy, _, _, rfl, rfl, hx, hy, _, _, qs, rs, rfl, i, j, _, rfl, k⟩
theorem rd_m {m : Str} {R : Prop} (i : IsM C H v qs) (n : (m == ("rows" : Str)) = false) (k : R) : ∃ a dx fs, v = .ref a ∧ H a = some (.ins C dx fs) ∧ fs.lookup m = none ∧ R := by
  obtain ⟨x, dx, r, rfl, hx⟩ := i.ins
  refine ⟨x, dx, _, rfl, hx, ?_, k⟩
  rw [List.lookup_cons, n]
  rfl
theorem rd_within (i : IsM C H v qs) (j : IsM C H u rs) (k : ∀ H2, Kp T0 H H2 → Q (.bl (withinP qs rs)) H2) : spWithinM C [v, u] H Q E := ⟨v, u, qs, rs, rfl, i, j, k⟩
theorem rd_in {p : Pth} {b : Bool} (i : IsM C H v qs) (ip : IsP H u p) (o : OkP p ∧ p ≠ []) (k : ∀ H2, Kp T0 H H2 → Q (.bl (if b then !coversP qs p else coversP qs p)) H2) : rOwnIn C (spInM K C) E b u v H Q := by
  obtain ⟨x, dx, r, rfl, hx⟩ := i.ins
  exact ⟨x, dx, _, rfl, hx, _, _, qs, rfl, i, .inl ⟨p, ip, o.1, o.2, fun H2 k2 => ⟨_, rfl, k H2 k2⟩⟩⟩
theorem rd_len (i : IsM C H v qs) (k : Q (.int (qs.length : Nat)) H) : rLenOwn C (spLenM C) [v] H Q := by
  have l := i.len
  obtain ⟨x, dx, r, rfl, hx⟩ := i.ins
  refine ⟨x, dx, _, rfl, hx, _, qs, rfl, i, _, rfl, Int.natCast_nonneg _, ?_, k⟩
  have : MOST = 100000 := rfl
  omega
theorem rd_paths (i : IsM C H v qs) (k : ∀ l ys, H l = none → Ps H ys qs → Q (.ref l) (upd H l (.lst ys))) : ∃ a dx fs, v = .ref a ∧ H a = some (.ins C dx fs) ∧ spPathsM C (.ref a :: []) H Q E := by
  obtain ⟨x, dx, r, rfl, hx⟩ := i.ins
  exact ⟨x, dx, _, rfl, hx, _, qs, rfl, i, k⟩
end
/-! ### the tape's changes seen from outside -/
theorem Kp.tape {H H2 : Hp} {t : Addr} {o : HO} (n : H t = none) (k : Kp (At t) (upd H t o) H2) : Kp T0 H H2 := by
  intro b x _ e
  have nb : b ≠ t := ne_of_none e n
  exact k b x nb (by rw [upd_ne nb]; exact e)
theorem sqp_drawn {K : PySem.W.Frag} {H : Hp} {l : Addr} {ys : List V} {ps : List Pth} {NM : List Str} (hn : NM.all isNm = true) (d : H l = some (.lst ys)) (hp : Ps H ys ps) (o : ∀ p ∈ ps, Drawn NM p) : SqP K H l ys ps :=
  ⟨.inl (SqL.of d), hp, fun p h => drawn_ok hn (o p h)⟩

/-! ### covering -/
def CM (qs : List Pth) : Prop := ∃ ps, Canon ps qs
theorem Canon.cm {ps qs : List Pth} (c : Canon ps qs) : CM qs := ⟨ps, c⟩
theorem cm_ext {qs rs : List Pth} (a : CM qs) (b : CM rs) (h : ∀ x, coversP qs x = coversP rs x) : qs = rs := by
  obtain ⟨_, c⟩ := a
  obtain ⟨_, d⟩ := b
  exact canon_ext c d h
theorem cov_and {qs rs ts : List Pth} (c : Canon (bothP qs rs) ts) (x : Pth) : coversP ts x = (coversP qs x && coversP rs x) := (c.covers x).trans (covers_both qs rs x)
theorem cov_or {qs rs ts : List Pth} (c : Canon (qs ++ rs) ts) (x : Pth) : coversP ts x = (coversP qs x || coversP rs x) := (c.covers x).trans (covers_app qs rs x)
theorem bool_ext {a b : Bool} (h : a = true ↔ b = true) : a = b := by
  cases a <;> cases b <;> simp_all
theorem within_or {qs rs ts : List Pth} (c : Canon (qs ++ rs) ts) (b : CM rs) : withinP qs rs = decide (ts = rs) := by
  refine bool_ext ?_
  rw [within_iff, decide_eq_true_eq]
  constructor
  · intro h
    refine cm_ext c.cm b fun x => ?_
    rw [cov_or c]
    cases e : coversP qs x with
    | false => rfl
    | true => rw [h x e]; rfl
  · intro h x hx
    rw [← h, cov_or c, hx]
    rfl
theorem within_and {qs rs ts : List Pth} (c : Canon (bothP qs rs) ts) (a : CM qs) : withinP qs rs = decide (ts = qs) := by
  refine bool_ext ?_
  rw [within_iff, decide_eq_true_eq]
  constructor
  · intro h
    refine cm_ext c.cm a fun x => ?_
    rw [cov_and c]
    cases e : coversP qs x with
    | false => rfl
    | true => rw [h x e]; rfl
  · intro h x hx
    rw [← h, cov_and c] at hx
    exact (Bool.and_eq_true_iff.mp hx).2
theorem eq_within {qs rs : List Pth} (a : CM qs) (b : CM rs) : decide (qs = rs) = (withinP qs rs && withinP rs qs) := by
  refine bool_ext ?_
  rw [Bool.and_eq_true, within_iff, within_iff, decide_eq_true_eq]
  constructor
  · rintro rfl
    exact ⟨fun _ h => h, fun _ h => h⟩
  · rintro ⟨h, g⟩
    exact cm_ext a b fun x => bool_ext ⟨h x, g x⟩
theorem within_cov {qs rs : List Pth} (h : ∀ x, coversP qs x = true → coversP rs x = true) : withinP qs rs = true := within_iff.mpr h
/-- some of a mask's paths are a mask -/
theorem canon_filter {ps qs : List Pth} (c : Canon ps qs) (f : Pth → Bool) : Canon (qs.filter f) (qs.filter f) := by
  refine ⟨c.asc.filter _, fun q => ⟨fun h => ⟨h, fun g hg ne => ?_⟩, fun h => h.1⟩⟩
  cases e : beginsP q g with
  | false => rfl
  | true => exact absurd (c.anti (List.mem_filter.mp h).1 (List.mem_filter.mp hg).1 e) ne
/-- a mask without one of its paths -/
theorem less_cov {ps qs : List Pth} (c : Canon ps qs) {p : Pth} (hp : p ∈ qs) : coversP (qs.filter fun q => !decide (q = p)) p = false := by
  refine covers_false.mpr fun f hf => ?_
  obtain ⟨mf, e⟩ := List.mem_filter.mp hf
  cases b : beginsP p f with
  | false => rfl
  | true =>
    rw [c.anti hp mf b] at e
    simp at e
theorem less_len : ∀ {qs : List Pth} {p : Pth}, Asc qs → p ∈ qs → (qs.filter fun q => !decide (q = p)).length + 1 = qs.length
  | q :: qs, p, a, h => by
    have a2 := List.Pairwise.of_cons a
    have a1 : ∀ {r : Pth}, r ∈ qs → ltP q r = true := fun m => List.rel_of_pairwise_cons a m
    by_cases e : q = p
    · subst e
      have n : q ∉ qs := fun m => by
        have l := a1 m
        rw [ltP_irrefl] at l
        cases l
      have f : (qs.filter fun r => !decide (r = q)) = qs := List.filter_eq_self.mpr fun r hr => by
        rw [decide_eq_false (fun z => n (by rw [← z]; exact hr))]
        rfl
      rw [List.filter_cons_of_neg (by rw [decide_eq_true rfl]; exact Bool.false_ne_true), f]
      rfl
    · have m : p ∈ qs := (List.mem_cons.mp h).resolve_left fun z => e z.symm
      rw [List.filter_cons_of_pos (by rw [decide_eq_false e]; rfl), List.length_cons, List.length_cons, less_len a2 m]
/-! ### rows of masks -/
/-- small masks -/
abbrev Ms (C : Addr) (H : Hp) : List V → List (List Pth) → Prop := Paired fun v qs => IsM C H v qs ∧ qs.length ≤ 6
theorem Ms.keep {T : Addr → Prop} {C : Addr} {H H2 : Hp} {vs : List V} {qss : List (List Pth)} (h : Ms C H vs qss) (k : Kp T H H2) (hT : Loose T H) : Ms C H2 vs qss := Paired.mapP h fun _ _ z => ⟨z.1.keep k hT, z.2⟩
theorem Ms.keep0 {C : Addr} {H H2 : Hp} {vs : List V} {qss : List (List Pth)} (h : Ms C H vs qss) (k : Kp T0 H H2) : Ms C H2 vs qss := h.keep k (loose0 H)
theorem Ms.snoc {C : Addr} {H : Hp} : ∀ {vs : List V} {qss : List (List Pth)} {v : V} {qs : List Pth}, Ms C H vs qss → IsM C H v qs → qs.length ≤ 6 → Ms C H (vs ++ [v]) (qss ++ [qs])
  | _, _, _, _, .nil, h, l => .cons ⟨h, l⟩ .nil
  | _, _, _, _, .cons r t, h, l => .cons r (Ms.snoc t h l)
theorem Ms.get {C : Addr} {H : Hp} : ∀ {vs : List V} {qss : List (List Pth)} {i : Nat} {v : V}, Ms C H vs qss → vs[i]? = some v → ∃ qs, IsM C H v qs ∧ qs.length ≤ 6
  | _, _, _, _, .nil, e => nomatch e
  | _, _, 0, _, .cons r _, e => by
    cases Option.some.inj e
    exact ⟨_, r⟩
  | _, _, _ + 1, _, .cons _ t, e => Ms.get t e
theorem Ms.three {C : Addr} {H : Hp} {vs : List V} {qss : List (List Pth)} (h : Ms C H vs qss) (l : vs.length = 3) :
    ∃ x y z q r s, vs = [x, y, z] ∧ (IsM C H x q ∧ q.length ≤ 6) ∧ (IsM C H y r ∧ r.length ≤ 6) ∧ (IsM C H z s ∧ s.length ≤ 6) := by
  match vs, qss, h, l with
  | [x, y, z], _, .cons a (.cons b (.cons c .nil)), _ => exact ⟨x, y, z, _, _, _, rfl, a, b, c⟩
theorem loose_lst {H : Hp} {D : Addr} {xs : List V} (d : H D = some (.lst xs)) : Loose (At D) H := by
  intro a o e q
  rw [show a = D from e, d] at q
  cases q
  exact ⟨(fun _ e => nomatch e), fun _ _ _ e => nomatch e⟩
theorem clamp {lo hi : Int} (h : lo ≤ hi) (n : Nat) : lo ≤ (if (if (n : Int) < hi then (n : Int) else hi) > lo then (if (n : Int) < hi then (n : Int) else hi) else lo) ∧ (if (if (n : Int) < hi then (n : Int) else hi) > lo then (if (n : Int) < hi then (n : Int) else hi) else lo) ≤ hi := by
  constructor
  · split
    · omega
    · omega
  · split
    · split <;> omega
    · omega
theorem less_within (qs : List Pth) (f : Pth → Bool) : withinP (qs.filter f) qs = true := within_cov fun x h => by
  obtain ⟨g, mg, b⟩ := covers_iff.mp h
  exact covers_iff.mpr ⟨g, (List.mem_filter.mp mg).1, b⟩
theorem cov_mem {qs : List Pth} {p : Pth} (h : p ∈ qs) : coversP qs p = true := covers_iff.mpr ⟨p, h, begins_self p⟩
theorem not_within {qs rs : List Pth} {p : Pth} (h : p ∈ qs) (n : coversP rs p = false) : withinP qs rs = false := by
  cases e : withinP qs rs with
  | false => rfl
  | true => rw [within_iff.mp e p (cov_mem h)] at n; cases n
end Gk
/-! Gk11: repr of True and False; values that are no rows. -/
namespace Gk
open PySem PySem.Spec PyProof.Rows L2
def boolS (b : Bool) : Str := if b then "True" else "False"
theorem call_repr_bool {X : Cx} : CallR X (.builtin "repr") (fun xs H Q => ∃ b, xs = [.bl b] ∧ Q (.str (boolS b)) H) := by
  intro pins s σ H xs us Q I r h
  obtain ⟨b, rfl, q⟩ := h
  obtain ⟨u, rfl, ru⟩ := vals1 r
  cases ru
  refine PySem.P.repr_of_bool ⟨.str (boolS b), H, I.tok _, ⟨s.toks, ?_⟩, q⟩
  cases b <;> rfl
/-- a value that is no row -/
def OddV (K : PySem.W.Frag) (H : Hp) (v : V) : Prop := (∃ (a : Addr) (xs : List V) (rs : List Bool) (ds : List PyData), v = .ref a ∧ H a = some (.tup xs) ∧ Paired (ItN K H) xs rs ∧ DpAll K H xs ds ∧ (PyData.tuple ds).canLay0 = true ∧ xs.length < sizeLine ∧ false = (!xs.isEmpty && rs.all id)) ∨ NoTup K H v
theorem OddV.keep0 {K : PySem.W.Frag} {H H2 : Hp} {v : V} (h : OddV K H v) (k : Kp T0 H H2) : OddV K H2 v := by
  rcases h with ⟨a, xs, rs, ds, e, ha, hp, hd, c, l, b⟩ | h
  · exact .inl ⟨a, xs, rs, ds, e, k.at0 ha, Paired.mapP hp fun _ _ z => z.keep0 k, dpAll_keep hd k, c, l, b⟩
  · exact .inr (h.keep0 k)
theorem rd_odd {K : PySem.W.Frag} {C : Addr} {H : Hp} {v u : V} {qs : List Pth} {Q : VK} {E : XK} (i : IsM C H v qs) (o : OddV K H u) (k : ∀ H2, Kp T0 H H2 → Q (.bl false) H2) : rOwnIn C (spInM K C) E false u v H Q := by
  obtain ⟨x, dx, r, rfl, hx⟩ := i.ins
  refine ⟨x, dx, _, rfl, hx, _, _, qs, rfl, i, .inr ⟨u, false, rfl, ?_, fun H2 k2 => ⟨rfl, _, rfl, k H2 k2⟩⟩⟩
  rcases o with ⟨a, xs, rs, ds, e, ha, hp, hd, c, l, b⟩ | o
  · exact .inl ⟨a, xs, rs, ds, e, ha, hp, hd, c, l, b⟩
  · exact .inr ⟨o, rfl⟩
/-- rows of values that are no rows -/
inductive Odds (K : PySem.W.Frag) (H : Hp) : List V → Prop
  | nil : Odds K H []
  | cons {v : V} {vs : List V} : OddV K H v → Odds K H vs → Odds K H (v :: vs)
theorem Odds.get {K : PySem.W.Frag} {H : Hp} : ∀ {vs : List V} {i : Nat} {v : V}, Odds K H vs → vs[i]? = some v → OddV K H v
  | _, _, _, .nil, e => nomatch e
  | _, 0, _, .cons h _, e => by
    cases Option.some.inj e
    exact h
  | _, _ + 1, _, .cons _ t, e => Odds.get t e
/-- a nested tuple around the text a -/
def Nest (H : Hp) : Nat → V → Prop
  | 0, v => v = .str "a"
  | n + 1, v => ∃ (a : Addr) (x : V), v = .ref a ∧ H a = some (.tup [x]) ∧ Nest H n x
def dNest : Nat → PyData
  | 0 => .str "a"
  | n + 1 => .tuple [dNest n]
theorem Nest.keep0 {H H2 : Hp} (k : Kp T0 H H2) : ∀ {n : Nat} {v : V}, Nest H n v → Nest H2 n v
  | 0, _, h => h
  | _ + 1, _, ⟨a, x, e, ha, h⟩ => ⟨a, x, e, k.at0 ha, Nest.keep0 k h⟩
theorem Nest.dp {K : PySem.W.Frag} {H : Hp} : ∀ {n : Nat} {v : V}, Nest H n v → Dp K H v (dNest n)
  | 0, _, h => by
    cases h
    exact .str _
  | _ + 1, _, ⟨a, x, e, ha, h⟩ => by
    cases e
    exact .tup (SqT.of ha) (.cons h.dp .nil)
theorem lay_nest : ∀ n : Nat, (dNest n).canLay0 = true
  | 0 => by decide +kernel
  | n + 1 => by
    show (PyData.canLay0 (dNest n) && PyData.canLayAll0 []) = true
    rw [lay_nest n]
    rfl
theorem Nest.odd {K : PySem.W.Frag} {H : Hp} {n : Nat} {v : V} (h : Nest H (n + 2) v) : OddV K H v := by
  obtain ⟨a, x, e, ha, h⟩ := h
  obtain ⟨b, y, e2, hb, h2⟩ := id h
  refine .inl ⟨a, [x], [false], [dNest (n + 1)], e, ha, .cons (.inr ⟨⟨.type "tuple", ?_, kit_ty (by decide +kernel)⟩, rfl⟩) .nil, .cons h.dp .nil, lay_nest (n + 2), (by show 1 < sizeLine; rw [sizeLine_eq]; decide), rfl⟩
  rw [e2]
  exact .base (.tup hb)
/-- what a law's own list of covering paths tells -/
theorem cov_any (ps : List Pth) (p : Pth) : (!(ps.filter (beginsP p)).isEmpty) = coversP ps p := by
  unfold coversP
  induction ps with
  | nil => rfl
  | cons q ps ih =>
    cases e : beginsP p q with
    | true => rw [List.filter_cons_of_pos e, List.any_cons, e]; rfl
    | false => rw [List.filter_cons_of_neg (by rw [e]; exact Bool.false_ne_true), List.any_cons, e, ih, Bool.false_or]
abbrev dL (ps : List Pth) : PyData := .list (ps.map dP)
theorem shaped_dL {ps : List Pth} (h : ∀ p ∈ ps, OkP p) : SeqAt.shaped (dL ps) = true := shaped_dM h
theorem eqv_dL (ps qs : List Pth) : PyData.eqv (dL ps) (dL qs) = decide (ps = qs) := eqv_paths ps qs
/-- a law's own reading of covering: paths a list -/
def spLCov (K : PySem.W.Frag) : Sp := fun vs H Q _ => ∃ (a : Addr) (xs : List V) (ps : List Pth) (v : V) (p : Pth), vs = [.ref a, v] ∧ SqL K H a xs ∧ Ps H xs ps ∧ xs.length ≤ MOST ∧ (∀ f ∈ ps, OkP f) ∧ IsP H v p ∧ OkP p ∧
  ∀ H2, Kp T0 H H2 → Q (.bl (coversP ps p)) H2
/-! ### paths made longer and shorter -/
theorem rd_catA {K : PySem.W.Frag} {H : Hp} {v : V} {p q : Pth} {b : Addr} {Q : VK} (hv : IsP H v p) (hb : H b = some (.tup (q.map V.str))) (nq : q ≠ []) (l : p.length + q.length ≤ 1000) (k : ∀ c H2, Kp T0 H H2 → IsP H2 (.ref c) (p ++ q) → Q (.ref c) H2) :
    rCatA K v (.ref b) H Q := by
  obtain ⟨a, rfl, ha⟩ := hv
  refine ⟨a, b, _, _, rfl, rfl, SqT.of ha, SqT.of hb, ?_, fun e => ?_, fun _ e => ?_, fun _ _ c hc => ?_⟩
  · rw [List.length_map, List.length_map, sizeLine_eq]
    omega
  · refine k b H (Kp.refl H) ⟨b, rfl, ?_⟩
    rw [hb, List.map_eq_nil_iff.mp e, List.nil_append]
  · exact absurd (List.map_eq_nil_iff.mp e) nq
  · refine k c _ ((Kp.refl H).new hc) ⟨c, rfl, ?_⟩
    rw [upd_same, List.map_append]
theorem cut_init (xs : List V) : cutV xs none (some (-1)) = xs.dropLast := by
  unfold cutV
  rw [HT.sIx_none, List.drop_zero, Nat.sub_zero, List.dropLast_eq_take]
  have e : HT.sIx xs.length xs.length (some (-1)) = ((-1 : Int) + (xs.length : Int)).toNat := rfl
  have e2 : ((-1 : Int) + (xs.length : Int)).toNat = xs.length - 1 := by omega
  rw [e, e2]
theorem rd_init {K : PySem.W.Frag} {H : Hp} {v : V} {p : Pth} {Q : VK} (hv : IsP H v p) (np : p ≠ []) (k : ∀ c H2, Kp T0 H H2 → IsP H2 (.ref c) p.dropLast → Q (.ref c) H2) : rSlA K v none (some (-1)) H Q := by
  obtain ⟨a, rfl, ha⟩ := hv
  refine ⟨a, _, rfl, SqT.of ha, fun z => ?_, fun _ c hc => ?_⟩
  · exfalso
    have z2 := z.2
    have e : HT.sIx (p.map V.str).length (p.map V.str).length (some (-1)) = ((-1 : Int) + ((p.map V.str).length : Int)).toNat := rfl
    rw [e, List.length_map] at z2
    have : p.length ≠ 0 := fun z => np (List.eq_nil_of_length_eq_zero z)
    omega
  · refine k c _ ((Kp.refl H).new hc) ⟨c, rfl, ?_⟩
    rw [upd_same, cut_init, List.map_dropLast]
/-- right paths -/
def Good (p : Pth) : Prop := OkP p ∧ p ≠ []
theorem Good.app {p q : Pth} (h : OkP p) (hq : q.all isNm = true) (nq : q ≠ []) (l : p.length + q.length ≤ 1000) : Good (p ++ q) := by
  refine ⟨⟨fun x hx => ?_, by rw [List.length_append]; exact l⟩, fun e => nq (List.append_eq_nil_iff.mp e).2⟩
  rcases List.mem_append.mp hx with m | m
  · exact h.1 x m
  · exact List.all_eq_true.mp hq x m
theorem OkP.init {p : Pth} (h : OkP p) : OkP p.dropLast := ⟨fun x hx => h.1 x (List.dropLast_subset p hx), Nat.le_trans (by rw [List.length_dropLast]; exact Nat.sub_le _ _) h.2⟩
/-- a list grows by right paths -/
structure Pile (H : Hp) (s : Addr) (n : Nat) : Prop where
  ex : ∃ us rs, H s = some (.lst us) ∧ Ps H us rs ∧ (∀ r ∈ rs, Good r) ∧ us.length ≤ n
theorem Pile.keep0 {H H2 : Hp} {s : Addr} {n : Nat} (h : Pile H s n) (k : Kp T0 H H2) : Pile H2 s n := by
  obtain ⟨us, rs, a, b, c, d⟩ := h.ex
  exact ⟨us, rs, k.at0 a, b.keep0 k, c, d⟩
theorem Pile.more {H : Hp} {s : Addr} {n : Nat} {us : List V} {rs : List Pth} {v : V} {p : Pth} (a : H s = some (.lst us)) (b : Ps H us rs) (c : ∀ r ∈ rs, Good r) (d : us.length ≤ n) (ip : IsP H v p) (g : Good p) : Pile (upd H s (.lst (us ++ [v]))) s (n + 1) := by
  refine ⟨us ++ [v], rs ++ [p], upd_same, (b.snoc ip).keep (T := At s) ((Kp.refl _).put rfl) fun b o e q => (loose_lst a b o e q).1, fun r hr => ?_, by rw [List.length_append]; exact Nat.succ_le_succ d⟩
  rcases List.mem_append.mp hr with m | m
  · exact c r m
  · rw [List.mem_singleton.mp m]
    exact g
theorem Pile.mono {H : Hp} {s : Addr} {n m : Nat} (h : Pile H s n) (l : n ≤ m) : Pile H s m := by
  obtain ⟨us, rs, a, b, c, d⟩ := h.ex
  exact ⟨us, rs, a, b, c, Nat.le_trans d l⟩
end Gk
/-! Gk20: sets whose items are tuples of keys of any calm kind (texts, numbers): what is asked of such tuples. -/
namespace Gk
open PySem PySem.Spec PyProof.Rows L2
section
variable {P : Program} {w : World} {κ : Type} [DecidableEq κ] {knd : KeyKind P w κ} {A : Around} {E : Value → Shared → Prop} {s : Shared}
/-- values of the kind are of no class of the program and are hashed by value -/
structure Calm (knd : KeyKind P w κ) : Prop where
  cls : ∀ (k : κ) (v : Value) (n : Nat), knd.is k v = true → ofAClassStatement n v = pure false
  byv : ∀ (k : κ) (v : Value) (n : Nat), knd.is k v = true → ∃ c, hashByValue n v = pure c
theorem calm_str : Calm (strKind P w) where
  cls := fun k v n h => by
    obtain ⟨t, rfl⟩ := Value.isStrOf_shape h
    cases n <;> rfl
  byv := fun k v n h => by
    obtain ⟨t, rfl⟩ := Value.isStrOf_shape h
    exact ⟨false, by cases n <;> rfl⟩
theorem each_item {ks : List κ} {vs : List Value} (h : ItemsAre knd ks vs) : ∀ v ∈ vs, ∃ k, knd.is k v = true := by
  induction h with
  | nil => exact fun v m => nomatch m
  | cons a _ ih =>
    intro v m
    rcases List.mem_cons.mp m with e | m
    · exact ⟨_, by rw [e]; exact a⟩
    · exact ih v m
theorem cls_tup (C : Calm knd) {ks : List κ} {b : Addr} {Q : Bool → Shared → Prop} (tk : IsTupleKey knd s.heap ks b) (q : Q false s) : wpAny (model P w) A (ofAClassStatement 8 (.ref b)) Q E s := by
  have ty := tk.typeIs
  obtain ⟨ob, its, n, at_, _, dat, are⟩ := tk
  have each := each_item are
  unfold ofAClassStatement
  refine wpAny_bind (wpAny_typeOf ty ?_)
  dsimp only
  have yes : (("tuple" : String) == "tuple") = true := by decide
  simp only [yes, if_true, Bool.not_true, Bool.false_eq_true, if_false]
  try refine wpAny_bind (wpAny_pure ?_)
  try simp only [Bool.not_true, Bool.false_eq_true, if_false]
  refine wpAny_bind (m := seqItems? (.ref b)) (wpAny_seqItems at_ dat ?_)
  dsimp only
  refine wpAny_bind ?_
  rw [← Array.forIn_toList]
  refine wpAny_forIn_list _ (fun left acc s2 => acc.1 = none ∧ s2 = s ∧ ∀ v ∈ left, ∃ k, knd.is k v = true) _ ?_ ?_ _ _ ⟨rfl, rfl, each⟩
  · rintro v left acc s2 ⟨na, rfl, some_⟩
    obtain ⟨k, kv⟩ := some_ v List.mem_cons_self
    rw [C.cls k v _ kv]
    refine wpAny_bind (wpAny_pure ?_)
    simp only [Bool.false_eq_true, if_false]
    exact wpAny_pure ⟨rfl, rfl, fun u hu => some_ u (List.mem_cons_of_mem _ hu)⟩
  · rintro ⟨a1, a2⟩ s2 ⟨na, rfl, _⟩
    cases na
    exact wpAny_pure q
/-- whether it is hashed by its value does not matter -/
theorem byv_tup (C : Calm knd) {ks : List κ} {b : Addr} {Q : Bool → Shared → Prop} (tk : IsTupleKey knd s.heap ks b) (q : ∀ c, Q c s) : wpAny (model P w) A (hashByValue 8 (.ref b)) Q E s := by
  have ty := tk.typeIs
  obtain ⟨ob, its, n, at_, _, dat, are⟩ := tk
  have each := each_item are
  unfold hashByValue
  refine wpAny_bind (wpAny_specialOf ty PySem.F.slot_tuple_hash.lookup ?_)
  refine wpAny_bind (m := seqItems? (.ref b)) (wpAny_seqItems at_ dat ?_)
  refine wpAny_bind ?_
  dsimp only
  rw [← Array.forIn_toList]
  refine wpAny_forIn_list _ (fun left acc s2 => s2 = s ∧ ∀ v ∈ left, ∃ k, knd.is k v = true) _ ?_ ?_ _ _ ⟨rfl, each⟩
  · rintro v left acc s2 ⟨rfl, some_⟩
    obtain ⟨k, kv⟩ := some_ v List.mem_cons_self
    obtain ⟨c, hc⟩ := C.byv k v 7 kv
    rw [hc]
    refine wpAny_bind (wpAny_pure ?_)
    cases c with
    | true =>
      simp only [Bool.not_true, Bool.false_eq_true, if_false]
      exact wpAny_pure ⟨rfl, fun u hu => some_ u (List.mem_cons_of_mem _ hu)⟩
    | false =>
      simp only [Bool.not_false, if_true]
      exact wpAny_pure (wpAny_pure (q _))
  · rintro ⟨a1, a2⟩ s2 ⟨rfl, _⟩
    cases a1 with
    | none => exact wpAny_pure (q _)
    | some c => exact wpAny_pure (q _)
theorem seen_none (C : Calm knd) {ks : List κ} {b : Addr} {ys : List Value} {Q : Bool → Shared → Prop} (tk : IsTupleKey knd s.heap ks b) (all : ∀ y ∈ ys, ∃ k2 c, y = Value.ref c ∧ IsTupleKey knd s.heap k2 c) (q : Q false s) :
    wpAny (model P w) A (searchCouldBeSeen (.ref b) ys) Q E s := by
  unfold searchCouldBeSeen
  refine wpAny_bind (wpAny_forIn_list _ (fun left acc s2 => acc.1 = none ∧ s2 = s ∧ ∀ y ∈ left, ∃ k2 c, y = Value.ref c ∧ IsTupleKey knd s.heap k2 c) _ ?_ ?_ _ _ ⟨rfl, rfl, all⟩)
  · rintro y left acc s2 ⟨na, rfl, some_⟩
    obtain ⟨k2, c, rfl, tk2⟩ := some_ y List.mem_cons_self
    have more : ∀ u ∈ left, ∃ k2 c, u = Value.ref c ∧ IsTupleKey knd s2.heap k2 c := fun u hu => some_ u (List.mem_cons_of_mem _ hu)
    dsimp only
    cases same : (b == c || (carriedByValue (.ref b) && carriedByValue (.ref c))) with
    | true => exact wp_if_pos (by simpa using same) (wpAny_pure ⟨rfl, rfl, more⟩)
    | false =>
      refine wp_if_neg (by exact Bool.false_ne_true) ?_
      refine wpAny_bind (wpAny_eqIsQuiet_tuple tk ?_)
      simp only [Bool.not_true, Bool.false_eq_true, if_false]
      refine wpAny_bind (wpAny_eqIsQuiet_tuple tk2 ?_)
      simp only [Bool.not_true, Bool.false_eq_true, if_false]
      refine wpAny_bind (cls_tup C tk ?_)
      simp only [Bool.false_eq_true, if_false]
      refine wpAny_bind (cls_tup C tk2 ?_)
      simp only [Bool.false_eq_true, if_false]
      exact wpAny_pure ⟨rfl, rfl, more⟩
  · rintro ⟨a1, a2⟩ s2 ⟨na, rfl, _⟩
    cases na
    exact wpAny_pure q
end
end Gk
/-! Gk21: the search in a set of tuples. -/
namespace Gk
open PySem PySem.Spec PyProof.Rows L2
section
variable {P : Program} {w : World} {κ : Type} [DecidableEq κ] {knd : KeyKind P w κ} {A : Around} {E : Value → Shared → Prop} {s : Shared}
def hsh (knd : KeyKind P w κ) (p : Addr × List κ) : Int := tupleKeyHash knd p.2
def cellsOf (knd : KeyKind P w κ) (L : List (Addr × List κ)) : List (Int × Value) := L.map fun p => (hsh knd p, Value.ref p.1)
/-- the set at a has the tuples of L, table and all -/
structure TSet (knd : KeyKind P w κ) (h : Heap) (a : Addr) (L : List (Addr × List κ)) (es : Array (Int × Value)) (ep : Nat) (t : SetTable) : Prop where
  obj : ∃ o, h.get? a = some o ∧ o.ExactSet ∧ o.data = .set es ep t
  cells : es.toList = cellsOf knd L
  tab : TabOk t (L.map (hsh knd))
  nodup : (L.map (·.2)).Nodup
  keys : ∀ p ∈ L, IsTupleKey knd h p.2 p.1
  led : w.params.followText "set-order" = true ∨ t.led = true
  room : L.length * 5 < t.mask * 3
  few : L.length < 64
variable {a : Addr} {L : List (Addr × List κ)} {es : Array (Int × Value)} {ep : Nat} {t : SetTable}
theorem TSet.size (S : TSet knd s.heap a L es ep t) : es.size = L.length := by
  rw [← Array.length_toList, S.cells]
  exact List.length_map _
theorem TSet.places (S : TSet knd s.heap a L es ep t) : t.place.toList.length = L.length := by
  rw [Array.length_toList, S.tab.sz, List.length_map]
theorem TSet.fits (S : TSet knd s.heap a L es ep t) : t.fits es.size = true := by
  have e1 := S.places
  have e2 := S.size
  have e3 := S.room
  rw [Array.length_toList] at e1
  unfold SetTable.fits SetTable.fill
  rw [S.tab.dm, Bool.and_eq_true, beq_iff_eq, decide_eq_true_eq]
  exact ⟨by omega, by show t.place.size + 0 ≤ t.mask; omega⟩
theorem TSet.cell (S : TSet knd s.heap a L es ep t) {i : Nat} {p : Addr × List κ} (h : L[i]? = some p) : es[i]? = some (hsh knd p, Value.ref p.1) := by
  rw [← Array.getElem?_toList, S.cells]
  unfold cellsOf
  rw [List.getElem?_map, h]
  rfl
theorem TSet.stays (S : TSet knd s.heap a L es ep t) : ¬ t.gaveWay = true := by
  unfold SetTable.gaveWay
  rw [mask_odd S.tab.mok]
  decide
/-- the c-th step of the way of a hash, and the slot there -/
abbrev stp (t : SetTable) (g : Int) (c : Nat) : SetTable.Probe := nth t.mask (runAt t.mask (SetTable.bits g % (t.mask + 1)) (SetTable.bits g)) c
theorem stp_on (t : SetTable) (g : Int) (c q : Nat) : nth t.mask (stp t g c) q = stp t g (c + q) := (nth_add t.mask c _ q).symm
theorem stp_clean (t : SetTable) (g : Int) : ∀ c, (stp t g c).dummy = none := by
  have one : ∀ (n : Nat) (p : SetTable.Probe), p.dummy = none → (nth t.mask p n).dummy = none := by
    intro n
    induction n with
    | zero => exact fun p h => h
    | succ n ih =>
      intro p h
      refine ih _ ?_
      unfold adv
      split <;> exact h
  exact fun c => one c _ rfl
/-- no tuple of that hash stands on the way from c to d -/
def Bare (knd : KeyKind P w κ) (L : List (Addr × List κ)) (t : SetTable) (g : Int) (c d : Nat) : Prop := ∀ (c2 i : Nat) (p : Addr × List κ), c ≤ c2 → c2 < d → t.place.toList[i]? = some (way t.mask g c2) → L[i]? = some p → hsh knd p ≠ g
abbrev hashAt (es : Array (Int × Value)) (i : Nat) : Int := (es[i]?.map (·.1)).getD 0
/-- what a probe from the c-th step on answers -/
theorem answer (S : TSet knd s.heap a L es ep t) {g : Int} {K c : Nat} (lt : K < 10 * SetTable.turns t.mask) (free : way t.mask g K ∉ t.place.toList) (taken : ∀ d, d < K → way t.mask g d ∈ t.place.toList) (hc : c ≤ K) :
    (∃ d i p, c ≤ d ∧ d < K ∧ t.place.toList[i]? = some (way t.mask g d) ∧ L[i]? = some p ∧ Bare knd L t g c d ∧ t.probe (hashAt es) g (stp t g c) = some (.candidate (way t.mask g d) i (stp t g (d + 1)))) ∨
    (Bare knd L t g c K ∧ t.probe (hashAt es) g (stp t g c) = some (.empty (way t.mask g K) none)) := by
  have at_ : ∀ q, (nth t.mask (stp t g c) q).j = way t.mask g (c + q) := fun q => congrArg SetTable.Probe.j (stp_on t g c q)
  have hs : ∀ {i : Nat} {p : Addr × List κ}, L[i]? = some p → hashAt es i = hsh knd p := fun {i p} h => by
    show (es[i]?.map (·.1)).getD 0 = _
    rw [S.cell h]
    rfl
  have full : c + (K - c) = K := by omega
  rcases go_spec t S.tab.ris S.tab.dm (hashAt es) g (10 * SetTable.turns t.mask) (K - c) (stp t g c) (stp_clean t g c) (by omega) (fun q hq => by rw [at_]; exact taken _ (by omega)) (by rw [at_, full]; exact free) with ⟨q, i, hq, hi, _, no, pr⟩ | ⟨no, pr⟩
  · rw [at_] at hi
    have il : i < L.length := by
      rw [← S.places]
      exact (List.getElem?_eq_some_iff.mp hi).1
    refine .inl ⟨c + q, i, L[i], by omega, by omega, hi, List.getElem?_eq_getElem il, fun c2 i2 p2 h1 h2 h3 h4 e => ?_, ?_⟩
    · refine no (c2 - c) i2 (by omega) ?_ ((hs h4).trans e)
      rw [at_, show c + (c2 - c) = c2 by omega]
      exact h3
    · rw [at_, stp_on] at pr
      exact pr
  · refine .inr ⟨fun c2 i2 p2 h1 h2 h3 h4 e => ?_, ?_⟩
    · refine no (c2 - c) i2 (by omega) ?_ ((hs h4).trans e)
      rw [at_, show c + (c2 - c) = c2 by omega]
      exact h3
    · rw [at_, full] at pr
      exact pr
/-- the search for a tuple, to be added -/
theorem seek (S : TSet knd s.heap a L es ep t) (C : Calm knd) {x : Addr} {ks : List κ} (tk : IsTupleKey knd s.heap ks x) (hu : A.units < cLine) {K : Nat} (lt : K < 10 * SetTable.turns t.mask)
    (free : way t.mask (tupleKeyHash knd ks) K ∉ t.place.toList) (taken : ∀ d, d < K → way t.mask (tupleKeyHash knd ks) d ∈ t.place.toList) {Q : SetFound → Shared → Prop} (yes : ks ∈ L.map (·.2) → Q (.there none) s)
    (no : ks ∉ L.map (·.2) → Q (.free (way t.mask (tupleKeyHash knd ks) K) false) s) : ∀ (f c : Nat) (st : Option SetTable.Probe), st.getD (t.probeStart (tupleKeyHash knd ks)) = stp t (tupleKeyHash knd ks) c → c ≤ K → K < f + c →
      (∀ (i : Nat) (p : Addr × List κ), L[i]? = some p → p.2 = ks → ∃ d, c ≤ d ∧ d < K ∧ t.place.toList[i]? = some (way t.mask (tupleKeyHash knd ks) d)) → wpAny (model P w) A (setSearchFrom a (.ref x) (tupleKeyHash knd ks) true f st) Q E s := by
  obtain ⟨o, at_, ex, dat⟩ := S.obj
  intro f
  induction f with
  | zero => exact fun c st _ h1 h2 => absurd h2 (by omega)
  | succ f ih =>
    intro c st hst hc hf left
    rw [setSearchFrom_succ]
    refine wpAny_bind (wpAny_setState_of at_ dat S.fits ?_)
    dsimp only
    refine wp_if_neg S.stays ?_
    try refine wpAny_bind (wpAny_pure ?_)
    rcases answer S lt free taken hc with ⟨d, i, p, cd, dK, pl, hp, bare, pr⟩ | ⟨bare, pr⟩
    · rw [show t.probe (fun i => (es[i]?.map (·.1)).getD 0) (tupleKeyHash knd ks) (st.getD (t.probeStart (tupleKeyHash knd ks))) = _ from hst ▸ pr]
      dsimp only
      have pm : p ∈ L := List.mem_of_getElem? hp
      have live : t.slot (way t.mask (tupleKeyHash knd ks) d) = .live i := slot_live S.tab.ris pl
      have go : wpAny (model P w) A (searchRest a (.ref x) (tupleKeyHash knd ks) true f es t (way t.mask (tupleKeyHash knd ks) d) i (stp t (tupleKeyHash knd ks) (d + 1))) Q E s := by
        unfold searchRest
        rw [S.cell hp]
        dsimp only
        refine wpAny_bind (wpAny_holding (wpAny_eqBool_tuple hu (S.keys p pm) tk ?_))
        refine wpAny_bind (wpAny_setState_of at_ dat S.fits ?_)
        dsimp only
        by_cases same : p.2 = ks
        · exact wp_if_pos (by simp [same]) (wpAny_pure (yes (List.mem_map.mpr ⟨p, pm, same⟩)))
        · refine wp_if_neg (by simp [same]) ?_
          try refine wpAny_bind (wpAny_pure ?_)
          rw [sameMem]
          dsimp only
          simp only [if_true, live, S.cell hp]
          refine wpAny_bind (wpAny_isSame_ref_self (wpAny_bind (wpAny_pure ?_)))
          simp only [if_true]
          refine wp_if_neg (by simp [same]) ?_
          refine ih (d + 1) _ rfl (by omega) (by omega) fun i2 p2 h2 e2 => ?_
          obtain ⟨d2, g1, g2, g3⟩ := left i2 p2 h2 e2
          refine ⟨d2, ?_, g2, g3⟩
          have far : ¬ d2 < d := fun l => bare d2 i2 p2 g1 l g3 h2 (by unfold hsh; rw [e2])
          have ne : d2 ≠ d := by
            rintro rfl
            have l2 := slot_live S.tab.ris g3
            rw [live] at l2
            injection l2 with l2
            rw [← l2, hp] at h2
            cases h2
            exact same e2
          omega
      by_cases led : t.led = true
      · refine wp_if_neg (by simp [led]) ?_
        try refine wpAny_bind (wpAny_pure ?_)
        exact go
      · refine wp_if_pos (by simp [led]) ?_
        refine wpAny_bind (seen_none C tk (fun y hy => ?_) ?_)
        · obtain ⟨e, he, rfl⟩ := List.mem_map.mp hy
          have m1 : e ∈ es.toList := by
            have q : e ∈ es ∧ e.1 = tupleKeyHash knd ks := by simpa using he
            simpa using q.1
          rw [S.cells] at m1
          obtain ⟨p2, m2, rfl⟩ := List.mem_map.mp m1
          exact ⟨p2.2, p2.1, rfl, S.keys p2 m2⟩
        · refine wp_if_neg (by decide) ?_
          try refine wpAny_bind (wpAny_pure ?_)
          exact go
    · rw [show t.probe (fun i => (es[i]?.map (·.1)).getD 0) (tupleKeyHash knd ks) (st.getD (t.probeStart (tupleKeyHash knd ks))) = _ from hst ▸ pr]
      dsimp only
      refine wpAny_pure (no fun m => ?_)
      obtain ⟨p, pm, e⟩ := List.mem_map.mp m
      obtain ⟨i, hi, rfl⟩ := List.getElem_of_mem pm
      have hp : L[i]? = some L[i] := List.getElem?_eq_getElem hi
      obtain ⟨d, g1, g2, g3⟩ := left i _ hp e
      exact bare d i _ g1 g2 g3 hp (by unfold hsh; rw [e])
theorem seek_at (S : TSet knd s.heap a L es ep t) (C : Calm knd) {x : Addr} {ks : List κ} (tk : IsTupleKey knd s.heap ks x) (hu : A.units < cLine) {Q : SetFound → Shared → Prop} (yes : ks ∈ L.map (·.2) → Q (.there none) s)
    (no : ∀ K, ks ∉ L.map (·.2) → way t.mask (tupleKeyHash knd ks) K ∉ t.place.toList → (∀ d, d < K → way t.mask (tupleKeyHash knd ks) d ∈ t.place.toList) → Q (.free (way t.mask (tupleKeyHash knd ks) K) false) s) :
    wpAny (model P w) A (setSearch a (.ref x) (tupleKeyHash knd ks) true) Q E s := by
  have rm := S.room
  obtain ⟨K, lt, free, taken⟩ := S.tab.first (by rw [List.length_map]; omega) (tupleKeyHash knd ks)
  have small : K < 100000 := by
    have : 10 * SetTable.turns t.mask ≤ 1420 := by
      unfold SetTable.turns
      rcases S.tab.mok with e | e | e <;> omega
    omega
  unfold setSearch
  refine seek S C tk hu lt free taken yes (fun n => no K n free taken) 100000 0 none rfl (Nat.zero_le _) (by omega) fun i p hp e => ?_
  have h1 : (L.map (hsh knd))[i]? = some (tupleKeyHash knd ks) := by
    rw [List.getElem?_map, hp, ← e]
    rfl
  have il : i < t.place.toList.length := by
    rw [S.places]
    exact (List.getElem?_eq_some_iff.mp hp).1
  have h2 := List.getElem?_eq_getElem il
  obtain ⟨d, hd, e2⟩ := S.tab.before free h1 h2
  exact ⟨d, Nat.zero_le _, hd, by rw [h2, e2]⟩
/-- the heap changed at the set alone -/
theorem key_beside {h h2 : Heap} {ks : List κ} {b : Addr} {o : Obj} (k : IsTupleKey knd h ks b) (at_ : h.get? a = some o) (dat : o.data = .set es ep t) (only : Heap.SameBut a h h2) : IsTupleKey knd h2 ks b := by
  obtain ⟨o2, its, n, e, c, d, r⟩ := k
  have ne : b ≠ a := fun z => by
    rw [z, at_] at e
    cases e
    rw [dat] at d
    cases d
  exact ⟨o2, its, n, (only.2 b ne).trans e, c, d, r⟩
theorem cells_in (L : List (Addr × List κ)) (p : Nat) (q : Addr × List κ) : cellsOf knd (L.take p ++ q :: L.drop p) = (cellsOf knd L).take p ++ (hsh knd q, Value.ref q.1) :: (cellsOf knd L).drop p := by
  unfold cellsOf
  rw [List.map_append, List.map_cons, List.map_take, List.map_drop]
theorem fm_range {α : Type} : ∀ L : List α, ((List.range L.length).filterMap fun i => L[i]?) = L
  | [] => rfl
  | x :: xs => by
    rw [List.length_cons, List.range_succ_eq_map, List.filterMap_cons_some (f := fun i => (x :: xs)[i]?) (a := 0) (b := x) rfl, List.filterMap_map]
    exact congrArg (x :: ·) (fm_range xs)
/-- a new order of the cells -/
theorem cells_order (L : List (Addr × List κ)) (es : Array (Int × Value)) (ord : Array Nat) (h : es.toList = cellsOf knd L) (pm : ord.toList.Perm (List.range L.length)) :
    ∃ M, (ord.filterMap (es[·]?)).toList = cellsOf knd M ∧ M.Perm L ∧ M.map (hsh knd) = ord.toList.map fun i => (es.map (·.1)).getD i 0 := by
  have at_ : ∀ i, es[i]? = (L[i]?).map fun p => (hsh knd p, Value.ref p.1) := fun i => by
    rw [← Array.getElem?_toList, h]
    unfold cellsOf
    rw [List.getElem?_map]
  refine ⟨ord.toList.filterMap fun i => L[i]?, ?_, ?_, ?_⟩
  · have e : (ord.filterMap (es[·]?)).toList = ord.toList.filterMap fun i => es[i]? := by simp
    rw [e]
    unfold cellsOf
    rw [List.map_filterMap]
    exact congrArg (fun f => ord.toList.filterMap f) (funext at_)
  · have q := pm.filterMap fun i => L[i]?
    exact q.trans (List.Perm.of_eq (fm_range L))
  · have key : ∀ l : List Nat, (∀ i ∈ l, i < L.length) → (l.filterMap fun i => L[i]?).map (hsh knd) = l.map fun i => (es.map (·.1)).getD i 0 := by
      intro l
      induction l with
      | nil => exact fun _ => rfl
      | cons i l ih =>
        intro all
        have il := all i List.mem_cons_self
        have e1 := List.getElem?_eq_getElem il
        have e2 : (es.map (·.1)).getD i 0 = hsh knd L[i] := by
          have e3 : (es.map (·.1))[i]? = some (hsh knd L[i]) := by
            rw [Array.getElem?_map, at_, e1]
            rfl
          simp [Array.getD_eq_getD_getElem?, e3]
        rw [List.filterMap_cons_some e1, List.map_cons, List.map_cons, ih fun j hj => all j (List.mem_cons_of_mem _ hj), e2]
    exact key _ fun i hi => List.mem_range.mp (pm.mem_iff.mp hi)
end
end Gk
/-! Gk22: a tuple is added to a set. -/
namespace Gk
open PySem PySem.Spec PyProof.Rows L2
section
variable {P : Program} {w : World} {κ : Type} [DecidableEq κ] {knd : KeyKind P w κ} {A : Around} {E : Value → Shared → Prop} {s : Shared}
variable {a : Addr} {L : List (Addr × List κ)} {es : Array (Int × Value)} {ep : Nat} {t : SetTable}
/-- what stands before the table is laid anew -/
structure Loaded (knd : KeyKind P w κ) (h : Heap) (a : Addr) (L : List (Addr × List κ)) (es : Array (Int × Value)) (ep : Nat) (t : SetTable) : Prop where
  obj : ∃ o, h.get? a = some o ∧ o.ExactSet ∧ o.data = .set es ep t
  cells : es.toList = cellsOf knd L
  sz : t.place.size = es.size
  dm : t.dummies = #[]
  fit : es.size ≤ t.mask
  nodup : (L.map (·.2)).Nodup
  keys : ∀ p ∈ L, IsTupleKey knd h p.2 p.1
  led : w.params.followText "set-order" = true ∨ t.led = true
  few : L.length < 64
theorem relay_tup (S : Loaded knd s.heap a L es ep t) {wanted M : Nat} (hw : SetTable.sizeAbove wanted - 1 = M) (hM : MaskOk M) (small : SetTable.sizeAbove wanted ≤ 128) (rm : L.length * 5 < M * 3) {Q : Unit → Shared → Prop}
    (go : ∀ h2 L2 es2 ep2 t2, Heap.SameBut a s.heap h2 → TSet knd h2 a L2 es2 ep2 t2 → L2.Perm L → Q () { s with heap := h2 }) : wpAny (model P w) A (setRelay a wanted) Q E s := by
  obtain ⟨o, at_, ex, dat⟩ := S.obj
  have size : es.size = L.length := by
    rw [← Array.length_toList, S.cells]
    exact List.length_map _
  have fits : t.fits es.size = true := by
    have e1 := S.sz
    have e2 := S.fit
    unfold SetTable.fits SetTable.fill
    rw [S.dm, Bool.and_eq_true, beq_iff_eq, decide_eq_true_eq]
    exact ⟨e1, by show t.place.size + 0 ≤ t.mask; omega⟩
  obtain ⟨t2, ord, lay, pm, T, em, el, _, _⟩ := relaid_ok t (hs := es.map (·.1)) (wanted := wanted) hw hM (by rw [Array.size_map]; omega)
  rw [Array.size_map, size] at pm
  obtain ⟨L2, c2, p2, hs2⟩ := cells_order L es ord S.cells pm
  rw [← hs2] at T
  have size2 : (ord.filterMap (es[·]?)).size = es.size := by
    rw [← Array.length_toList, c2, size, ← p2.length_eq]
    exact List.length_map _
  rw [setRelay_eq]
  refine wpAny_bind (wpAny_setState_of at_ dat fits ?_)
  dsimp only
  refine wp_if_neg (by rw [sizeLine_eq]; omega) ?_
  try refine wpAny_bind (wpAny_pure ?_)
  rw [lay]
  dsimp only
  refine wpAny_bind (wp_if_neg (by rw [size2]; simp) ?_)
  try refine wpAny_bind (wpAny_pure ?_)
  refine wpAny_pure ?_
  dsimp only
  refine wpAny_storeSet_of at_ dat ?_ (by rw [size2, size, sizeLine_eq]; have := S.few; omega)
  have only : Heap.SameBut a s.heap (s.heap.update a (Obj.putSet (ord.filterMap (es[·]?)) t2)) := Heap.SameBut.update ..
  refine go _ L2 _ (ep + 1) t2 only ⟨⟨_, store_at at_ dat, ⟨ex.1, ex.2.1, ex.2.2⟩, rfl⟩, c2, T, (p2.map (·.2)).nodup_iff.mpr S.nodup, fun p hp => key_beside (S.keys p (p2.mem_iff.mp hp)) at_ dat only, by rw [el]; exact S.led, ?_, ?_⟩ p2
  · rw [p2.length_eq, em]
    exact rm
  · rw [p2.length_eq]
    exact S.few
theorem TabOk.same {t u : SetTable} {hs : List Int} (T : TabOk t hs) (e1 : u.place = t.place) (e2 : u.dummies = t.dummies) (e3 : u.mask = t.mask) : TabOk u hs := by
  refine ⟨by rw [e1]; exact T.ris, e2.trans T.dm, by rw [e1]; exact T.sz, by rw [e3]; exact T.mok, by rw [e1, e3]; exact T.bd, ?_⟩
  rw [e1, e3]
  exact T.reach
theorem add_tup (S : TSet knd s.heap a L es ep t) (C : Calm knd) {x : Addr} {ks : List κ} (tk : IsTupleKey knd s.heap ks x) (hu : A.units < cLine) (few : L.length + 1 < 64) {Q : Bool → Shared → Prop}
    (go : ∀ b h2 L2 es2 ep2 t2, Heap.SameBut a s.heap h2 → TSet knd h2 a L2 es2 ep2 t2 → (ks ∈ L.map (·.2) → L2 = L) → (ks ∉ L.map (·.2) → L2.Perm ((x, ks) :: L)) → Q b { s with heap := h2 }) :
    wpAny (model P w) A (setAddHashed a (.ref x) (tupleKeyHash knd ks)) Q E s := by
  obtain ⟨o, at_, ex, dat⟩ := S.obj
  have size := S.size
  have rm := S.room
  unfold setAddHashed
  refine wpAny_holding ?_
  rw [show (100000 : Nat) = 99999 + 1 from rfl, setAddHashedIn_succ]
  refine wpAny_bind (wpAny_setState_of at_ dat S.fits ?_)
  dsimp only
  refine wp_if_neg (by simp [byScan, Value.scannable]) ?_
  try refine wpAny_bind (wpAny_pure ?_)
  refine wpAny_bind (seek_at S C tk hu (fun m => ?_) fun K new free taken => ?_)
  · dsimp only
    exact wpAny_pure (go false s.heap L es ep t (Heap.SameBut.refl a s.heap) S (fun _ => rfl) fun z => absurd m z)
  · dsimp only
    refine wpAny_bind (wpAny_setState_of at_ dat S.fits ?_)
    dsimp only
    obtain ⟨u1, u2, u3, u4, u5, u6, u7, u8, u9⟩ := S.tab.put free taken
    generalize hput : t.put (way t.mask (tupleKeyHash knd ks) K) = tp at u1 u3 u4 u5 u6 u7 u8 u9 ⊢
    obtain ⟨t1, p⟩ := tp
    dsimp only at u1 u3 u4 u5 u6 u7 u8 u9 ⊢
    subst u1
    generalize hp : SetTable.below t.place (way t.mask (tupleKeyHash knd ks) K) = p at u2 u3 ⊢
    have tail : ∀ c : Bool, wpAny (model P w) A (do
        storeSet a (SetTable.insertAt es p (tupleKeyHash knd ks, Value.ref x)) (if c = true then t1 else { t1 with plain := false })
        if (!false && (if c = true then t1 else { t1 with plain := false }).tooFull) = true then do
          setRelay a (SetTable.grown (es.size + 1))
          pure true
        else pure true) Q E s := by
      intro c
      have pl : (if c = true then t1 else { t1 with plain := false }).place = t1.place := by cases c <;> rfl
      have dm : (if c = true then t1 else { t1 with plain := false }).dummies = t1.dummies := by cases c <;> rfl
      have mk : (if c = true then t1 else { t1 with plain := false }).mask = t1.mask := by cases c <;> rfl
      have ld : (if c = true then t1 else { t1 with plain := false }).led = t1.led := by cases c <;> rfl
      have fl : (if c = true then t1 else { t1 with plain := false }).fill = t1.fill := by cases c <;> rfl
      generalize (if c = true then t1 else { t1 with plain := false }) = t2 at pl dm mk ld fl ⊢
      have T2 := Gk.TabOk.same u3 pl dm mk
      rw [← mk] at u4
      rw [← ld] at u5
      rw [← fl] at u9
      have ins : (SetTable.insertAt es p (tupleKeyHash knd ks, Value.ref x)).toList = cellsOf knd (L.take p ++ (x, ks) :: L.drop p) := by
        rw [SetTable.toList_insertAt, cells_in, S.cells]
        rfl
      have pm := put_perm L p (x, ks)
      have len : (L.take p ++ (x, ks) :: L.drop p).length = L.length + 1 := pm.length_eq
      have hs : (L.take p ++ (x, ks) :: L.drop p).map (hsh knd) = (L.map (hsh knd)).take p ++ tupleKeyHash knd ks :: (L.map (hsh knd)).drop p := by
        rw [List.map_append, List.map_cons, List.map_take, List.map_drop]
        rfl
      rw [← hs] at T2
      have nd : ((L.take p ++ (x, ks) :: L.drop p).map (·.2)).Nodup := by
        refine (pm.map (·.2)).nodup_iff.mpr ?_
        rw [List.map_cons]
        exact List.nodup_cons.mpr ⟨new, S.nodup⟩
      have esz : (SetTable.insertAt es p (tupleKeyHash knd ks, Value.ref x)).size = L.length + 1 := by
        rw [← Array.length_toList, ins, ← len]
        exact List.length_map _
      generalize SetTable.insertAt es p (tupleKeyHash knd ks, Value.ref x) = es1 at ins esz ⊢
      generalize L.take p ++ (x, ks) :: L.drop p = L1 at pm len T2 nd ins
      refine wpAny_bind (wpAny_storeSet_of at_ dat ?_ (by rw [esz, sizeLine_eq]; omega))
      have only : Heap.SameBut a s.heap (s.heap.update a (Obj.putSet es1 t2)) := Heap.SameBut.update ..
      have at1 := store_at (es' := es1) (t' := t2) at_ dat
      have keys1 : ∀ q ∈ L1, IsTupleKey knd (s.heap.update a (Obj.putSet es1 t2)) q.2 q.1 := fun q hq => by
        rcases List.mem_cons.mp (pm.mem_iff.mp hq) with e | hq
        · rw [e]
          exact key_beside tk at_ dat only
        · exact key_beside (S.keys q hq) at_ dat only
      generalize s.heap.update a (Obj.putSet es1 t2) = h1 at only at1 keys1 ⊢
      have led2 : w.params.followText "set-order" = true ∨ t2.led = true := by rw [u5]; exact S.led
      have full : t2.tooFull = decide ((L.length + 1) * 5 ≥ t2.mask * 3) := by
        unfold SetTable.tooFull
        rw [u9, List.length_map]
      by_cases hf : (L.length + 1) * 5 ≥ t2.mask * 3
      · refine wp_if_pos (by rw [full, decide_eq_true hf]; rfl) ?_
        rw [size]
        have which : (t.mask = 7 ∧ L.length = 4) ∨ (t.mask = 31 ∧ L.length = 18) := by
          rw [u4] at hf
          rcases S.tab.mok with e | e | e
          · rw [e] at hf rm
            exact .inl ⟨e, by omega⟩
          · rw [e] at hf rm
            exact .inr ⟨e, by omega⟩
          · rw [e] at hf
            omega
        have sz2 : t2.place.size = es1.size := by
          have h := T2.sz
          rw [List.length_map, len] at h
          rw [h, esz]
        have ld2 : Loaded knd h1 a L1 es1 (ep + 1) t2 := ⟨⟨_, at1, ⟨ex.1, ex.2.1, ex.2.2⟩, rfl⟩, ins, sz2, T2.dm, (by rw [esz, u4]; rcases which with ⟨e, e2⟩ | ⟨e, e2⟩ <;> omega), nd, keys1, led2, by rw [len]; exact few⟩
        have on : ∀ M, SetTable.sizeAbove (SetTable.grown (L.length + 1)) - 1 = M → MaskOk M → SetTable.sizeAbove (SetTable.grown (L.length + 1)) ≤ 128 → (L.length + 1) * 5 < M * 3 →
            wpAny (model P w) A (setRelay a (SetTable.grown (L.length + 1)) >>= fun _ => pure true) Q E { s with heap := h1 } := by
          intro M m1 m2 m3 m4
          refine wpAny_bind (relay_tup (s := { s with heap := h1 }) ld2 m1 m2 m3 (by rw [len]; exact m4) fun h2 L2 es2 ep2 t3 only2 S2 p2 => ?_)
          exact wpAny_pure (go true h2 L2 es2 ep2 t3 (only.trans only2) S2 (fun z => absurd z new) fun _ => p2.trans pm)
        rcases which with ⟨_, e2⟩ | ⟨_, e2⟩
        · exact on 31 (by rw [e2, size_20]) (.inr (.inl rfl)) (by rw [e2, size_20]; decide) (by omega)
        · exact on 127 (by rw [e2, size_76]) (.inr (.inr rfl)) (by rw [e2, size_76]; decide) (by omega)
      · refine wp_if_neg (by rw [full, decide_eq_false hf]; decide) ?_
        exact wpAny_pure (go true h1 L1 es1 (ep + 1) t2 only ⟨⟨_, at1, ⟨ex.1, ex.2.1, ex.2.2⟩, rfl⟩, ins, T2, nd, keys1, led2, by rw [len]; omega, by rw [len]; exact few⟩ (fun z => absurd z new) fun _ => pm)
    by_cases pl : t1.plain = true
    · exact wp_if_pos pl (wpAny_bind (byv_tup C tk fun c => tail c))
    · exact wp_if_neg pl (wpAny_bind (wpAny_pure (tail true)))
end
end Gk
/-! Gk23: set(xs), xs a list of tuples. -/
namespace Gk
open PySem PySem.Spec PyProof.Rows L2
section
variable {P : Program} {w : World} {κ : Type} [DecidableEq κ] {knd : KeyKind P w κ} {A : Around} {E : Value → Shared → Prop} {s : Shared}
/-- L: the different ones among the first i of ks -/
structure Took (ks : List (Addr × List κ)) (i : Nat) (L : List (Addr × List κ)) : Prop where
  sub : ∀ q ∈ L, q ∈ ks.take i
  all : ∀ q ∈ ks.take i, q.2 ∈ L.map (·.2)
  len : L.length ≤ i
theorem took_none (ks : List (Addr × List κ)) : Took ks 0 [] := ⟨(fun p m => nomatch m), fun p m => by simp at m, Nat.le_refl _⟩
theorem took_next {ks L M : List (Addr × List κ)} {i : Nat} {x : Addr × List κ} (g : Took ks i L) (h : ks[i]? = some x) (old : x.2 ∈ L.map (·.2) → M = L) (new : x.2 ∉ L.map (·.2) → M.Perm (x :: L)) : Took ks (i + 1) M := by
  have tk : ks.take (i + 1) = ks.take i ++ [x] := by
    rw [List.take_add_one, h]
    rfl
  by_cases c : x.2 ∈ L.map (·.2)
  · rw [old c]
    refine ⟨fun p m => ?_, fun p m => ?_, Nat.le_succ_of_le g.len⟩
    · rw [tk]
      exact List.mem_append_left _ (g.sub p m)
    · rw [tk] at m
      rcases List.mem_append.mp m with m | m
      · exact g.all p m
      · rw [List.mem_singleton.mp m]
        exact c
  · have pm := new c
    refine ⟨fun p m => ?_, fun p m => ?_, ?_⟩
    · rw [tk]
      rcases List.mem_cons.mp (pm.mem_iff.mp m) with e | m
      · rw [e]
        exact List.mem_append_right _ List.mem_cons_self
      · exact List.mem_append_left _ (g.sub p m)
    · rw [tk] at m
      have pm2 := pm.map (·.2)
      rcases List.mem_append.mp m with m | m
      · exact pm2.mem_iff.mpr (List.mem_cons_of_mem _ (g.all p m))
      · rw [List.mem_singleton.mp m]
        exact pm2.mem_iff.mpr List.mem_cons_self
    · rw [pm.length_eq]
      exact Nat.succ_le_succ g.len
theorem key_keep {h h2 : Heap} {ks : List κ} {b : Addr} (k : IsTupleKey knd h ks b) (e : ∀ c o, h.get? c = some o → h2.get? c = some o) : IsTupleKey knd h2 ks b := by
  obtain ⟨o, its, n, at_, r⟩ := k
  exact ⟨o, its, n, e b o at_, r⟩
theorem TSet.keep {h h2 : Heap} {a : Addr} {L : List (Addr × List κ)} {es : Array (Int × Value)} {ep : Nat} {t : SetTable} (S : TSet knd h a L es ep t) (ea : ∀ o, h.get? a = some o → h2.get? a = some o) (ek : ∀ p ∈ L, IsTupleKey knd h2 p.2 p.1) : TSet knd h2 a L es ep t := by
  obtain ⟨o, at_, r⟩ := S.obj
  exact ⟨⟨o, ea o at_, r⟩, S.cells, S.tab, S.nodup, ek, S.led, S.room, S.few⟩
/-- a set object as set() lays it -/
abbrev bareSet (w : World) : Obj := { cls := .type "set", dict := none, data := .set #[] 0 (.fresh 0 0 (!w.params.followText "set-order")) }
theorem tset_new {h : Heap} {a : Addr} (at_ : h.get? a = some (bareSet w)) : TSet knd h a [] #[] 0 (.fresh 0 0 (!w.params.followText "set-order")) := by
  refine ⟨⟨_, at_, ⟨rfl, rfl, rfl⟩, rfl⟩, rfl, ⟨List.Pairwise.nil, rfl, rfl, .inl rfl, (fun x m => nomatch m), fun i g j e => by simp at e⟩, List.nodup_nil, (fun p m => nomatch m), ?_, (by show 0 * 5 < 7 * 3; decide), (by show 0 < 64; decide)⟩
  show _ ∨ (!w.params.followText "set-order") = true
  cases w.params.followText "set-order" <;> simp
end
end Gk
namespace Gk
open PySem PySem.Spec PyProof.Rows L2
section
variable {P : Program} {w : World} {κ : Type} [DecidableEq κ] {knd : KeyKind P w κ} {A : Around} {E : Value → Shared → Prop} {s : Shared}
/-- the loop of set.update over tuples -/
theorem fill_loop (C : Calm knd) {I : Addr} {fp wr : List Addr} {G : Array GenState → Array GenState → Prop} {n : Nat} {Pv : Nat → Value → Prop} {St : Nat → Shared → Prop} {R : Result → Shared → Prop} (W : WalksS P w A.in1 I fp wr G n Pv St) (Z : Addr) (out : Z ∉ fp)
    (ks : List (Addr × List κ)) (hn : n = ks.length) (few : ks.length < 64) (val : ∀ i v, Pv i v → ∃ q, ks[i]? = some q ∧ v = .ref q.1) (h0 : Heap) (k0 : ∀ q ∈ ks, IsTupleKey knd h0 q.2 q.1) (z0 : h0.get? Z = none)
    (w0 : ∀ b ∈ wr, h0.get? b = none) (hu : A.in1.units < cLine) : ∀ (m i : Nat) (s : Shared), n - i = m → i ≤ n → St i s → (∀ b o, h0.get? b = some o → s.heap.get? b = some o) → (∃ L es ep t, TSet knd s.heap Z L es ep t ∧ Took ks i L) →
      (∀ s2 L es ep t, Moved (Z :: wr) G s s2 → TSet knd s2.heap Z L es ep t → Took ks n L → (∀ b o, h0.get? b = some o → s2.heap.get? b = some o) → R (.ok (.ret .none)) s2) →
      codeAny (model P w) A (.builtin "set.update.loop" ⟨[.ref Z, .ref I], []⟩) R s := by
  have zw : Z ∉ wr := fun z => out (W.sub _ z)
  have more : ∀ b ∈ wr, b ∈ Z :: wr := fun b z => List.mem_cons_of_mem _ z
  have hold : ∀ {s1 s2 : Shared}, Moved wr G s1 s2 → (∀ b o, h0.get? b = some o → s1.heap.get? b = some o) → ∀ b o, h0.get? b = some o → s2.heap.get? b = some o := by
    intro s1 s2 mv kp b o e
    refine mv.heap b o (fun z => ?_) (kp b o e)
    rw [w0 b z] at e
    cases e
  intro m
  induction m with
  | zero =>
    intro i s em hi hst kp ⟨L, es, ep, t, S, g⟩ fin
    obtain rfl : i = n := by omega
    refine codeAny_builtin F.entry_set_update_loop ?_
    rw [Around.under_plainId F.plain_set_update_loop _]
    refine wpAny_bind (m := pyNext (.ref I)) (W.done s _ _ hst fun s2 mv => ?_)
    have kp2 := hold mv kp
    refine wpAny_pure (fin s2 L es ep t (mv.mono more) (S.keep (fun o e => mv.heap Z o zw e) fun q hq => key_keep (k0 q (List.mem_of_mem_take (g.sub q hq))) kp2) g kp2)
  | succ m ih =>
    intro i s em hi hst kp ⟨L, es, ep, t, S, g⟩ fin
    have lt : i < n := by omega
    refine codeAny_builtin F.entry_set_update_loop ?_
    rw [Around.under_plainId F.plain_set_update_loop _]
    refine wpAny_bind (m := pyNext (.ref I)) (W.item i s _ _ lt hst fun v s2 pv hst2 mv => ?_)
    obtain ⟨q, hq, rfl⟩ := val i v pv
    have kp2 := hold mv kp
    have S2 : TSet knd s2.heap Z L es ep t := S.keep (fun o e => mv.heap Z o zw e) fun r hr => key_keep (k0 r (List.mem_of_mem_take (g.sub r hr))) kp2
    have tk : IsTupleKey knd s2.heap q.2 q.1 := key_keep (k0 q (List.mem_of_getElem? hq)) kp2
    refine wpAny_bind (m := holding [Value.ref q.1] (setAdd Z (.ref q.1))) (wpAny_holding ?_)
    unfold setAdd
    refine wpAny_holding (wpAny_bind (wpAny_pyHash_tuple hu tk ?_))
    refine add_tup (s := { s2 with toks := s2.toks + (q.2.length + 1) }) S2 C tk hu (by have := g.len; omega) fun b h3 L3 es3 ep3 t3 only S3 c1 c2 => ?_
    have kp3 : ∀ b o, h0.get? b = some o → h3.get? b = some o := fun b o e => by
      refine (only.2 b fun z => ?_).trans (kp2 b o e)
      rw [z, z0] at e
      cases e
    have step : St (i + 1) { s2 with heap := h3, toks := s2.toks + (q.2.length + 1) } := W.frame _ s2 _ _ hst2 (Nat.le_add_right _ _) fun b hb o e => by
      rw [only.2 b fun z => out (by rw [← z]; exact hb)]
      exact e
    refine wpAny_pure ⟨plainId_quiet F.plain_set_update_loop _, ih (i + 1) _ (by omega) lt step kp3 ⟨L3, es3, ep3, t3, S3, took_next g hq c1 c2⟩ fun s4 L4 es4 ep4 t4 mv4 S4 g4 kp4 => ?_⟩
    refine fin s4 L4 es4 ep4 t4 (Moved.trans W.gtrans ((mv.mono more).then_heap (Nat.le_add_right _ _) fun b o nb e => ?_) mv4) S4 g4 kp4
    rw [only.2 b fun z => nb (by rw [z]; exact List.mem_cons_self)]
    exact e
end
end Gk
/-! Gk24: set(xs), the call. -/
namespace Gk
open PySem PySem.Spec PyProof.Rows L2
section
variable {P : Program} {w : World} {κ : Type} [DecidableEq κ] {knd : KeyKind P w κ} {A : Around} {E : Value → Shared → Prop} {s : Shared}
/-- the heap with a bare set laid -/
abbrev withSet (w : World) (h : Heap) : Heap := h.push (bareSet w)
set_option maxHeartbeats 8000000 in
theorem set_call (C : Calm knd) {l : Addr} {its : Array Value} (ks : List (Addr × List κ)) {Q : Value → Shared → Prop} (calm : A.handled = none) (hl : s.heap.IsList l its) (eq : its.toList = ks.map fun q => Value.ref q.1)
    (key : ∀ q ∈ ks, IsTupleKey knd s.heap q.2 q.1) (few : ks.length < 64) (hu : A.units + 3 < cLine)
    (go : ∀ (h2 : Heap) (tk : Nat) L es ep t, TSet knd h2 s.heap.objs.size L es ep t → Took ks ks.length L → (∀ b o, s.heap.get? b = some o → h2.get? b = some o) → Q (.ref s.heap.objs.size) { s with heap := h2, toks := tk }) :
    wpAny (model P w) A (call (.type "set") [.ref l]) Q E s := by
  have isz : its.size = ks.length := by
    rw [← Array.length_toList, eq]
    exact List.length_map _
  obtain ⟨c, tl, hmro⟩ := F.called_set.mro
  have made := F.called_set.made
  have sub_ := F.called_set.sub
  refine wpAny_call (codeAny_of_tree ?_)
  show wpAny _ _ (callAny (.type "set") _) _ _ _
  refine wpAny_pure ⟨Code.quiet_builtin _ (by decide +kernel), codeAny_builtin F.entry_type_call ?_⟩
  rw [Around.under_plain (weight_type_call_type "set" [.ref l] []) rfl]
  have nt := F.called_set.notType
  have can := F.called_set.canCreate
  have tc := F.typeCall_set_1 (.ref l)
  repeat (any_goals (first | assumption | wp_step))
  refine codeAny_mono (code_set_led1 (.ref l) (E := E) (Q₁ := fun ob s1 => ob = .ref s.heap.objs.size ∧ s1 = { s with heap := withSet w s.heap }) ⟨rfl, rfl⟩) fun r s1 hr => ?_
  cases r with
  | error e => exact hr
  | ok fl =>
    cases fl with
    | ret ob =>
      obtain ⟨rfl, rfl⟩ := hr
      have at_ : (withSet w s.heap).get? s.heap.objs.size = some (bareSet w) := Heap.get?_push_size _ rfl
      have ty : Shared.TypeIs { s with heap := withSet w s.heap } (.ref s.heap.objs.size) "set" := ⟨_, at_, rfl⟩
      have li := F.called_set.init.lookup
      have bi := F.called_set.init.bind (.ref s.heap.objs.size)
      repeat (any_goals (first | assumption | wp_step))
      refine codeAny_mono (codeAny_call_builtin (R := wants (fun r s2 => r = .none ∧ ∃ h2 tk L es ep t, s2 = { s with heap := h2, toks := tk } ∧ TSet knd h2 s.heap.objs.size L es ep t ∧ Took ks ks.length L ∧
          ∀ b o, s.heap.get? b = some o → h2.get? b = some o) E) F.called_set.init.plain F.entry_set_init (check_set_init_1 ty ?_)) fun r2 s2 hr2 => ?_
      · obtain ⟨⟨cls, dict, data, slots⟩, al, hc, nl, hd⟩ := hl
        simp only at hc hd
        subst hc hd
        have al1 : (withSet w s.heap).get? l = some { cls := .type "list", dict := dict, data := .seq its nl, slots := slots } := Heap.get?_push_of_some _ al
        have nsub := F.sub_list_set
        have nfro := F.sub_list_frozenset
        have ndic : (Value.type "list" == Value.type "dict") = false := by decide
        have il : (withSet w s.heap).IsList l its := ⟨_, al1, rfl, nl, rfl⟩
        unfold Builtin.«set.__init__» noKeywords Builtin.Frozenset.updateFrom
        generalize hI : pyIter = PI
        wp_walk
        subst hI
        refine wpAny_pyIter_list il ?_
        refine wpAny_bind (wpAny_runValue ?_)
        have old : l < s.heap.objs.size := Heap.lt_size al
        have calm3 : A.in1.in1.in1.handled = none := by simp [calm]
        have sz : (withSet w s.heap).objs.size = s.heap.objs.size + 1 := Heap.size_push ..
        have apart : l ≠ (withSet w s.heap).objs.size := by
          rw [sz]
          exact Nat.ne_of_lt (Nat.lt_succ_of_lt old)
        have out : s.heap.objs.size ∉ [(withSet w s.heap).objs.size, l] := by
          rw [sz]
          simp only [List.mem_cons, List.not_mem_nil, or_false, not_or]
          exact ⟨Nat.ne_of_lt (Nat.lt_succ_self _), Nat.ne_of_gt old⟩
        have val : ∀ (i : Nat) (v : Value), its[i]? = some v → ∃ q, ks[i]? = some q ∧ v = .ref q.1 := fun i v hv => by
          rw [← Array.getElem?_toList, eq, List.getElem?_map] at hv
          cases hq : ks[i]? with
          | none => rw [hq] at hv; cases hv
          | some q =>
            rw [hq] at hv
            exact ⟨q, rfl, (Option.some.inj hv).symm⟩
        have none_ : ∀ b, s.heap.objs.size ≤ b → s.heap.get? b = none := fun b hb => by
          cases e : s.heap.get? b with
          | none => rfl
          | some o => exact absurd (Heap.lt_size e) (Nat.not_lt.mpr hb)
        refine fill_loop C ((Walks.list calm3 _ l apart its).toS) s.heap.objs.size out ks isz few val s.heap key (none_ _ (Nat.le_refl _)) (fun b hb => none_ b (by rw [List.mem_singleton.mp hb, sz]; omega)) hu (its.size - 0) 0 _ (by omega) (Nat.zero_le _)
          ⟨⟨_, Heap.get?_push_size _ rfl, rfl, rfl⟩, il.push _⟩ (fun b o e => Heap.get?_push_of_some _ (Heap.get?_push_of_some _ e)) ?fresh ?fin
        case fresh =>
          exact ⟨[], #[], 0, _, tset_new (Heap.get?_push_of_some _ at_), took_none ks⟩
        case fin =>
          intro s3 L es ep t mv S g kp
          obtain ⟨h3, g3, d3, tk3, os3⟩ := s3
          have e1 : g3 = s.gens := mv.gens
          have e2 : d3 = s.drawn := mv.drawn
          have e3 : os3 = s.os := mv.os
          subst e1 e2 e3
          rw [isz] at g
          show wpAny _ _ _ _ _ _
          refine wpAny_pure ?_
          show wpAny _ _ (ret Value.none) _ _ _
          exact wpAny_pure ⟨rfl, h3, tk3, L, es, ep, t, rfl, S, g, kp⟩
      · cases r2 with
        | error e => exact hr2
        | ok fl2 =>
          cases fl2 with
          | ret r =>
            obtain ⟨rfl, h2, tk, L, es, ep, t, rfl, S, g, kp⟩ := hr2
            repeat (any_goals (first | assumption | wp_step))
            exact go _ _ _ _ _ _ S g kp
          | _ => exact hr2.elim
    | _ => exact hr.elim
end
end Gk
/-! Gk25: sorted(set(xs)), xs a list of tuples of texts. -/
namespace Gk
open PySem PySem.Spec PyProof.Rows L2
section
variable {X : Cx}
/-- sorted of what is gathered as tuples of texts -/
theorem sorted_by {ps : List (Addr × Obj)} {st : L2.St} {H : Hp} {s : Shared} {Q : VK} {a : Addr} {L : List (Addr × Pth)} (nL : ∀ b ∈ L, b.2 ≠ []) (hL : ∀ b ∈ L, H b.1 = some (.tup (b.2.map V.str))) (few : L.length < 64)
    (col : ∀ {Qc : List Value → Shared → Prop}, (∀ s1 (bs : List (Addr × Pth)), bs.Perm L → Inv X ps st H s1 → Qc (bs.map fun b => Value.ref b.1) s1) → wpAny (model X.prog X.w) X.A.in1 (collect (.ref a)) Qc X.xe s)
    (q : ∀ (cs : List (Addr × Pth)) (l : Addr), cs.Perm L → cs.Pairwise (fun a b => ltP b.2 a.2 = false) → (∀ b ∈ cs, H b.1 = some (.tup (b.2.map V.str))) → H l = none → Q (.ref l) (upd H l (.lst (cs.map fun b => V.ref b.1)))) :
    wpAny (model X.prog X.w) X.A (call (.builtin "sorted") [.ref a]) (EP X ps st Q) X.xe s := by
  refine Calls.call_function_entry PyProof.Rows.kind_sorted PyProof.Rows.plain_sorted PyProof.Rows.entry_sorted (PyProof.Rows.args_sorted1 _) ?_
  unfold Builtin.«sorted»
  refine wpAny_bind (m := checkCount "sorted" 1 1 _) (wpAny_pure ?_)
  refine wpAny_bind (col fun s1 bs pm I1 => ?_)
  obtain ⟨h1, g1, d1, tk, os1⟩ := s1
  have b3 : ∀ b ∈ bs, H b.1 = some (.tup (b.2.map V.str)) := fun b hb => hL b (pm.mem_iff.mp hb)
  have ne : ∀ b ∈ bs, b.2 ≠ [] := fun b hb => nL b (pm.mem_iff.mp hb)
  have lb : bs.length < 64 := by rw [pm.length_eq]; exact few
  have z : (16777216 : Nat) = sizeLine := sizeLine_eq.symm
  have hln : (bs.map fun b => Value.ref b.1).length ≤ sizeLine := by rw [List.length_map]; omega
  refine wpAny_bind (wpAny_newList ?_ hln)
  have hoL : (h1.push (seqObj "list" (bs.map fun b => Value.ref b.1).toArray 0)).get? h1.objs.size = some (seqObj "list" (bs.map fun b => Value.ref b.1).toArray 0) := Heap.get?_push_size _ rfl
  show wpAny _ _ _ _ _ { heap := h1.push (seqObj "list" (bs.map fun b => Value.ref b.1).toArray 0), gens := g1, drawn := d1, toks := tk, os := os1 }
  -- each key, where it stands
  have at1 : ∀ b ∈ bs, ∃ (ob : Obj) (its : List Value) (n : Nat), (h1.push (seqObj "list" (bs.map fun b => Value.ref b.1).toArray 0)).get? b.1 = some ob ∧ ob.cls = .type "tuple" ∧ ob.data = .seq its.toArray n ∧ Vals (b.2.map V.str) its := by
    intro b hb
    obtain ⟨_, its, rv, ob, g1, g2, n, g3⟩ := (show ObjOk X.prog X.w H h1 b.1 (.tup (b.2.map V.str)) from I1.hok b.1 _ (b3 b hb))
    exact ⟨ob, its, n, Heap.get?_push_of_some _ g1, g2, g3, rv⟩
  have key1 : ∀ b ∈ bs, G.tupKeyC (h1.push (seqObj "list" (bs.map fun b => Value.ref b.1).toArray 0)) shT (.ref b.1) = some (pkey b.2) := by
    intro b hb
    obtain ⟨ob, its, n, g1, g2, g3, rv⟩ := at1 b hb
    exact tupKeyC_at g1 g2 g3 (items_pth b.2 its 0 rv)
  have ne1 : ∀ b ∈ bs, b.2 ≠ [] := by
    intro b hb
    exact ne b hb
  have tups : ∀ cs : List (Addr × Pth), (∀ b ∈ cs, b ∈ bs) → ∃ fs, TupsOf (h1.push (seqObj "list" (bs.map fun b => Value.ref b.1).toArray 0)) shT (cs.map fun b => Value.ref b.1) fs := by
    intro cs
    induction cs with
    | nil => intro _; exact ⟨[], .nil⟩
    | cons c cs ih =>
      intro hc
      obtain ⟨fs, t⟩ := ih fun b hb => hc b (List.mem_cons_of_mem _ hb)
      obtain ⟨ob, its, n, g1, g2, g3, rv⟩ := at1 c (hc c List.mem_cons_self)
      have nz := ne1 c (hc c List.mem_cons_self)
      cases e : c.2 with
      | nil => exact absurd e nz
      | cons x p =>
        rw [e, List.map_cons] at rv
        cases rv with
        | @cons _ u _ its' ru rt =>
          obtain ⟨k, rfl⟩ := ru
          exact ⟨Value.str x k :: fs, .cons ⟨c.1, ob, _, n, rfl, g1, g2, g3, rfl, (fun z => nomatch z), fun _ => ⟨x, k, rfl⟩⟩ t⟩
  obtain ⟨fs, tu⟩ := tups bs fun _ hb => hb
  refine wpAny_bind (wpAny_holding (wpAny_call_entry PyProof.Rows.slot_list_sort ⟨_, hoL, rfl⟩ PyProof.Rows.entry_list_sort
    (G.list_sort_tups (s := { heap := h1.push (seqObj "list" (bs.map fun b => Value.ref b.1).toArray 0), gens := g1, drawn := d1, toks := tk, os := os1 }) (shape := shT) hoL tu ?_ hln fun so hp hs _ => ⟨_, rfl, ?_⟩)
    (PyProof.Rows.args_list_sort _)))
  · intro v hv
    obtain ⟨b, hb, rfl⟩ := List.mem_map.mp hv
    exact ⟨_, key1 b hb⟩
  · have hpl : (arrOf so).toList.Perm (bs.map fun b => ((Value.ref b.1, Value.ref b.1) : Keyed)) := by
      have e := Array.perm_iff_toList_perm.mp hp
      rw [pairsOf_toList] at e
      have e2 : ((bs.map fun b => Value.ref b.1).zip (bs.map fun b => Value.ref b.1)) = bs.map fun b => ((Value.ref b.1, Value.ref b.1) : Keyed) := by
        rw [List.zip_map'] <;> rfl
      rw [e2] at e
      exact e
    obtain ⟨cs, c1, c2⟩ := perm_lift (fun b : Addr × Pth => ((Value.ref b.1, Value.ref b.1) : Keyed)) hpl bs rfl
    have out : ((arrOf so).map (·.2)).toList = cs.map fun b => Value.ref b.1 := by
      rw [Array.toList_map, ← c2, List.map_map] <;> rfl
    have len : cs.length = bs.length := c1.length_eq
    have kk : ∀ (i : Nat) (hi : i < cs.length), KK (G.tupKindC (h1.push (seqObj "list" (bs.map fun b => Value.ref b.1).toArray 0)) shT) (arrOf so) i = pkey cs[i].2 := by
      intro i hi
      have e : (arrOf so)[i]? = some ((Value.ref cs[i].1, Value.ref cs[i].1) : Keyed) := by
        rw [← Array.getElem?_toList, ← c2, List.getElem?_map, List.getElem?_eq_getElem hi] <;> rfl
      unfold KK
      rw [e]
      show (G.tupKeyC (h1.push (seqObj "list" (bs.map fun b => Value.ref b.1).toArray 0)) shT (.ref cs[i].1)).getD [] = _
      rw [key1 cs[i] (c1.mem_iff.mp (List.getElem_mem hi))] <;> rfl
    have srt : cs.Pairwise (fun a b => ltP b.2 a.2 = false) := by
      rw [List.pairwise_iff_getElem]
      intro i j hi hj lt
      have r : PyProof.Rows.lexLt PyProof.Rows.itemOrd (KK (G.tupKindC (h1.push (seqObj "list" (bs.map fun b => Value.ref b.1).toArray 0)) shT) (arrOf so) j)
          (KK (G.tupKindC (h1.push (seqObj "list" (bs.map fun b => Value.ref b.1).toArray 0)) shT) (arrOf so) i) = false :=
        hs i j (Nat.le_of_lt lt) (by rw [pairsOf_size, List.length_map]; omega)
      rw [kk i hi, kk j hj] at r
      exact r
    obtain ⟨ep2, he2⟩ := PyProof.Rows.sortedHeap_at (vs := bs.map fun b => Value.ref b.1) (out := (arrOf so).map (·.2)) hoL
    have lc : (cs.map fun b => V.ref b.1).length ≤ sizeLine := by rw [List.length_map]; omega
    refine wpAny_pure ⟨_, rfl, .ref h1.objs.size, upd H h1.objs.size (.lst (cs.map fun b => V.ref b.1)), I1.laid (t' := tk) (fun b u e => ?_) (Nat.le_refl _)
      (show ObjOk X.prog X.w _ _ _ (.lst (cs.map fun b => V.ref b.1)) from ⟨lc, ((arrOf so).map (·.2)).toList, ep2, by rw [out]; exact vals_fst cs, by rw [Array.toArray_toList]; exact he2⟩), rfl,
      q cs _ (c1.trans pm) srt (fun b hb => b3 b (c1.mem_iff.mp hb)) (I1.hok.fresh (Nat.le_refl _))⟩
    have lt := Heap.lt_size e
    rw [PyProof.Rows.sortedHeap_old (Nat.ne_of_lt lt) (by rw [size_push']; exact Nat.lt_succ_of_lt lt)]
    exact Heap.get?_push_of_some _ e
end
end Gk
/-! Gk26: the rule for sorted(set(e)). -/
namespace Gk
open PySem PySem.Spec PyProof.Rows L2
section
variable {X : Cx}
/-- sorted(set(e)), e a list of tuples of one or more texts -/
def tSortSet (K : PySem.W.Frag) (ta : TE) : TE := fun st H Q => ta st H fun x H1 => ∃ (l : Addr) (bs : List (Addr × Pth)), x = .ref l ∧ SqL K H1 l (bs.map fun b => V.ref b.1) ∧ (∀ b ∈ bs, H1 b.1 = some (.tup (b.2.map V.str))) ∧ (∀ b ∈ bs, b.2 ≠ []) ∧ bs.length < 64 ∧
  ∀ (cs : List (Addr × Pth)) (p : Addr), (cs.map (·.2)).Nodup → (∀ b ∈ cs, b ∈ bs) → (∀ b ∈ bs, b.2 ∈ cs.map (·.2)) → cs.Pairwise (fun a b => ltP b.2 a.2 = false) → cs.length < 64 → H1 p = none → Q (.ref p) (upd H1 p (.lst (cs.map fun b => V.ref b.1)))
theorem keys_strs {P : Program} {w : World} : ∀ {p : Pth} {us : List Value}, Vals (p.map V.str) us → ItemsAre (PySem.strKind P w) p us
  | [], _, .nil => .nil
  | x :: p, _, .cons r t => by
    obtain ⟨k, rfl⟩ := r
    exact .cons (by show Value.isStrOf x (.str x k) = true; simp [Value.isStrOf]) (keys_strs t)
theorem refs_of : ∀ {bs : List (Addr × Pth)} {us : List Value}, Vals (bs.map fun b => V.ref b.1) us → us = bs.map fun b => Value.ref b.1
  | [], _, .nil => rfl
  | b :: bs, _, .cons r t => by
    cases r
    rw [refs_of t]
    rfl
theorem pe_sortSet {a : Expr} {ta : TE} {p p2 q pos : Pos} (hc : X.calm = true) (hu : X.A.units + 64 < cLine) (hg : Gl X "sorted") (hm : X.mg "sorted" = none) (hg2 : Gl X "set") (hm2 : X.mg "set" = none) (ha : PE X a ta)
    (na : starEach [a] X.env = (false, eval a X.env) :: starEach [] X.env := by rfl) : PE X (.Call (.Name "sorted" p) [.Call (.Name "set" p2) [a] [] q] [] pos) (tSortSet X.K ta) := by
  constructor
  intro pins s st H Q I h
  refine Call_ (ld_blt I hg hm PyProof.Rows.boot_sorted ?_)
  refine PyProof.Rows.callWith_builtin1 (PyProof.Rows.args_cons ?_ rfl) rfl rfl
  refine Call_ (ld_blt I hg2 hm2 PyProof.Rows.boot_set ?_)
  refine PyProof.Rows.callWith_type1 (PyProof.Rows.args_cons (thn (ha.run pins s st H _ I h) fun v s1 z => PyProof.Rows.args_nil ?_) na) na rfl
  obtain ⟨x, H1, I1, rx, l, bs, rfl, hl, hb, ne, few, go⟩ := z
  cases rx
  obtain ⟨its, r, pl, hz⟩ := I1.list hl
  have calm := I1.ok.hd hc
  have key : ∀ b ∈ bs, IsTupleKey (PySem.strKind X.prog X.w) s1.heap b.2 b.1 := fun b m => by
    obtain ⟨_, us, rv, o, at_, cl, n, dat⟩ := (show ObjOk X.prog X.w H1 s1.heap b.1 (.tup (b.2.map V.str)) from I1.hok b.1 _ (hb b m))
    exact ⟨o, us.toArray, n, at_, cl, dat, by simpa using keys_strs rv⟩
  refine set_call calm_str bs calm pl.isList (by simpa using refs_of r) key few (by omega) fun h2 tk L es ep t S g kp => ?_
  refine PyProof.Rows.args_nil ?_
  have I2 : Inv X pins st H1 { s1 with heap := h2, toks := tk } := I1.kept kp
  have sub : ∀ b ∈ L, b ∈ bs := fun b m => List.mem_of_mem_take (g.sub b m)
  obtain ⟨o, at_, ex, dat⟩ := S.obj
  refine sorted_by (s := { s1 with heap := h2, toks := tk }) (fun b m => ne b (sub b m)) (fun b m => hb b (sub b m)) S.few (fun {Qc} on => ?_) fun cs l2 pm srt _ nl => ?_
  · refine collect_set (A := X.A.in1) calm ⟨o, at_, ex.1, dat⟩ (TSet.fits (s := { s1 with heap := h2, toks := tk }) S) (by rw [TSet.size (s := { s1 with heap := h2, toks := tk }) S]; unfold scanBound; have := S.few; omega) S.tab.ris S.led fun s3 out kp3 sz3 g3 o3 pm3 => ?_
    have cl : es.toList.map (·.2) = L.map fun b => Value.ref b.1 := by
      rw [S.cells]
      unfold cellsOf
      rw [List.map_map]
      rfl
    rw [cl] at pm3
    obtain ⟨cs, c1, c2⟩ := perm_lift (fun b : Addr × Pth => Value.ref b.1) pm3 L rfl
    rw [← c2]
    exact on s3 cs c1 (I2.call' (ch := []) o3 (Un.kept kp3) (I2.hok.kept kp3) (by rw [g3]; exact I2.bare) (fun _ z => nomatch z))
  · refine go cs l2 ?_ (fun b m => sub b (pm.mem_iff.mp m)) (fun b m => ?_) srt (by rw [pm.length_eq]; exact S.few) nl
    · exact (pm.map (·.2)).nodup_iff.mpr S.nodup
    · refine (pm.map (·.2)).mem_iff.mpr (g.all b ?_)
      rw [List.take_length]
      exact m
end
end Gk
/-! Gk27: what a law's own fewest makes. -/
namespace Gk
open PySem PySem.Spec PyProof.Rows L2
/-- a proper beginning comes first -/
theorem lt_front : ∀ {f p : Pth}, f <+: p → f ≠ p → ltP f p = true
  | [], [], _, n => absurd rfl n
  | [], _ :: _, _, _ => rfl
  | x :: f, [], h, _ => by
    obtain ⟨t, e⟩ := h
    cases e
  | x :: f, y :: p, h, n => by
    obtain ⟨t, e⟩ := h
    injection e with e1 e2
    subst e1
    have r := lt_front (f := f) (p := p) ⟨t, e2⟩ (fun z => n (by rw [z]))
    unfold ltP pkey at r ⊢
    rw [List.map_cons, List.map_cons]
    exact (lex_self (O := itemOrd) _ _ _).trans r
theorem begins_lt {p f : Pth} (b : beginsP p f = true) (n : f ≠ p) : ltP f p = true := lt_front (begins_iff.mp b) n
/-- what is kept of the first i is what the walk has found -/
theorem found_step {ks : List Pth} (asc : Asc ks) {i : Nat} {k : Pth} (hk : ks[i]? = some k) : coversP ((ks.take i).filter (keepP ks)) k = !keepP ks k := by
  have mk : k ∈ ks := List.mem_of_getElem? hk
  have early : ∀ g ∈ ks, ltP g k = true → g ∈ ks.take i := by
    intro g mg lt
    obtain ⟨j, hj, e⟩ := List.getElem_of_mem mg
    obtain ⟨hi, e2⟩ := List.getElem?_eq_some_iff.mp hk
    have ji : j < i := by
      rcases Nat.lt_trichotomy j i with l | l | l
      · exact l
      · subst l
        rw [e2] at e
        rw [e, ltP_irrefl] at lt
        cases lt
      · have r := List.pairwise_iff_getElem.mp asc i j hi hj l
        rw [e, e2] at r
        have r2 := ltP_trans r lt
        rw [ltP_irrefl] at r2
        cases r2
    rw [← e]
    exact List.mem_take_iff_getElem.mpr ⟨j, by omega, rfl⟩
  cases ek : keepP ks k with
  | true =>
    refine covers_false.mpr fun g mg => ?_
    cases b : beginsP k g with
    | false => rfl
    | true =>
      have m2 := List.mem_of_mem_take (List.mem_filter.mp mg).1
      have ne : k ≠ g := fun z => by
        subst z
        have m3 := (List.mem_filter.mp mg).1
        obtain ⟨j, hj, e⟩ := List.mem_take_iff_getElem.mp m3
        obtain ⟨hi, e2⟩ := List.getElem?_eq_some_iff.mp hk
        have r := List.pairwise_iff_getElem.mp asc j i (by omega) hi (by omega)
        rw [e, e2, ltP_irrefl] at r
        cases r
      unfold keepP at ek
      rw [List.any_eq_true.mpr ⟨g, m2, by rw [decide_eq_true ne, b]; rfl⟩] at ek
      cases ek
  | false =>
    unfold keepP at ek
    rw [Bool.not_eq_false'] at ek
    obtain ⟨f, mf, h⟩ := List.any_eq_true.mp ek
    rw [Bool.and_eq_true] at h
    have nf : k ≠ f := of_decide_eq_true h.1
    obtain ⟨g, mg, bg, least⟩ := least_front ks f.length f (Nat.le_refl _) mf
    have bkg := begins_trans h.2 bg
    have ng : g ≠ k := fun z => by
      rw [z] at bg
      exact nf (begins_anti h.2 bg)
    refine covers_iff.mpr ⟨g, List.mem_filter.mpr ⟨early g mg (begins_lt bkg ng), ?_⟩, bkg⟩
    unfold keepP
    rw [Bool.not_eq_true']
    cases e : ks.any fun f => decide (g ≠ f) && beginsP g f with
    | false => rfl
    | true =>
      obtain ⟨f2, m2, h2⟩ := List.any_eq_true.mp e
      rw [Bool.and_eq_true] at h2
      rw [least f2 m2 fun z => of_decide_eq_true h2.1 z.symm] at h2
      cases h2.2
/-- a law's own fewest: a new list of the paths that begin with no other one, ascending -/
def spLFew (K : PySem.W.Frag) : Sp := fun vs H Q _ => ∃ (a : Addr) (bs : List (Addr × Pth)), vs = [.ref a] ∧ SqL K H a (bs.map fun b => V.ref b.1) ∧ (∀ b ∈ bs, H b.1 = some (.tup (b.2.map V.str))) ∧ (∀ b ∈ bs, OkP b.2 ∧ b.2 ≠ []) ∧ bs.length < 64 ∧
  ∀ (H2 : Hp) (l : Addr) (ys : List V) (qs : List Pth), Kp T0 H H2 → H l = none → H2 l = some (.lst ys) → Ps H2 ys qs → Canon (bs.map (·.2)) qs → ys.length ≤ bs.length → Q (.ref l) H2
/-- rows of paths, by address -/
theorem Ps.rows {H : Hp} : ∀ {xs : List V} {ps : List Pth}, Ps H xs ps → ∃ bs : List (Addr × Pth), xs = bs.map (fun b => V.ref b.1) ∧ bs.map (·.2) = ps ∧ ∀ b ∈ bs, H b.1 = some (.tup (b.2.map V.str))
  | _, _, .nil => ⟨[], rfl, rfl, fun b m => nomatch m⟩
  | _, _, .cons (b := p) r t => by
    obtain ⟨a, rfl, ha⟩ := r
    obtain ⟨bs, e1, e2, h⟩ := Ps.rows t
    refine ⟨(a, p) :: bs, by rw [e1]; rfl, by rw [← e2]; rfl, fun b m => ?_⟩
    rcases List.mem_cons.mp m with e | m
    · rw [e]
      exact ha
    · exact h b m
theorem rows_ps {H : Hp} : ∀ {bs : List (Addr × Pth)}, (∀ b ∈ bs, H b.1 = some (.tup (b.2.map V.str))) → Ps H (bs.map fun b => V.ref b.1) (bs.map (·.2))
  | [], _ => .nil
  | b :: _, h => .cons ⟨b.1, rfl, h b List.mem_cons_self⟩ (rows_ps fun c m => h c (List.mem_cons_of_mem _ m))
theorem asc_rows {cs : List (Addr × Pth)} (nd : (cs.map (·.2)).Nodup) (srt : cs.Pairwise fun a b => ltP b.2 a.2 = false) : Asc (cs.map (·.2)) := by
  have n2 : cs.Pairwise fun a b => a.2 ≠ b.2 := List.pairwise_map.mp nd
  refine List.pairwise_map.mpr ((srt.and n2).imp fun {a b} h => ?_)
  cases e : ltP a.2 b.2 with
  | true => rfl
  | false => exact absurd (ltP_total e h.1) h.2
end Gk
/-! Gk28: own == and != with a right operand of another kind. -/
namespace Gk
open PySem PySem.Spec PyProof.Rows L2
theorem notFirst_of {K : PySem.W.Frag} {t : Value} {C : Addr} (e : PySem.W.kitOne K t (.ref C) = some false) : PySem.W.notFirst K C t = true := by
  unfold PySem.W.kitOne at e
  by_cases c : (t == .ref C) = true
  · rw [if_pos c] at e
    cases e
  · rw [if_neg c] at e
    unfold PySem.W.kitCls at e
    dsimp only at e
    split at e
    · unfold PySem.W.notFirst
      rw [e]
      simp
    · cases e
/-- the class is a plain one of the frag's -/
abbrev PlainCls (K : PySem.W.Frag) (C : Addr) : Prop := ((PySem.W.clsIn K C).isSome && PySem.W.typeIn K (.ref C) == some (.type "type")) = true
theorem kit_no {K : PySem.W.Frag} {C : Addr} (p : PlainCls K C) {T : String} {l : List Value} (h : PySem.fastBuiltinMro T = some l) (h2 : l.contains (.ref C) = false) : PySem.W.kitOne K (.type T) (.ref C) = some false := by
  unfold PySem.W.kitOne
  rw [if_neg (by simp)]
  unfold PySem.W.kitCls
  dsimp only
  rw [if_pos p]
  unfold PySem.W.subIn
  dsimp only
  rw [h, Option.map_some, h2]
def rOwnX (K : PySem.W.Frag) (C : Addr) (sp : Sp) (E : XK) : R2 := fun x y H Q => ∃ (a dx : Addr) (fs : List (Str × V)) (t : Value), x = .ref a ∧ H a = some (.ins C dx fs) ∧ TyX K H y t ∧ PySem.W.kitOne K t (.ref C) = some false ∧ sp [.ref a, y] H Q E
def rOwnNeX (K : PySem.W.Frag) (C : Addr) (sp : Sp) (E : XK) : R2 := fun x y H Q => ∃ (a dx : Addr) (fs : List (Str × V)) (t : Value), x = .ref a ∧ H a = some (.ins C dx fs) ∧ TyX K H y t ∧ PySem.W.kitOne K t (.ref C) = some false ∧
  sp [.ref a, y] H (fun r H2 => ∃ c : Bool, r = .bl c ∧ Q (.bl (!c)) H2) E
section
variable {X : Cx} {CX : CXT} {k : Nat} {f C : Addr} {fd : FuncData} {ps : List Str} {sp : Sp} {E : XK}
theorem op_ownEqX (F : FnOk X.prog X.w X.K X.mg X.base CX k f fd ps sp) (D : Dun X.K C "__eq__" f) (hr : Room k X.A) (hb : Binds X.K fd ps []) (hx : Passes CX X E) : OpR X (compareOp .Eq) (rOwnX X.K C sp E) := by
  intro pins s st H x y v u Q I rx ry h
  obtain ⟨a, dx, fs, t, rfl, ha, ty, ko, h⟩ := h
  cases rx
  obtain ⟨mA, J, _⟩ := ins_get I.hok ha
  obtain ⟨od, J, _⟩ := J.look
  obtain ⟨m, hF⟩ := I.fr
  obtain ⟨P, kx, hP, _⟩ := kit_of I ry ty
  refine PySem.W.cmp_K (op := .Eq) (tb := t) hr.units0 hF I.ok.mod.kin J (kx.ty _ _ I.kIn hP) (notFirst_of ko) D.at_ D.fn ?_
  refine thn (run_below F rfl hr hb hx I (show Vals [V.ref a, y] [Value.ref a, u] from .cons rfl (.cons ry .nil)) h) fun u2 s2 q => ?_
  obtain ⟨z, H2, I2, rz, q2⟩ := q
  exact cmpBack_of (rel_ni rz) ⟨z, H2, I2, rz, q2⟩
theorem op_ownNeX (F : FnOk X.prog X.w X.K X.mg X.base CX k f fd ps sp) (D : Dun X.K C "__eq__" f) (N : NoNe X.K C) (hr : Room (k + 1) X.A) (hb : Binds X.K fd ps []) (hx : Passes CX X E) : OpR X (compareOp .NotEq) (rOwnNeX X.K C sp E) := by
  intro pins s st H x y v u Q I rx ry h
  obtain ⟨a, dx, fs, t, rfl, ha, ty, ko, h⟩ := h
  cases rx
  obtain ⟨mA, J, _⟩ := ins_get I.hok ha
  obtain ⟨od, J, _⟩ := J.look
  obtain ⟨m, hF⟩ := I.fr
  obtain ⟨P, kx, hP, _⟩ := kit_of I ry ty
  refine ne_K (tb := t) (hu_of hr) hF I.ok.mod.kin J (kx.ty _ _ I.kIn hP) (notFirst_of ko) N D.at_ D.fn ?_
  refine thn (run_below (A := X.A.in1) F rfl hr.in1 hb hx I (show Vals [V.ref a, y] [Value.ref a, u] from .cons rfl (.cons ry .nil)) h) fun u2 s2 q => ?_
  obtain ⟨z, H2, I2, rz, c, rfl, q2⟩ := q
  cases rz
  exact ⟨c, rfl, .bl (!c), H2, I2, rfl, q2⟩
end
section
variable {X : Cx} {C f : Addr} {k : Nat} {ps : List Str} {sp : Sp}
theorem op_dmEqX (D : Dm X.prog X.w X.K X.mg X.base C k "__eq__" f ps sp) (hr : Room k X.A) : OpR X (compareOp .Eq) (rOwnX X.K C sp E0) := by
  obtain ⟨fd, F, b⟩ := D.ex
  exact op_ownEqX F ⟨D.me.at_, D.me.fn⟩ hr b pass0
theorem op_dmNeX (D : Dm X.prog X.w X.K X.mg X.base C k "__eq__" f ps sp) (N : NoNe X.K C) (hr : Room (k + 1) X.A) : OpR X (compareOp .NotEq) (rOwnNeX X.K C sp E0) := by
  obtain ⟨fd, F, b⟩ := D.ex
  exact op_ownNeX F ⟨D.me.at_, D.me.fn⟩ N hr b pass0
end
/-- what == of masks tells, of any value -/
def spEqX (K : PySem.W.Frag) (C : Addr) : Sp := fun vs H Q E => spEqM C vs H Q E ∨ ∃ (v u : V) (qs : List Pth) (t : Value), vs = [v, u] ∧ IsM C H v qs ∧ TyX K H u t ∧ PySem.W.kitOne K t (.ref C) = some false ∧ Q (.bl false) H
section
variable {K : PySem.W.Frag} {C : Addr} {H : Hp} {v u : V} {qs rs : List Pth} {Q : VK} {E : XK}
theorem rd_eq2 (i : IsM C H v qs) (j : IsM C H u rs) (k : Q (.bl (decide (qs = rs))) H) : rOwn C (spEqX K C) E v u H Q := by
  obtain ⟨x, dx, r, rfl, hx⟩ := i.ins
  obtain ⟨y, dy, t, rfl, hy⟩ := j.ins
  exact ⟨x, y, dx, dy, _, _, rfl, rfl, hx, hy, .inl ⟨_, _, qs, rs, rfl, i, j, k⟩⟩
theorem rd_ne2 (i : IsM C H v qs) (j : IsM C H u rs) (k : Q (.bl (!decide (qs = rs))) H) : rOwnNe C (spEqX K C) E v u H Q := by
  obtain ⟨x, dx, r, rfl, hx⟩ := i.ins
  obtain ⟨y, dy, t, rfl, hy⟩ := j.ins
  exact ⟨x, y, dx, dy, _, _, rfl, rfl, hx, hy, .inl ⟨_, _, qs, rs, rfl, i, j, _, rfl, k⟩⟩
theorem rd_eqX {t : Value} (i : IsM C H v qs) (ty : TyX K H u t) (ko : PySem.W.kitOne K t (.ref C) = some false) (k : Q (.bl false) H) : rOwnX K C (spEqX K C) E v u H Q := by
  obtain ⟨x, dx, r, rfl, hx⟩ := i.ins
  exact ⟨x, dx, _, t, rfl, hx, ty, ko, .inr ⟨_, _, qs, t, rfl, i, ty, ko, k⟩⟩
theorem rd_neX {t : Value} (i : IsM C H v qs) (ty : TyX K H u t) (ko : PySem.W.kitOne K t (.ref C) = some false) (k : Q (.bl true) H) : rOwnNeX K C (spEqX K C) E v u H Q := by
  obtain ⟨x, dx, r, rfl, hx⟩ := i.ins
  exact ⟨x, dx, _, t, rfl, hx, ty, ko, .inr ⟨_, _, qs, t, rfl, i, ty, ko, false, rfl, k⟩⟩
end
end Gk
namespace Lw
open PySem L2 Gk
def topS (i : Nat) : Stmt := PySem.Challenge.pw_maskwrites_k12_masks_counted_and_equal.main.body.getD i (.Pass ⟨0, 0, 0, 0⟩)
abbrev sIsLetters : Stmt := topS 7
abbrev sIsName : Stmt := topS 8

structure TxtN (K : PySem.W.Frag) (mg : Str → Option Value) : Prop where
  z_isinstance : mg "isinstance" = none
  z_str : mg "str" = none
  z_len : mg "len" = none
  z_all : mg "all" = none
  v_LETTERS : ∃ t, mg "LETTERS" = some (.str LET t)
  v_MOST_NAME : ∃ t, mg "MOST_NAME" = some (.int 8 t)
section
variable {P : Program} {w : World} {K : PySem.W.Frag} {mg : Str → Option Value} {base : Heap}
theorem scIsLetters : FnScope ["value", "least", "most", "sign"] ["value", "least", "most"] (defScope sIsLetters) := ⟨rfl, rfl, rfl, by decide +kernel, rfl, by decide +kernel, by decide +kernel⟩
theorem ok_is_letters {f : Addr} {fd : FuncData} (F : Fun K "is_letters" "is_letters" sIsLetters f fd) (T : TxtN K mg) : FnOk P w K mg base CX0 1 f fd ["value", "least", "most"] (spIsLetters K) := by
  refine F.ok scIsLetters (fun vs H Q E h => ?_) (fun cdv A outer s H vs Q E hr h => ?_)
  · obtain ⟨v, lo, hi, rfl, _⟩ := h
    rfl
  · obtain ⟨v, lo, hi, rfl, h⟩ := h
    obtain ⟨tL, mL⟩ := T.v_LETTERS
    refine ⟨_, pss_one (ps_ret (pe_and (pe_callB call_isi (by rfl) T.z_isinstance (by decide +kernel) (pa_cons (pv 0) (pa_cons (pe_bltn (v := .ty "str") (by rfl) T.z_str (by decide +kernel) rfl) pa_nil)))
      (pe_and (pe_chain op_le op_le (pv 1) (pe_callB call_len (by rfl) T.z_len PySem.boot_len (pa_cons (pv 0) pa_nil)) (pv 2))
      (pe_one (pe_callB (cr_all rfl) (by rfl) T.z_all (by decide +kernel) (pa_cons (pe_lc (own := [("sign", 3)]) (g := gName 3) (tt := tYes) rfl scIsLetters.nd (pi_str (pv 0))
        (blkOk_by (N := ["value", "least", "most", "sign"]) (sc := defScope sIsLetters) (by decide +kernel)) (fun _ _ _ _ _ => pg_name (i := 3) scIsLetters.nd rfl (Or.inl rfl)) (fun _ _ _ _ _ => pts_nil)
        (fun _ _ _ _ _ => pe_cmpR op_in_sign (pv 3) (pe_glob (v := .str LET) (by rfl) mL ⟨_, rfl⟩) (by rfl))) pa_nil)))))), ?_⟩
    rcases h with ⟨x, rfl, hx, k⟩ | ⟨⟨t, ty, kit⟩, k⟩
    · refine ⟨_, rfl, _, _, _, _, true, rfl, .ty "str", .base (.str x), kit_ty (by decide +kernel), true, rfl, ?_⟩
      refine iteT ?_
      refine ⟨_, rfl, _, rfl, _, _, rfl, ⟨Nat.le_of_lt hx, rfl⟩, _, _, rfl, rfl, _, rfl, ?_⟩
      have fls : ∀ H2 : Hp, Kp T0 H H2 → isLet x lo hi = false → Q (.bl false) H2 := fun H2 k2 e => by
        have q := k H2 k2
        rw [e] at q
        exact q
      refine ite2 (fun h1 => ?_) (fun h1 => ?_)
      · refine ⟨_, rfl, _, _, rfl, rfl, _, rfl, ?_⟩
        refine ite2 (fun h2 => ?_) (fun h2 => ?_)
        · refine ⟨_, rfl, x, rfl, fun D hD => ?_⟩
          refine lc_kp (T := T0) walk_str (i0 := 3) (fun i v => ∃ c, x.cps[i]? = some c ∧ v = .str ⟨#[c]⟩) (fun i ys _ => ys.length = i ∧ ∀ (j : Nat) v, ys[j]? = some v → ∃ b, v = .bl b ∧ ∃ c, x.cps[j]? = some c ∧ b = decide (c ∈ LET.cps.toList))
            (fun i H1 v H2 _ y => y) hD id hx (wipe1 _ 3) (fun _ _ => True.intro) ⟨rfl, fun j v e => by simp at e⟩ (fun i v ys H1 Ky Kn hi sx _ _ p ky _ => ?_) (fun ys H1 k1 d1 _ p => ?_)
          · obtain ⟨c, hc, rfl⟩ := sx
            refine yes_ ?_
            refine ⟨_, rfl, c, LET, rfl, rfl, ky _ _ (Kp.refl _) ⟨by rw [List.length_append, p.1]; rfl, snoc_at p.2 ⟨_, rfl, c, by rw [p.1]; exact hc, rfl⟩⟩⟩
          · obtain ⟨bs, eb, lb, hb⟩ := bools_of p.2
            refine ⟨D, bs, rfl, SqL.of (by rw [d1, eb]), ?_⟩
            have q := k H1 k1
            have ea := all_seq (fun c => decide (c ∈ LET.cps.toList)) x bs (lb.trans p.1) hb
            unfold isLet at q
            rw [h1, h2, Bool.true_and, Bool.true_and, ← ea] at q
            exact q
        · exact fls H (Kp.refl H) (by unfold isLet; rw [(Bool.not_eq_true _).mp h2, Bool.and_false, Bool.false_and])
      · exact ⟨false, rfl, iteF (fls H (Kp.refl H) (by unfold isLet; rw [(Bool.not_eq_true _).mp h1, Bool.false_and, Bool.false_and]))⟩
    · refine ⟨_, rfl, _, _, _, _, false, rfl, .ty "str", ty, kit, false, rfl, ?_⟩
      exact iteF k
theorem scIsName : FnScope ["value"] ["value"] (defScope sIsName) := ⟨rfl, rfl, rfl, by decide +kernel, rfl, by decide +kernel, by decide +kernel⟩
theorem ok_is_name {f fL : Addr} {fd : FuncData} (F : Fun K "is_name" "is_name" sIsName f fd) (T : TxtN K mg) (DL : Df P w K mg base 1 fL "is_letters" ["value", "least", "most"] (spIsLetters K)) :
    FnOk P w K mg base CX0 2 f fd ["value"] (spIsName K) := by
  refine F.ok scIsName (fun vs H Q E h => ?_) (fun cdv A outer s H vs Q E hr h => ?_)
  · obtain ⟨v, r, rfl, _⟩ := h
    rfl
  · obtain ⟨v, r, rfl, it, k⟩ := h
    obtain ⟨tM, mM⟩ := T.v_MOST_NAME
    refine ⟨_, pss_one (ps_ret (pe_df DL hr (by rfl) (pa_cons (pv 0) (pa_cons pe_int (pa_cons (pe_glob (v := .int 8) (by rfl) mM ⟨_, rfl⟩) pa_nil))))), ?_⟩
    refine ⟨_, rfl, _, 1, 8, rfl, ?_⟩
    rcases it with ⟨x, rfl, hx, rfl⟩ | ⟨ns, rfl⟩
    · exact .inl ⟨x, rfl, hx, k⟩
    · exact .inr ⟨ns, k H (Kp.refl H)⟩
end
end Lw
namespace Lw
open PySem L2 Gk
abbrev sIsRow : Stmt := topS 10
abbrev sBegins : Stmt := topS 11
abbrev sCovers : Stmt := topS 12
structure TxtR (mg : Str → Option Value) : Prop where
  z_isinstance : mg "isinstance" = none
  z_tuple : mg "tuple" = none
  z_len : mg "len" = none
  z_all : mg "all" = none
  z_any : mg "any" = none
section
variable {P : Program} {w : World} {K : PySem.W.Frag} {mg : Str → Option Value} {base : Heap}
theorem scIsRow : FnScope ["value", "name"] ["value"] (defScope sIsRow) := ⟨rfl, rfl, rfl, by decide +kernel, rfl, by decide +kernel, by decide +kernel⟩
theorem ok_is_row {f fN : Addr} {fd : FuncData} (F : Fun K "is_row" "is_row" sIsRow f fd) (T : TxtR mg) (DN : Df P w K mg base 2 fN "is_name" ["value"] (spIsName K)) :
    FnOk P w K mg base CX0 3 f fd ["value"] (spIsRow K) := by
  refine F.ok scIsRow (fun vs H Q E h => ?_) (fun cdv A outer s H vs Q E hr h => ?_)
  · obtain ⟨v, r, rfl, _⟩ := h
    rfl
  · obtain ⟨v, r, rfl, h, k⟩ := h
    refine ⟨_, pss_one (ps_ret (pe_and (pe_callB call_isi (by rfl) T.z_isinstance (by decide +kernel) (pa_cons (pv 0) (pa_cons (pe_bltn (v := .ty "tuple") (by rfl) T.z_tuple (by decide +kernel) rfl) pa_nil)))
      (pe_and (pe_cmpR op_neL (pv 0) (pe_tup pa_nil) (nomark _))
      (pe_one (pe_callB (cr_all rfl) (by rfl) T.z_all (by decide +kernel) (pa_cons (pe_lc (own := [("name", 1)]) (g := gName 1) (tt := tYes) rfl scIsRow.nd (pi_tup (pv 0))
        (blkOk_by (N := ["value", "name"]) (sc := defScope sIsRow) (by decide +kernel)) (fun _ _ _ _ _ => pg_name (i := 1) scIsRow.nd rfl (Or.inl rfl)) (fun _ _ _ _ _ => pts_nil)
        (fun _ _ _ _ _ => pe_df DN hr (by rfl) (pa_cons (pv 1) pa_nil))) pa_nil)))))), ?_⟩
    rcases h with ⟨a, xs, rs, ds, rfl, ha, it, dp, lay, lx, rfl⟩ | ⟨⟨t, ty, kit⟩, rfl⟩
    · refine ⟨_, rfl, _, _, _, _, true, rfl, .ty "tuple", .base (.tup ha), kit_ty (by decide +kernel), true, rfl, ?_⟩
      refine iteT ?_
      refine ⟨_, rfl, Nat.zero_le _, fun e0 he0 => ?_⟩
      have k0 : Kp T0 H (upd H e0 (.tup [])) := (Kp.refl H).new he0
      have hU := hr.units
      refine ⟨.tuple ds, .tuple [], .tup (SqT.of (k0.at0 ha)) ?_, .tup (SqT.of upd_same) .nil, lay, rfl, ?_, _, rfl, ?_⟩
      · exact dpAll_keep dp k0
      · have e1 : PyData.depth (.tuple []) = 1 := rfl
        rw [e1]
        exact Nat.lt_of_le_of_lt (Nat.add_le_add_left (Nat.le_trans (Nat.min_le_right _ _) (by decide : 1 ≤ 64)) _) hU
      · rw [eqv_nil]
        have eE : ds.isEmpty = xs.isEmpty := by
          cases dp <;> rfl
        rw [eE]
        cases ex : xs.isEmpty with
        | true =>
          refine iteF ?_
          have q := k _ k0
          rw [ex] at q
          exact q
        | false =>
          refine iteT ?_
          refine ⟨_, rfl, a, rfl, ⟨xs, SqT.of (k0.at0 ha)⟩, fun D hD => ?_⟩
          refine lc_kp (T := T0) (walk_tup (xs := xs)) (i0 := 1) (fun i v => xs[i]? = some v) (fun i ys _ => ys.length = i ∧ ∀ (j : Nat) v, ys[j]? = some v → ∃ b, v = .bl b ∧ rs[j]? = some b)
            (fun i H1 v H2 _ y => y) hD id lx (wipe1 _ 1) (fun H1 k1 => SqT.of (k1.at0 (k0.at0 ha))) ⟨rfl, fun j v e => by simp at e⟩ (fun i v ys H1 Ky Kn hi sx k1 _ p ky _ => ?_) (fun ys H1 k1 d1 _ p => ?_)
          · refine yes_ ?_
            obtain ⟨b, hb, iv⟩ := paired_get it sx
            refine ⟨_, rfl, v, b, rfl, iv.keep0 (k0.trans k1), fun H3 k3 => ky _ _ k3 ⟨by rw [List.length_append, p.1]; rfl, snoc_at p.2 ⟨b, rfl, by rw [p.1]; exact hb⟩⟩⟩
          · obtain ⟨bs, eb, lb, hb⟩ := bools_of p.2
            refine ⟨D, bs, rfl, SqL.of (by rw [d1, eb]), ?_⟩
            have eq : bs = rs := by
              have l1 : rs.length = xs.length := (Paired.length it).symm
              refine List.ext_getElem (by rw [lb, p.1, l1]) fun j h1 h2 => ?_
              have q := hb j bs[j] (List.getElem?_eq_getElem h1)
              rw [List.getElem?_eq_getElem h2] at q
              exact (Option.some.inj q).symm
            rw [eq]
            have q := k H1 (k0.trans k1)
            rw [ex] at q
            exact q
    · refine ⟨_, rfl, _, _, _, _, false, rfl, .ty "tuple", ty, kit, false, rfl, ?_⟩
      exact iteF (k H (Kp.refl H))
theorem scBegins : FnScope ["path", "front"] ["path", "front"] (defScope sBegins) := ⟨rfl, rfl, rfl, by decide +kernel, rfl, by decide +kernel, by decide +kernel⟩
theorem ok_begins {f : Addr} {fd : FuncData} (F : Fun K "begins" "begins" sBegins f fd) (T : TxtR mg) : FnOk P w K mg base CX0 1 f fd ["path", "front"] spBegins := by
  refine F.ok scBegins (fun vs H Q E h => ?_) (fun cdv A outer s H vs Q E hr h => ?_)
  · obtain ⟨v, u, p, f, rfl, _⟩ := h
    rfl
  · obtain ⟨v, u, p, f, rfl, ⟨a, rfl, ha⟩, ⟨b, rfl, hb⟩, op, of, k⟩ := h
    refine ⟨_, pss_one (ps_ret (pe_cmpR (op_eqD hr.units) (pe_slice sl_tupA (pv 0) po_none (po_some (pe_callB call_len (by rfl) T.z_len PySem.boot_len (pa_cons (pv 1) pa_nil)))) (pv 1) (nomark _))), ?_⟩
    have l0 : (p.map V.str).length = p.length := List.length_map _
    have fin : ∀ (c : Addr) (H2 : Hp), Kp T0 H H2 → H2 c = some (.tup ((p.take f.length).map V.str)) → rEqD K (.ref c) (.ref b) H2 Q := by
      intro c H2 k2 hc
      refine ⟨dP (p.take f.length), dP f, IsP.dp ⟨c, rfl, hc⟩, IsP.dp ⟨b, rfl, k2.at0 hb⟩, shaped_dP (op.take _), shaped_dP of, ?_⟩
      rw [eqv_dP]
      exact k H2 k2
    refine ⟨_, rfl, _, rfl, _, (f.length : Nat), rfl, .inr ⟨_, SqT.of hb, by rw [List.length_map]⟩, _, rfl, a, _, rfl, SqT.of ha, fun z => ?_, fun z c hc => ?_⟩
    · refine ⟨_, rfl, fin a H (Kp.refl H) ?_⟩
      rw [← cut_whole z.2] at ha
      rw [List.map_take]
      exact ha
    · refine ⟨_, rfl, fin c _ ((Kp.refl H).new hc) ?_⟩
      rw [upd_same, cut_take, List.map_take]
theorem scCovers : FnScope ["paths", "path", "front"] ["paths", "path"] (defScope sCovers) := ⟨rfl, rfl, rfl, by decide +kernel, rfl, by decide +kernel, by decide +kernel⟩
theorem ok_covers {f fB : Addr} {fd : FuncData} (F : Fun K "covers" "covers" sCovers f fd) (T : TxtR mg) (DB : Df P w K mg base 1 fB "begins" ["path", "front"] spBegins) : FnOk P w K mg base CX0 2 f fd ["paths", "path"] spCovers := by
  refine F.ok scCovers (fun vs H Q E h => ?_) (fun cdv A outer s H vs Q E hr h => ?_)
  · obtain ⟨a, xs, ps, v, p, rfl, _⟩ := h
    rfl
  · obtain ⟨a, xs, ps, v, p, rfl, ha, hps, lx, ops, hv, op, k⟩ := h
    refine ⟨_, pss_one (ps_ret (pe_callB (cr_any rfl) (by rfl) T.z_any (by decide +kernel) (pa_cons (pe_lc (own := [("front", 2)]) (g := gName 2) (tt := tYes) rfl scCovers.nd (pi_tup (pv 0))
        (blkOk_by (N := ["paths", "path", "front"]) (sc := defScope sCovers) (by decide +kernel)) (fun _ _ _ _ _ => pg_name (i := 2) scCovers.nd rfl (Or.inl rfl)) (fun _ _ _ _ _ => pts_nil)
        (fun _ _ _ _ _ => pe_df DB hr (by rfl) (pa_cons (pv 1) (pa_cons (pv 2) pa_nil)))) pa_nil))), ?_⟩
    refine ⟨_, rfl, a, rfl, ⟨xs, SqT.of ha⟩, fun D hD => ?_⟩
    refine lc_kp (T := T0) (walk_tup (xs := xs)) (i0 := 2) (fun i v => xs[i]? = some v) (fun i ys _ => ys.length = i ∧ ∀ (j : Nat) v, ys[j]? = some v → ∃ b, v = .bl b ∧ ∃ f, ps[j]? = some f ∧ b = beginsP p f)
      (fun i H1 v H2 _ y => y) hD id lx (wipe1 _ 2) (fun H1 k1 => SqT.of (k1.at0 ha)) ⟨rfl, fun j v e => by simp at e⟩ (fun i u ys H1 Ky Kn hi sx k1 _ q ky _ => ?_) (fun ys H1 k1 d1 _ q => ?_)
    · refine yes_ ?_
      obtain ⟨g, hg, ig⟩ := Ps.get hps sx
      refine ⟨_, rfl, _, rfl, v, u, p, g, rfl, hv.keep0 k1, ig.keep0 k1, op, ops g (List.mem_of_getElem? hg), fun H3 k3 => ky _ _ k3 ⟨by rw [List.length_append, q.1]; rfl, snoc_at q.2 ⟨_, rfl, g, by rw [q.1]; exact hg, rfl⟩⟩⟩
    · obtain ⟨bs, eb, lb, hb⟩ := bools_of q.2
      refine ⟨D, bs, rfl, SqL.of (by rw [d1, eb]), ?_⟩
      have eq : bs = ps.map (beginsP p) := by
        have l1 : ps.length = xs.length := (Paired.length hps).symm
        refine List.ext_getElem (by rw [lb, q.1, List.length_map, l1]) fun j h1 h2 => ?_
        obtain ⟨f, hf, e⟩ := hb j bs[j] (List.getElem?_eq_getElem h1)
        rw [e, List.getElem_map]
        rw [List.length_map] at h2
        rw [List.getElem?_eq_getElem h2] at hf
        rw [Option.some.inj hf]
      rw [eq, List.any_map]
      exact k H1 k1
end
end Lw
namespace Lw
open PySem L2 Gk
abbrev sFewest : Stmt := topS 13
structure TxtF (mg : Str → Option Value) : Prop where
  z_sorted : mg "sorted" = none
  z_any : mg "any" = none
theorem boot_any : bootBuiltins "any" = some (.builtin "any") := by decide +kernel
section
variable {P : Program} {w : World} {K : PySem.W.Frag} {mg : Str → Option Value} {base : Heap}
theorem scFewest : FnScope ["paths", "some", "path", "front"] ["paths"] (defScope sFewest) := ⟨rfl, rfl, rfl, by decide +kernel, rfl, by decide +kernel, by decide +kernel⟩
theorem ok_fewest {f fB : Addr} {fd : FuncData} (F : Fun K "fewest" "fewest" sFewest f fd) (T : TxtF mg) (DB : Df P w K mg base 1 fB "begins" ["path", "front"] spBegins) : FnOk P w K mg base CX0 2 f fd ["paths"] (spFewest K) := by
  refine F.ok scFewest (fun vs H Q E h => ?_) (fun cdv A outer s H vs Q E hr h => ?_)
  · obtain ⟨a, xs, ps, rfl, _⟩ := h
    rfl
  · obtain ⟨a, xs, ps, rfl, ⟨hsq, hps, okp⟩, lx, k⟩ := h
    refine ⟨_, pss_cons (ps_set (i := 1) scFewest.nd rfl (Or.inr rfl) (pe_callB (cr_sortedDT rfl) (by rfl) T.z_sorted (by decide +kernel) (pa_cons (pe_dcG (new := .dT []) (t := stT) (own := [("path", 2)]) (g := gName 2) (tt := tYes)
        (storeT hr.units0) rfl scFewest.nd (pi_or (pi_list (pv 0)) (pi_tup (pv 0))) (blkOk_by (N := ["paths", "some", "path", "front"]) (sc := defScope sFewest) (by decide +kernel)) (fun _ _ _ _ _ => pg_name (i := 2) scFewest.nd rfl (Or.inl rfl))
        (fun _ _ _ _ _ => pts_nil) (fun _ _ _ _ _ => pv 2) (fun _ _ _ _ _ => pe_bl)) pa_nil)))
      (pss_one (ps_ret (pe_lc (own := [("path", 2)]) (g := gName 2) rfl scFewest.nd (pi_list (pv 1)) (blkOk_by (N := ["paths", "some", "path", "front"]) (sc := defScope sFewest) (by decide +kernel)) (fun _ _ _ _ _ => pg_name (i := 2) scFewest.nd rfl (Or.inr rfl))
        (fun _ _ _ _ _ => pts_one (pt_not (pt_val (pe_callB (r := rAny K) (id := "any") (cr_any rfl) (by rfl) T.z_any boot_any (pa_cons (pe_lc (wi := iList K (tVar 1)) (own := [("front", 3)]) (g := gName 3) (tt := tYes) rfl scFewest.nd (pi_list (pv 1))
          (blkOk_in (N := ["paths", "some", "path", "front"]) (outer := defScope sFewest) rfl (by decide +kernel)) (fun _ _ _ _ _ => pg_name (i := 3) scFewest.nd rfl (Or.inl rfl)) (fun _ _ _ _ _ => pts_nil)
          (fun _ _ _ _ _ => pe_and (pe_cmpR (r := rNeD K) (op_neD hr.units) (pv 2) (pv 3) (nomark _)) (pe_one (pe_df DB hr (by rfl) (pa_cons (pv 2) (pa_cons (pv 3) pa_nil)))))) pa_nil)))))
        (fun _ _ _ _ _ => pv 2)))), ?_⟩
    -- the dict
    have dict : ∀ (J : It) (G : Hp → Prop), Walk J xs.length G (YAt xs) → (∀ H2, Kp T0 H H2 → G H2) → ∀ D, H D = none → ∀ Qd : Hp → Prop,
        (∀ (H2 : Hp) (kvs : List (List L2.Key × V)) (ks : List Pth), Kp T0 H H2 → H2 D = some (.dT kvs) → kvs.map (·.1) = ks.map (List.map Sum.inr) → ks.Nodup → (∀ p, p ∈ ks ↔ p ∈ ps) → kvs.length ≤ xs.length → Qd H2) →
        ∃ W : Nat → Nat → Hp → Prop, (∃ m, W 0 m (upd H D (.dT []))) ∧ ∀ i m Ha, W i m Ha →
          (J.stop i Ha ∧ Qd Ha) ∨ (J.go i Ha ∧ ∃ Nx : Hp → Prop, (∀ Hb, Nx Hb → ∃ m2, m2 < m ∧ W (i + 1) m2 Hb) ∧ ∀ x Hb, J.yld i Ha x Hb →
            gName 2 x (wipe (L2.start ["paths", "some", "path", "front"] [V.ref a]) [2]) Hb fun st2 H2 => wipe st2 [2] = wipe (L2.start ["paths", "some", "path", "front"] [V.ref a]) [2] ∧ tYes st2 H2 fun b H3 =>
              if b = true then tVar 2 st2 H3 fun y H4 => tC (.bl true) st2 H4 fun z H5 => stT D y z H5 Nx else Nx H3) := by
      intro J G wk hG D hD Qd fin
      refine dc_it wk (fun i H2 => ∃ (kvs : List (List L2.Key × V)) (ks : List Pth), Kp T0 H H2 ∧ H2 D = some (.dT kvs) ∧ kvs.map (·.1) = ks.map (List.map Sum.inr) ∧ ks.Nodup ∧ (∀ p, p ∈ ks ↔ p ∈ ps.take i) ∧ kvs.length ≤ i)
        ⟨[], [], (Kp.refl H).over hD, upd_same, rfl, List.nodup_nil, fun p => by rw [List.take_zero], Nat.le_refl _⟩ (fun i H2 _ q => ?_) (fun i x H2 H3 hi q y => ?_) (fun H2 q => ?_)
      · obtain ⟨kvs, ks, k2, _⟩ := q
        exact hG H2 k2
      · obtain ⟨kvs, ks, k2, d2, e2, nd, mm, l2⟩ := q
        obtain ⟨rfl, hx⟩ := y
        obtain ⟨p, hp, b, rfl, hb⟩ := Ps.get hps hx
        refine ⟨wipe1 _ 2 _, ?_⟩
        refine yes_ ?_
        refine ⟨_, rfl, b, kvs, p.map Sum.inr, rfl, ?_, d2, by omega, ?_⟩
        · rw [List.map_map]
          exact k2.at0 hb
        · obtain ⟨ks2, e3, nd3, m3⟩ := keys_step p (.bl true) e2 nd
          refine ⟨_, ks2, k2.over hD, upd_same, e3, nd3, fun q => ?_, ?_⟩
          · rw [m3, mm, mem_take_succ hp]
          · have := length_putK kvs (p.map Sum.inr) (.bl true)
            omega
      · obtain ⟨kvs, ks, k2, d2, e2, nd, mm, l2⟩ := q
        refine fin H2 kvs ks k2 d2 e2 nd (fun p => ?_) l2
        have lp : ps.length = xs.length := (Paired.length hps).symm
        rw [mm, ← lp, List.take_length]
    have read : ∀ Q0 : VK, (∀ (D : Addr) (H2 : Hp) (kvs : List (List L2.Key × V)) (ks : List Pth), H D = none → Kp T0 H H2 → H2 D = some (.dT kvs) → kvs.map (·.1) = ks.map (List.map Sum.inr) → ks.Nodup → (∀ p, p ∈ ks ↔ p ∈ ps) → kvs.length ≤ xs.length → Q0 (.ref D) H2) →
        tDcG (.dT []) stT (fun st H R => iList K (tVar 0) st H R ∨ iTup K (tVar 0) st H R) (gName 2) tYes (tVar 2) (tC (.bl true)) [2] (L2.start ["paths", "some", "path", "front"] [V.ref a]) H Q0 := by
      intro Q0 fin
      rcases hsq with h | h
      · exact .inl ⟨_, rfl, a, rfl, ⟨xs, h⟩, fun D hD => dict _ _ walk_list (fun H2 k2 => SqL.ext h fun b o e => k2.at0 e) D hD _ fun H2 kvs ks => fin D H2 kvs ks hD⟩
      · exact .inr ⟨_, rfl, a, rfl, ⟨xs, h⟩, fun D hD => dict _ _ walk_tup (fun H2 k2 => SqT.ext h fun b o e => k2.at0 e) D hD _ fun H2 kvs ks => fin D H2 kvs ks hD⟩
    unfold tSeq tAsg tCB tCons tNil
    refine read _ (fun D H2 kvs ks hD k2 d2 e2 nd mm l2 => ?_)
    have okk : ∀ p ∈ ks, OkP p ∧ p ≠ [] := fun p hp => okp p ((mm p).mp hp)
    refine ⟨D, kvs, ks, rfl, d2, e2, fun p hp => (okk p hp).2, fun bs l perm srt hat hl => ?_⟩
    -- some: the list at l
    have kl : Kp T0 H2 (upd H2 l (.lst (bs.map fun b => V.ref b.1))) := (Kp.refl H2).new hl
    generalize eH : upd H2 l (.lst (bs.map fun b => V.ref b.1)) = H3 at kl
    have dl : H3 l = some (.lst (bs.map fun b => V.ref b.1)) := by rw [← eH]; exact upd_same
    have hps3 : Ps H3 (bs.map fun b => V.ref b.1) (bs.map (·.2)) := by
      have gen : ∀ cs : List (Addr × Pth), (∀ b ∈ cs, H2 b.1 = some (.tup (b.2.map V.str))) → Ps H3 (cs.map fun b => V.ref b.1) (cs.map (·.2)) := by
        intro cs
        induction cs with
        | nil => intro _; exact .nil
        | cons c cs ih => exact fun h => .cons ⟨c.1, rfl, kl.at0 (h c List.mem_cons_self)⟩ (ih fun b hb => h b (List.mem_cons_of_mem _ hb))
      exact gen bs hat
    generalize eX : (bs.map fun b => V.ref b.1) = zs at dl hps3 kl
    have nd2 : (bs.map (·.2)).Nodup := perm.nodup_iff.mpr nd
    have asc : Asc (bs.map (·.2)) := asc_of nd2 (List.pairwise_map.mpr srt)
    have same : ∀ p, p ∈ bs.map (·.2) ↔ p ∈ ps := fun p => perm.mem_iff.trans (mm p)
    have lz : zs.length ≤ xs.length := by
      have h1 := Paired.length hps3
      have h2 := perm.length_eq
      have h3 := congrArg List.length e2
      rw [List.length_map, List.length_map] at h3
      omega
    generalize eK : bs.map (·.2) = qs at hps3 asc same
    have okq : ∀ p ∈ qs, OkP p := fun p hp => (okp p ((same p).mp hp)).1
    refine ⟨_, rfl, l, rfl, ⟨zs, SqL.of dl⟩, fun R hR => ?_⟩
    refine lc_kp (T := T0) (walk_list (xs := zs)) (i0 := 2) (fun i v => zs[i]? = some v) (fun i ys _ => ∃ rs, Ps H3 ys rs ∧ rs = (qs.take i).filter (keepP qs))
      (fun i H1 v H2 _ y => y) hR id (by omega) (wipe1 _ 2) (fun H1 k1 => SqL.of (k1.at0 dl)) ⟨[], .nil, rfl⟩ (fun i v ys H1 Ky Kn hi sx k1 _ q ky kn => ?_) (fun ys H1 k1 d1 ly q => ?_)
    · obtain ⟨p, hp, ip⟩ := Ps.get hps3 sx
      have op := okq p (List.mem_of_getElem? hp)
      refine ⟨_, rfl, l, rfl, ⟨zs, SqL.of (k1.at0 dl)⟩, fun R2 hR2 => ?_⟩
      refine lc_kp (T := T0) (walk_list (xs := zs)) (i0 := 3) (fun i v => zs[i]? = some v) (fun i ys _ => ys.length = i ∧ ∀ (j : Nat) v, ys[j]? = some v → ∃ b, v = .bl b ∧ ∃ f, qs[j]? = some f ∧ b = (decide (p ≠ f) && beginsP p f))
        (fun i H1 v H2 _ y => y) hR2 id (by omega) (wipe1 _ 3) (fun H2 k2 => SqL.of (k2.at0 (k1.at0 dl))) ⟨rfl, fun j v e => by simp at e⟩ (fun j u us H2 Ly Ln hj su k4 _ q2 ly _ => ?_) (fun us H2 k4 d4 _ q2 => ?_)
      · refine yes_ ?_
        obtain ⟨g, hg, ig⟩ := Ps.get hps3 su
        have og := okq g (List.mem_of_getElem? hg)
        have k5 := k1.trans k4
        refine ⟨_, rfl, _, rfl, dP p, dP g, (ip.keep0 k5).dp, (ig.keep0 k5).dp, shaped_dP op, shaped_dP og, _, rfl, ?_⟩
        rw [eqv_dP]
        have done : ∀ (b : Bool) H4, Kp T0 H2 H4 → b = (decide (p ≠ g) && beginsP p g) → Ly (.bl b) H4 := fun b H4 k6 e =>
          ly _ _ k6 ⟨by rw [List.length_append, q2.1]; rfl, snoc_at q2.2 ⟨b, rfl, g, by rw [q2.1]; exact hg, e⟩⟩
        by_cases e : p = g
        · rw [decide_eq_true e]
          refine iteF (done false _ (Kp.refl _) ?_)
          rw [decide_eq_false (fun z : p ≠ g => z e)] <;> rfl
        · rw [decide_eq_false e]
          refine iteT ?_
          refine ⟨_, rfl, _, rfl, v, u, p, g, rfl, ip.keep0 k5, ig.keep0 k5, op, og, fun H4 k6 => done _ _ k6 ?_⟩
          rw [decide_eq_true (show p ≠ g from e), Bool.true_and]
      · obtain ⟨cs, ec, lc, hb⟩ := bools_of q2.2
        refine ⟨R2, cs, rfl, SqL.of (by rw [d4, ec]), _, rfl, ?_⟩
        have eq : cs = qs.map fun f => decide (p ≠ f) && beginsP p f := by
          have l1 : qs.length = zs.length := (Paired.length hps3).symm
          refine List.ext_getElem (by rw [lc, q2.1, List.length_map, l1]) fun j h1 h2 => ?_
          obtain ⟨f, hf, e⟩ := hb j cs[j] (List.getElem?_eq_getElem h1)
          rw [e, List.getElem_map]
          rw [List.length_map] at h2
          rw [List.getElem?_eq_getElem h2] at hf
          rw [Option.some.inj hf]
        have ek : (!cs.any id) = keepP qs p := by
          rw [eq, List.any_map] <;> rfl
        show (if (!cs.any id) = true then tVar 2 _ H2 Ky else Kn H2)
        rw [ek]
        obtain ⟨rs, hrs, er⟩ := q
        have nx := take_succ_filter hp (keepP qs)
        cases e : keepP qs p with
        | true =>
          rw [e, if_pos rfl, ← er] at nx
          exact iteT ⟨_, rfl, ky _ _ k4 ⟨rs ++ [p], hrs.snoc ip, nx.symm⟩⟩
        | false =>
          rw [e, if_neg Bool.false_ne_true, ← er] at nx
          exact iteF (kn _ k4 ⟨rs, hrs, nx.symm⟩)
    · obtain ⟨rs, hrs, er⟩ := q
      have l1 : qs.length = zs.length := (Paired.length hps3).symm
      rw [← l1, List.take_length] at er
      subst er
      refine k H1 R ys _ ((k2.trans kl).trans k1) ?_ d1 (hrs.keep0 k1) (by omega) (canon_fewest asc same)
      exact (k2.trans kl).free hR
end
end Lw
namespace Lw
open PySem L2 Gk
abbrev sInit : Stmt := inClass (topS 14) 0
abbrev sEq : Stmt := inClass (topS 14) 4
structure TxtM (K : PySem.W.Frag) (mg : Str → Option Value) (C : Addr) : Prop where
  z_isinstance : mg "isinstance" = none
  z_tuple : mg "tuple" = none
  z_all : mg "all" = none
  cl : Cls K C
  nR : NoAttr K C "rows"
  mgC : mg "Mask" = some (.ref C)
  cha : PySem.W.findIn K (.ref C) "__class__" = some (some (.builtin "object.__class__"))
  chn : PySem.W.specialIn K (.builtin "object.__class__") "__get__" = some (some (.builtin "getset_descriptor.__get__"))
  cht : PySem.W.takesIn K (.builtin "object.__class__") = some true
  chm : PySem.W.mroIn K C (.type "object") = some true
theorem boot_tuple : bootBuiltins "tuple" = some (.type "tuple") := by decide +kernel
section
variable {P : Program} {w : World} {K : PySem.W.Frag} {mg : Str → Option Value} {base : Heap} {C : Addr}
theorem scInit : FnScope ["self", "paths", "path"] ["self", "paths"] (defScope sInit) := ⟨rfl, rfl, rfl, by decide +kernel, rfl, by decide +kernel, by decide +kernel⟩
theorem ok_init {f fR fF : Addr} {fd : FuncData} {dvs : List V} (F : FunD K "__init__" "Mask.__init__" (defArgs sInit) (defBody sInit) (defScope sInit) dvs [] f fd) (T : TxtM K mg C)
    (DR : Df P w K mg base 3 fR "is_row" ["value"] (spIsRow K)) (DF : Df P w K mg base 2 fF "fewest" ["paths"] (spFewest K)) : FnOk P w K mg base CX0 4 f fd ["self", "paths"] (spInit K C) := by
  refine F.ok scInit (fun vs H Q E h => ?_) (fun cdv A outer s H vs Q E hr h => ?_)
  · obtain ⟨x, dx, a, xs, ps, rfl, _⟩ := h
    rfl
  · obtain ⟨x, dx, a, xs, ps, rfl, hx, hsq, lx, k⟩ := h
    refine ⟨_, PSs.nox (pss_cons (ps_for PassesOwn.never rfl (pi_or (pi_list (pv 1)) (pi_tup (pv 1))) (pg_name (i := 2) scInit.nd rfl (Or.inl rfl))
        (pss_one (ps_if (pt_not (pt_val (pe_df DR hr (by rfl) (pa_cons (pv 2) pa_nil)))) (pss_one ps_never) pss_nil)))
      (pss_one (ps_fld (pv 0) (pe_callTy call_tuple_of (by rfl) T.z_tuple boot_tuple (pa_cons (pe_df DF (hr.mono (by decide)) (by rfl) (pa_cons (pv 1) pa_nil)) pa_nil)) rfl))), ?_⟩
    have mm : xs.length < sizeLine := Nat.lt_of_le_of_lt lx most_line
    refine for_seq (T := T0) rfl hsq.1 id (fun _ st H2 => Kp T0 H H2 ∧ ∃ o : Option V, st = [some (.ref x), some (.ref a), o]) ⟨Kp.refl H, none, rfl⟩ (fun _ _ _ p => p.1) (fun i v st H2 hi p => ?_) (fun st H2 p => ?_)
    · obtain ⟨k2, o, rfl⟩ := p
      obtain ⟨p, hp, ip⟩ := Ps.get hsq.2.1 hi
      obtain ⟨o1, o2⟩ := hsq.2.2 p (List.mem_of_getElem? hp)
      refine ⟨_, rfl, ?_⟩
      dsimp only [tNil]
      refine row_of (ip.keep0 k2) o1 o2 fun H3 k3 => ⟨true, rfl, ?_⟩
      exact iteF ⟨k2.trans k3, some v, rfl⟩
    · obtain ⟨k2, o, rfl⟩ := p
      refine ⟨_, rfl, a, xs, ps, rfl, hsq.keep0 k2, mm, fun H3 l ys qs k3 hl dl hys ly c => ?_⟩
      refine ⟨l, ys, rfl, .inl ⟨SqL.of dl, fun r hr0 => ?_⟩⟩
      have k4 : Kp T0 H (upd H3 r (.tup ys)) := (k2.trans k3).new hr0
      refine ⟨_, rfl, x, C, dx, [], rfl, k4.at0 hx, T.cl, T.nR, (by show 0 < 1000; decide), ?_⟩
      rw [putF_nil]
      have nrx : r ≠ x := fun z => by
        have q := (k2.trans k3).at0 hx
        rw [← z, hr0] at q
        cases q
      refine k _ qs (k4.wide.put rfl) ⟨x, dx, r, ys, rfl, upd_same, ?_, ?_, by omega, fun q hq => hsq.2.2 q (c.sub hq), ps, c⟩ ?_ c
      · rw [upd_ne nrx, upd_same]
      · refine hys.keep (T := fun b => b = x) ((Kp.refl H3).new hr0 |>.put rfl) fun b o e q z => ?_
        subst e
        rw [(k2.trans k3).at0 hx] at q
        cases q
        exact fun e => nomatch e
      · rw [← Paired.length hys]
        exact ly
theorem scEq : FnScope ["self", "other"] ["self", "other"] (defScope sEq) := ⟨rfl, rfl, rfl, by decide +kernel, rfl, by decide +kernel, by decide +kernel⟩
theorem ok_eq {f : Addr} {fd : FuncData} (F : Fun K "__eq__" "Mask.__eq__" sEq f fd) (T : TxtM K mg C) : FnOk P w K mg base CX0 1 f fd ["self", "other"] (spEqM C) := by
  refine F.ok scEq (fun vs H Q E h => ?_) (fun cdv A outer s H vs Q E hr h => ?_)
  · obtain ⟨v, u, qs, rs, rfl, _⟩ := h
    rfl
  · obtain ⟨v, u, qs, rs, rfl, ⟨x, dx, r, ys, rfl, hx, hr1, hp, l, o, c⟩, ⟨x2, dx2, r2, ys2, rfl, hx2, hr2, hp2, l2, o2, c2⟩, k⟩ := h
    refine ⟨_, pss_one (ps_ret (pe_and (pe_callB call_isi (by rfl) T.z_isinstance (by decide +kernel) (pa_cons (pv 1) (pa_cons (pe_glob (v := .ref C) (by rfl) T.mgC rfl) pa_nil)))
      (pe_one (pe_cmpR (op_eqD hr.units) (pe_fld (pv 0) rfl) (pe_fld (pv 1) rfl) (nomark _))))), ?_⟩
    refine ⟨_, rfl, _, _, _, _, true, rfl, .own C, .base (.ins hx2 T.cl T.cha T.chn T.cht T.chm), if_pos (beq_self_eq_true _), true, rfl, ?_⟩
    refine iteT ?_
    refine ⟨_, rfl, x, C, dx, _, _, rfl, hx, T.cl, T.nR, rfl, _, rfl, x2, C, dx2, _, _, rfl, hx2, T.cl, T.nR, rfl, ?_⟩
    refine ⟨dM qs, dM rs, .tup (SqT.of hr1) hp.dp, .tup (SqT.of hr2) hp2.dp, shaped_dM fun p h => (o p h).1, shaped_dM fun p h => (o2 p h).1, ?_⟩
    rw [eqv_dM]
    exact k
end
end Lw
namespace Lw
open PySem L2 Gk
/-- the class may be made -/
structure MkM (P : Program) (w : World) (K : PySem.W.Frag) (mg : Str → Option Value) (base : Heap) (C : Addr) : Prop where
  ex : ∃ fI fd, Mk K C fI ∧ FnOk P w K mg base CX0 4 fI fd ["self", "paths"] (spInit K C) ∧ Binds K fd ["self", "paths"] []
theorem pe_mask {X : Cx} {C : Addr} {p pos : Pos} {e : Expr} {es : List Expr} {t : TA} (M : MkM X.prog X.w X.K X.mg X.base C) (hr : Room 5 X.A) (hg : Gl X "Mask") (hm : X.mg "Mask" = some (.ref C)) (ha : PA X (e :: es) t)
    (he : starEach (e :: es) X.env = (false, eval e X.env) :: starEach es X.env := by rfl) (hpl : (backTo pos (starEach es X.env)).any (·.1) = false := by rfl) : PE X (.Call (.Name "Mask" p) (e :: es) [] pos) (tMake C (spInit X.K C) [] E0 t) := by
  obtain ⟨fI, fd, M, F, b⟩ := M.ex
  exact pe_make M F hr hg hm b .nil pass0 ha (by decide) he hpl
/-- the class may be made by its default (the empty tuple at e0) -/
structure MkD (P : Program) (w : World) (K : PySem.W.Frag) (mg : Str → Option Value) (base : Heap) (C : Addr) : Prop where
  ex : ∃ fI fd e0 ds, Mk K C fI ∧ FnOk P w K mg base CX0 4 fI fd ["self", "paths"] (spInit K C) ∧ Binds K fd ["self", "paths"] ds ∧ Vals [V.ref e0] ds ∧ ∀ H : Hp, SqT K H e0 []
/-- the class may be made with paths= -/
structure MkK (P : Program) (w : World) (K : PySem.W.Frag) (mg : Str → Option Value) (base : Heap) (C : Addr) : Prop where
  ex : ∃ fI fd, Mk K C fI ∧ FnOk P w K mg base CX0 4 fI fd ["self", "paths"] (spInit K C) ∧ KBn K fd ["self", "paths"] 1 ["paths"] (fun us ws => us ++ ws) (fun vs zs => vs ++ zs)
theorem pe_mask0 {X : Cx} {C : Addr} {p pos : Pos} (M : MkD X.prog X.w X.K X.mg X.base C) (hr : Room 5 X.A) (hg : Gl X "Mask") (hm : X.mg "Mask" = some (.ref C)) :
    ∃ e0 : Addr, (∀ H : Hp, SqT X.K H e0 []) ∧ PE X (.Call (.Name "Mask" p) [] [] pos) (tMake C (spInit X.K C) [.ref e0] E0 tNil) := by
  obtain ⟨fI, fd, e0, ds, M, F, b, v, q⟩ := M.ex
  exact ⟨e0, q, pe_make0 M F hr hg hm b v pass0⟩
theorem pe_maskK {X : Cx} {C : Addr} {p pos kp : Pos} {e : Expr} {te : TE} (M : MkK X.prog X.w X.K X.mg X.base C) (hr : Room 5 X.A) (hg : Gl X "Mask") (hm : X.mg "Mask" = some (.ref C)) (he : PE X e te) :
    PE X (.Call (.Name "Mask" p) [] [⟨some "paths", e, kp⟩] pos) (tMakeK C 0 1 (spInit X.K C) (fun vs zs => vs ++ zs) E0 tNil (tCons te tNil)) := by
  obtain ⟨fI, fd, M, F, b⟩ := M.ex
  exact pe_makeK0 (ks := ["paths"]) M F hr hg hm b pass0 (pk_cons he pk_nil)
theorem mask_none {K : PySem.W.Frag} {H : Hp} {a : Addr} (h : SqT K H a []) : SqP K H a [] [] := ⟨.inr h, .nil, fun _ z => nomatch z⟩
theorem mask_new {K : PySem.W.Frag} {C : Addr} {H : Hp} {a : Addr} {xs : List V} {ps : List Pth} {R : Addr → Hp → Prop} {E : XK} (hs : SqP K H a xs ps) (l : xs.length ≤ MOST)
    (h : ∀ H2 x qs, Kp T0 H H2 → IsM C H2 (.ref x) qs → qs.length ≤ xs.length → Canon ps qs → R x H2) :
    ∀ x dx, H x = none → H dx = none → dx ≠ x → spInit K C [.ref x, .ref a] (upd (upd H dx (.own x)) x (.ins C dx [])) (fun v H2 => v = .non ∧ R x H2) E := by
  intro x dx nx nd ne
  exact ⟨x, dx, a, xs, ps, rfl, upd_same, hs.keep0 (Kp.mk nx nd), l, fun H2 qs k m lq c => ⟨rfl, h H2 _ qs (Kp.made nx nd k) m lq c⟩⟩
theorem isM_at {C : Addr} {H : Hp} {x : Addr} {qs : List Pth} (h : IsM C H (.ref x) qs) : ∃ dx r, H x = some (.ins C dx [("rows", .ref r)]) := by
  obtain ⟨_, dx, r, _, e, hx, _⟩ := h
  cases e
  exact ⟨dx, r, hx⟩
end Lw
namespace Lw
open PySem L2 Gk
abbrev sTape : Stmt := topS 16
abbrev sPick : Stmt := topS 17
abbrev sOneOf : Stmt := topS 18
abbrev sPath : Stmt := topS 20
abbrev sDrawn : Stmt := topS 24
abbrev NM : List Str := ["a", "b", "aa", "m"]
structure TxtT (mg : Str → Option Value) : Prop where
  z_int : mg "int" = none
  z_len : mg "len" = none
  z_range : mg "range" = none
  z_tuple : mg "tuple" = none
theorem boot_int : bootBuiltins "int" = some (.type "int") := by decide +kernel
theorem boot_tuple6 : bootBuiltins "tuple" = some (.type "tuple") := by decide +kernel
section
variable {P : Program} {w : World} {K : PySem.W.Frag} {mg : Str → Option Value} {base : Heap}
theorem scTape : FnScope ["script", "start", "mixed", "cell", "digits"] ["script", "start"] (defScope sTape) := ⟨rfl, rfl, rfl, by decide +kernel, rfl, by decide +kernel, by decide +kernel⟩
theorem ok_tape {f : Addr} {fd : FuncData} (F : Fun K "_law_tape" "_law_tape" sTape f fd) (T : TxtT mg) : FnOk P w K mg base CX0 1 f fd ["script", "start"] (spTape K) := by
  refine F.ok scTape (fun vs H Q E h => ?_) (fun cdv A outer s H vs Q E hr h => ?_)
  · obtain ⟨a, ns, st, rfl, _⟩ := h
    rfl
  · obtain ⟨a, ns, st, rfl, hs, ln, hb, s0, s1, k⟩ := h
    refine ⟨_, pss_cons (ps_set (i := 2) scTape.nd rfl (Or.inl rfl) (pe_op op_add pe_int (pe_op op_mul (pv 1) pe_int)))
      (pss_cons (ps_for PassesOwn.never rfl (pi_list (pv 0)) (pg_name (i := 3) scTape.nd rfl (Or.inl rfl))
        (pss_one (ps_set (i := 2) scTape.nd rfl (Or.inl rfl) (pe_op op_add (pe_op op_mod (pe_callTy call_int1 (by rfl) T.z_int boot_int (pa_cons
          (pe_op op_powB (pe_op op_add (pe_op op_add (pe_op op_mul (pv 2) pe_int) (pe_op op_mulB (pv 3) (pv 3))) pe_int) pe_int) pa_nil)) pe_int) pe_int))))
      (pss_cons (ps_set (i := 4) scTape.nd rfl (Or.inl rfl) (pe_ifExp (PW.pt (pw_and (pt_cmpR op_lt (pv 1) (pe_callB call_len (by rfl) T.z_len PySem.boot_len (pa_cons (pv 0) pa_nil)) (nomark _))
          (pw_and1 (pt_cmpR op_ge (pe_ix ix_list (pv 0) (pv 1) (fun _ _ => rfl)) (pe_op op_pow pe_int pe_int) (nomark _)))))
          (pe_op op_sub (pe_ix ix_list (pv 0) (pv 1) (fun _ _ => rfl)) (pe_op op_pow pe_int pe_int)) pe_int))
      (pss_one (ps_ret (pe_disp (pps_cons pe_str (pv 4) (pps_cons pe_str (pv 2) pps_nil)) (by rfl) (by rfl) (fun z => by cases z) (by decide)))))), ?_⟩
    have small : ∀ x : Int, 0 ≤ x → x < 4294967296 → CMul x 30011 := fun x h0 h1 => .inl ⟨by omega, by omega⟩
    refine ⟨_, rfl, _, _, rfl, rfl, .inl ⟨by omega, by omega⟩, _, _, rfl, rfl, ?_⟩
    refine ⟨_, rfl, a, rfl, ⟨_, hs⟩, for_list (K := K) (a := a) (xs := ns.map V.int) (fun _ σ H2 => H2 = H ∧ ∃ (m : Int) (c : Option V), σ = [some (.ref a), some (.int st), some (.int m), c, none] ∧ 0 ≤ m ∧ m < 4294967296)
      ⟨rfl, _, none, rfl, by omega, by omega⟩ (fun i σ H2 _ p => by rw [p.1]; exact hs) (fun i y σ H2 hi p => ?_) (fun σ H2 p => ?_)⟩
    · obtain ⟨rfl, m, c, rfl, m0, m1⟩ := p
      obtain ⟨z, hz, rfl⟩ : ∃ z, z ∈ ns ∧ y = V.int z := by
        rw [List.getElem?_map] at hi
        cases e : ns[i]? with
        | none => rw [e] at hi; cases hi
        | some z =>
          rw [e] at hi
          exact ⟨z, List.mem_of_getElem? e, (Option.some.inj hi).symm⟩
      have bz := hb z hz
      have bs := tape_step m0 m1 bz
      have cz : CMulB z z := by unfold CMulB; omega
      have cp : CPowB (m * 30011 + z * z + 7) 2 := ⟨by decide, by omega⟩
      refine ⟨_, rfl, _, _, rfl, rfl, small m m0 m1, _, rfl, _, rfl, _, _, rfl, rfl, cz, _, _, rfl, rfl, _, _, rfl, rfl, _, _, rfl, rfl, cp, .inl ⟨_, rfl, _, _, rfl, rfl, (by show (0 : Int) < 2147483563; decide), _, _, rfl, rfl, ?_⟩⟩
      refine ⟨rfl, _, _, rfl, ?_, ?_⟩
      · have := Int.emod_nonneg ((m * 30011 + z * z + 7) ^ (2 : Int).toNat) (show (2147483563 : Int) ≠ 0 by decide)
        omega
      · have := Int.emod_lt_of_pos ((m * 30011 + z * z + 7) ^ (2 : Int).toNat) (show (0 : Int) < 2147483563 by decide)
        omega
    · obtain ⟨rfl, m, c, rfl, m0, m1⟩ := p
      have fin : ∀ d : Int, TapeOk d m → ∀ p, H2 p = none → Q (.ref p) (upd (upd H2 p (.dK [])) p (.dK (mergeK [] [(kD, .int d), (kX, .int m)]))) := by
        intro d ok p hp
        rw [upd_upd, merge_tape]
        exact k p d m hp ok
      have zero : TapeOk 0 m := ⟨Int.le_refl _, by decide, m0, m1⟩
      have pow : CPow 10 18 := ⟨by decide, by decide, by decide⟩
      refine ⟨_, rfl, _, rfl, _, ns.length, rfl, .inl ⟨_, hs, by rw [List.length_map]⟩, _, _, rfl, rfl, _, rfl, ?_⟩
      by_cases c1 : st < (ns.length : Int)
      · rw [decide_eq_true c1]
        refine iteT ?_
        obtain ⟨z, hz⟩ : ∃ z, ns[st.toNat]? = some z := ⟨_, List.getElem?_eq_getElem (by omega)⟩
        have ha : atI (ns.map V.int) st = some (.int z) := by
          have e : st = (st.toNat : Int) := by omega
          rw [e]
          exact atI_nat (by rw [List.getElem?_map, hz]; rfl)
        have bz := hb z (List.mem_of_getElem? hz)
        refine ⟨_, rfl, _, rfl, a, _, _, _, rfl, rfl, hs, ha, _, _, rfl, rfl, pow, _, _, rfl, rfl, _, rfl, ?_⟩
        by_cases c2 : (10 : Int) ^ (18 : Int).toNat ≤ z
        · rw [decide_eq_true c2]
          refine iteT ?_
          refine ⟨_, rfl, _, rfl, a, _, _, _, rfl, rfl, hs, ha, _, _, rfl, rfl, pow, _, _, rfl, rfl, ?_⟩
          refine fun p hp => ⟨_, rfl, _, rfl, upd_same, [(kD, .int (z - 10 ^ (18 : Int).toNat)), (kX, .int m)], rfl, (by show 2 ≤ 15; decide), fin _ ⟨by omega, ?_, m0, m1⟩ p hp⟩
          refine Nat.le_trans (intBits_le_of_natAbs (y := z) ?_ bz) (by decide)
          have e : (10 : Int) ^ (18 : Int).toNat = 1000000000000000000 := by decide
          rw [e] at c2 ⊢
          omega
        · rw [decide_eq_false c2]
          refine iteF ?_
          exact fun p hp => ⟨_, rfl, _, rfl, upd_same, [(kD, .int 0), (kX, .int m)], rfl, (by show 2 ≤ 15; decide), fin _ zero p hp⟩
      · rw [decide_eq_false c1]
        refine iteF ?_
        refine iteF ?_
        exact fun p hp => ⟨_, rfl, _, rfl, upd_same, [(kD, .int 0), (kX, .int m)], rfl, (by show 2 ≤ 15; decide), fin _ zero p hp⟩
theorem scPick : FnScope ["tape", "many", "found", "once"] ["tape", "many"] (defScope sPick) := ⟨rfl, rfl, rfl, by decide +kernel, rfl, by decide +kernel, by decide +kernel⟩
theorem ok_pick {f : Addr} {fd : FuncData} (F : Fun K "_law_pick" "_law_pick" sPick f fd) (T : TxtT mg) : FnOk P w K mg base CX0 1 f fd ["tape", "many"] spPick := by
  refine F.ok scPick (fun vs H Q E h => ?_) (fun cdv A outer s H vs Q E hr h => ?_)
  · obtain ⟨t, n, rfl, _⟩ := h
    rfl
  · obtain ⟨t, n, rfl, ⟨d, m, ht, ok⟩, n1, n2, k⟩ := h
    have hu := hu_of hr
    refine ⟨_, pss_cons (ps_if (pt_cmpR op_ge (pe_dget hu (pv 0) pe_str (fun _ _ => rfl)) (pv 1) (nomark _))
        (pss_cons (ps_set (i := 2) scPick.nd rfl (Or.inl rfl) (pe_op op_mod (pe_callTy call_int1 (by rfl) T.z_int boot_int (pa_cons (pe_dget hu (pv 0) pe_str (fun _ _ => rfl)) pa_nil)) (pv 1)))
          (pss_cons (ps_dput hu (pv 0) pe_str (pe_op op_fdivW (pe_dget hu (pv 0) pe_str (fun _ _ => rfl)) (pv 1)) rfl) (pss_one (ps_ret (pv 2))))) pss_nil)
      (pss_cons (ps_dput hu (pv 0) pe_str (pe_op op_mod (pe_callTy call_int1 (by rfl) T.z_int boot_int (pa_cons (pe_op op_add (pe_op op_mul (pe_dget hu (pv 0) pe_str (fun _ _ => rfl)) pe_int) pe_int) pa_nil)) pe_int) rfl)
      (pss_cons (ps_set (i := 3) scPick.nd rfl (Or.inl rfl) (pe_op op_mod (pe_callTy call_int1 (by rfl) T.z_int boot_int (pa_cons (pe_op op_pow (pe_dget hu (pv 0) pe_str (fun _ _ => rfl)) pe_int) pa_nil)) pe_int))
      (pss_one (ps_ret (pe_op op_mod (pe_callTy call_int1 (by rfl) T.z_int boot_int (pa_cons (pe_op op_fdiv (pe_op op_mod (pe_callTy call_int1 (by rfl) T.z_int boot_int (pa_cons (pe_op op_pow (pv 3) pe_int) pa_nil)) pe_int) pe_int) pa_nil)) (pv 1)))))), ?_⟩
    have np : (0 : Int) < n := by omega
    refine ⟨_, rfl, t, _, rfl, dget_d ht, _, rfl, _, _, rfl, rfl, _, rfl, ?_⟩
    by_cases c : n ≤ d
    · rw [decide_eq_true c]
      refine iteT ?_
      have cd : CDivW d n := wide_div np (b := 32) (by omega) (by decide) (by decide)
      refine ⟨_, rfl, t, _, rfl, dget_d ht, .inl ⟨_, rfl, _, rfl, _, _, rfl, rfl, np, ?_⟩⟩
      refine ⟨_, rfl, t, _, rfl, dget_d ht, _, rfl, _, _, rfl, rfl, cd, _, rfl, t, _, rfl, dput_d ht _, _, rfl, ?_⟩
      have o2 : TapeOk (d / n) m := ⟨Int.ediv_nonneg ok.d0 (by omega), Nat.le_trans (intBits_le_of_natAbs (y := d) (by have := Int.ediv_le_self n ok.d0; have := Int.ediv_nonneg ok.d0 (show 0 ≤ n by omega); omega) ok.db) (Nat.le_refl _), ok.m0, ok.m1⟩
      exact k _ _ ((Kp.refl H).put rfl) (TapeAt.put o2) (Int.emod_nonneg _ (by omega)) (Int.emod_lt_of_pos _ np)
    · rw [decide_eq_false c]
      refine iteF ?_
      have m0 := ok.m0
      have m1 := ok.m1
      refine ⟨_, rfl, t, _, rfl, dget_x ht, _, _, rfl, rfl, .inl ⟨by omega, by omega⟩, _, _, rfl, rfl, .inl ⟨_, rfl, _, _, rfl, rfl, (by show (0 : Int) < 2147483563; decide), _, rfl, t, _, rfl, dput_x ht _, ?_⟩⟩
      generalize ex : (m * 40014 + 1013) % 2147483563 = x
      have x0 : 0 ≤ x := by
        rw [← ex]
        exact Int.emod_nonneg _ (by decide)
      have x1 : x < 2147483563 := by
        rw [← ex]
        exact Int.emod_lt_of_pos _ (by decide)
      have o2 : TapeOk d x := ⟨ok.d0, ok.db, x0, by omega⟩
      refine ⟨_, rfl, t, _, rfl, dget_x upd_same, _, _, rfl, rfl, ⟨by decide, by decide, by omega⟩, .inl ⟨_, rfl, _, _, rfl, rfl, (by show (0 : Int) < 2147483399; decide), ?_⟩⟩
      generalize ey : x ^ (2 : Int).toNat % 2147483399 = y
      have y0 : 0 ≤ y := by
        rw [← ey]
        exact Int.emod_nonneg _ (by decide)
      have y1 : y < 2147483399 := by
        rw [← ey]
        exact Int.emod_lt_of_pos _ (by decide)
      refine ⟨_, rfl, _, _, rfl, rfl, ⟨by decide, by decide, by omega⟩, .inl ⟨_, rfl, _, _, rfl, rfl, (by show (0 : Int) < 998244353; decide), _, _, rfl, rfl, ⟨by decide, by decide⟩, .inl ⟨_, rfl, _, rfl, _, _, rfl, rfl, np, ?_⟩⟩⟩
      exact k _ _ ((Kp.refl H).put rfl) (TapeAt.put o2) (Int.emod_nonneg _ (by omega)) (Int.emod_lt_of_pos _ np)
theorem scOneOf : FnScope ["tape", "items"] ["tape", "items"] (defScope sOneOf) := ⟨rfl, rfl, rfl, by decide +kernel, rfl, by decide +kernel, by decide +kernel⟩
theorem ok_one_of {f fP : Addr} {fd : FuncData} (F : Fun K "_law_one_of" "_law_one_of" sOneOf f fd) (T : TxtT mg) (DP : Df P w K mg base 1 fP "_law_pick" ["tape", "many"] spPick) : FnOk P w K mg base CX0 2 f fd ["tape", "items"] (spOneOf K) := by
  refine F.ok scOneOf (fun vs H Q E h => ?_) (fun cdv A outer s H vs Q E hr h => ?_)
  · obtain ⟨t, l, xs, rfl, _⟩ := h
    rfl
  · obtain ⟨t, l, xs, rfl, ta, hl, l1, l2, k⟩ := h
    refine ⟨_, pss_one (ps_ret (pe_ix ix_list (pv 1) (pe_df DP hr (by rfl) (pa_cons (pv 0) (pa_cons (pe_callB call_len (by rfl) T.z_len PySem.boot_len (pa_cons (pv 1) pa_nil)) pa_nil))) (fun _ _ => rfl))), ?_⟩
    refine ⟨_, rfl, _, rfl, _, rfl, _, xs.length, rfl, .inl ⟨xs, hl, rfl⟩, t, _, rfl, ta, by omega, by omega, fun H2 r k2 ta2 r0 r1 => ?_⟩
    have hx : xs[r.toNat]? = some (xs[r.toNat]'(by omega)) := List.getElem?_eq_getElem _
    have er : r = (r.toNat : Int) := by omega
    refine ⟨l, xs, r, _, rfl, rfl, sqL_tape ta hl k2, (by rw [er]; exact atI_nat hx), k H2 _ k2 ta2 (List.getElem_mem _)⟩
theorem scPath : FnScope ["tape", "many", "turn"] ["tape"] (defScope sPath) := ⟨rfl, rfl, rfl, by decide +kernel, rfl, by decide +kernel, by decide +kernel⟩
theorem ok_path {f fP fO : Addr} {fd : FuncData} (F : Fun K "_law_path" "_law_path" sPath f fd) (T : TxtT mg) (DP : Df P w K mg base 1 fP "_law_pick" ["tape", "many"] spPick) (DO : Df P w K mg base 2 fO "_law_one_of" ["tape", "items"] (spOneOf K)) :
    FnOk P w K mg base CX0 3 f fd ["tape"] (spPath NM) := by
  refine F.ok scPath (fun vs H Q E h => ?_) (fun cdv A outer s H vs Q E hr h => ?_)
  · obtain ⟨t, rfl, _⟩ := h
    rfl
  · obtain ⟨t, rfl, ta, k⟩ := h
    refine ⟨_, pss_cons (ps_set (i := 1) scPath.nd rfl (Or.inl rfl) (pe_op op_add pe_int (pe_df DP (hr.mono (by decide)) (by rfl) (pa_cons (pv 0) (pa_cons pe_int pa_nil)))))
      (pss_one (ps_ret (pe_callTy call_tuple_of (by rfl) T.z_tuple boot_tuple6 (pa_cons (pe_lc (own := [("turn", 2)]) (g := gName 2) (tt := tYes) rfl scPath.nd (pi_range1 (by rfl) T.z_range (pa_cons (pv 1) pa_nil))
        (blkOk_by (N := ["tape", "many", "turn"]) (sc := defScope sPath) (by decide +kernel)) (fun _ _ _ _ _ => pg_name (i := 2) scPath.nd rfl (Or.inl rfl)) (fun _ _ _ _ _ => pts_nil)
        (fun _ _ _ _ _ => pe_df DO hr (by rfl) (pa_cons (pv 0) (pa_cons (pe_lst (pa_cons pe_str (pa_cons pe_str (pa_cons pe_str (pa_cons pe_str pa_nil))))) pa_nil)))) pa_nil)))), ?_⟩
    refine ⟨_, rfl, t, 3, rfl, ta, by decide, by decide, fun H1 r k1 ta1 r0 r1 => ?_⟩
    refine ⟨_, _, rfl, rfl, ?_⟩
    refine ⟨_, rfl, 1 + r, rfl, by omega, by omega, fun D hD => ?_⟩
    refine lc_kp (T := At t) walk_range (i0 := 2) (fun i v => v = .int (0 + (i : Int))) (fun i ys H2 => TapeAt H2 t ∧ ∃ p : Pth, ys = p.map V.str ∧ p.length = i ∧ ∀ x ∈ p, x ∈ NM)
      (fun i H1 v H2 _ y => y) hD (tape_fresh ta1 hD) (by rw [PySem.sizeLine_eq]; omega) (wipe1 _ 2) (fun _ _ => True.intro) ⟨ta1.new hD, [], rfl, rfl, fun _ h => nomatch h⟩ (fun i u ys H2 Ky Kn hi sx k2 d2 q ky _ => ?_) (fun ys H2 k2 d2 _ q => ?_)
    · obtain ⟨ta2, p, ep, lp, mp⟩ := q
      refine yes_ ?_
      refine ⟨_, rfl, (by show 4 ≤ sizeLine; rw [PySem.sizeLine_eq]; decide), fun l hl => ?_⟩
      have kl : Kp (At t) H2 (upd H2 l (.lst (NM.map V.str))) := (Kp.refl H2).new hl
      refine ⟨t, l, NM.map V.str, rfl, ta2.new hl, SqL.of upd_same, by decide, by decide, fun H3 x k3 ta3 mx => ?_⟩
      obtain ⟨z, hz, rfl⟩ := List.mem_map.mp mx
      have tD : ¬ At t D := tape_fresh ta1 hD
      refine ky _ _ (kl.trans k3) ⟨ta3.over tD, p ++ [z], ?_, by rw [List.length_append, lp]; rfl, ?_⟩
      · rw [ep, List.map_append]
        rfl
      · intro x hx
        rcases List.mem_append.mp hx with h | h
        · exact mp x h
        · rw [List.mem_singleton.mp h]
          exact hz
    · obtain ⟨ta2, p, ep, lp, mp⟩ := q
      refine ⟨D, ys, rfl, .inl ⟨SqL.of d2, fun l hl => ?_⟩⟩
      refine k _ _ p ((k1.trans k2).new hl) (ta2.new hl) ⟨l, rfl, by rw [upd_same, ep]⟩ ⟨?_, ?_, mp⟩
      · rw [lp]
        omega
      · rw [lp]
        omega
theorem scDrawn : FnScope ["tape", "turn"] ["tape"] (defScope sDrawn) := ⟨rfl, rfl, rfl, by decide +kernel, rfl, by decide +kernel, by decide +kernel⟩
theorem ok_drawn {f fP fQ : Addr} {fd : FuncData} (F : Fun K "_law_drawn" "_law_drawn" sDrawn f fd) (T : TxtT mg) (DP : Df P w K mg base 1 fP "_law_pick" ["tape", "many"] spPick) (DQ : Df P w K mg base 3 fQ "_law_path" ["tape"] (spPath NM)) :
    FnOk P w K mg base CX0 4 f fd ["tape"] (spDrawn NM) := by
  refine F.ok scDrawn (fun vs H Q E h => ?_) (fun cdv A outer s H vs Q E hr h => ?_)
  · obtain ⟨t, rfl, _⟩ := h
    rfl
  · obtain ⟨t, rfl, ta, k⟩ := h
    refine ⟨_, pss_one (ps_ret (pe_lc (own := [("turn", 1)]) (g := gName 1) (tt := tYes) rfl scDrawn.nd (pi_range1 (by rfl) T.z_range (pa_cons (pe_df DP (hr.mono (by decide)) (by rfl) (pa_cons (pv 0) (pa_cons pe_int pa_nil))) pa_nil))
        (blkOk_by (N := ["tape", "turn"]) (sc := defScope sDrawn) (by decide +kernel)) (fun _ _ _ _ _ => pg_name (i := 1) scDrawn.nd rfl (Or.inl rfl)) (fun _ _ _ _ _ => pts_nil)
        (fun _ _ _ _ _ => pe_df DQ hr (by rfl) (pa_cons (pv 0) pa_nil)))), ?_⟩
    refine ⟨_, rfl, t, 7, rfl, ta, by decide, by decide, fun H1 r k1 ta1 r0 r1 => ?_⟩
    refine ⟨r, rfl, by omega, by omega, fun D hD => ?_⟩
    have tD : ¬ At t D := tape_fresh ta1 hD
    refine lc_kp (T := At t) walk_range (i0 := 1) (fun i v => v = .int (0 + (i : Int))) (fun i ys H2 => TapeAt H2 t ∧ ∃ ps : List Pth, Ps H2 ys ps ∧ ∀ p ∈ ps, Drawn NM p)
      (fun i H1 v H2 _ y => y) hD tD (by rw [PySem.sizeLine_eq]; omega) (wipe1 _ 1) (fun _ _ => True.intro) ⟨ta1.new hD, [], .nil, fun _ h => nomatch h⟩ (fun i u ys H2 Ky Kn hi sx k2 d2 q ky _ => ?_) (fun ys H2 k2 d2 ly q => ?_)
    · obtain ⟨ta2, ps, hp, op⟩ := q
      refine yes_ ?_
      refine ⟨_, rfl, t, rfl, ta2, fun H3 v p k3 ta3 ip gp => ?_⟩
      have d3 := k3 D _ tD d2
      have kD : Kp (At D) H3 (upd H3 D (.lst (ys ++ [v]))) := (Kp.refl H3).put rfl
      have loose : ∀ a o, At D a → H3 a = some o → ∀ xs, o ≠ .tup xs := by
        intro a o e h
        rw [show a = D from e, d3] at h
        cases h
        exact fun _ e => nomatch e
      refine ky _ _ k3 ⟨ta3.over tD, ps ++ [p], ((hp.tape k3 ta2).snoc ip).keep kD loose, fun q hq => ?_⟩
      rcases List.mem_append.mp hq with h | h
      · exact op q h
      · rw [List.mem_singleton.mp h]
        exact gp
    · obtain ⟨ta2, ps, hp, op⟩ := q
      have nD : H D = none := by
        cases e : H D with
        | none => rfl
        | some o => rw [k1 D o tD e] at hD; cases hD
      exact k H2 D ys ps (k1.trans k2) ta2 nD d2 hp (by omega) op
end
end Lw
namespace Lw
open PySem L2 Gk
abbrev sLen : Stmt := inClass (topS 14) 2
abbrev sHas : Stmt := inClass (topS 14) 3
abbrev sPaths : Stmt := inClass (topS 14) 1
theorem boot_list : bootBuiltins "list" = some (.type "list") := by decide +kernel
section
variable {P : Program} {w : World} {K : PySem.W.Frag} {mg : Str → Option Value} {base : Heap} {C : Addr}
theorem scLen : FnScope ["self"] ["self"] (defScope sLen) := ⟨rfl, rfl, rfl, by decide +kernel, rfl, by decide +kernel, by decide +kernel⟩
theorem ok_len {f : Addr} {fd : FuncData} (F : Fun K "__len__" "Mask.__len__" sLen f fd) (T : TxtM K mg C) (zl : mg "len" = none) : FnOk P w K mg base CX0 1 f fd ["self"] (spLenM C) := by
  refine F.ok scLen (fun vs H Q E h => ?_) (fun cdv A outer s H vs Q E hr h => ?_)
  · obtain ⟨v, qs, rfl, _⟩ := h
    rfl
  · obtain ⟨v, qs, rfl, ⟨x, dx, r, ys, rfl, hx, hr1, hp, l, o, c⟩, k⟩ := h
    refine ⟨_, pss_one (ps_ret (pe_callB call_len (by rfl) zl PySem.boot_len (pa_cons (pe_fld (pv 0) rfl) pa_nil))), ?_⟩
    refine ⟨_, rfl, x, C, dx, _, _, rfl, hx, T.cl, T.nR, rfl, _, qs.length, rfl, .inr ⟨ys, SqT.of hr1, (Paired.length hp).symm⟩, k⟩
theorem scPaths : FnScope ["self"] ["self"] (defScope sPaths) := ⟨rfl, rfl, rfl, by decide +kernel, rfl, by decide +kernel, by decide +kernel⟩
theorem ok_paths {f : Addr} {fd : FuncData} (F : Fun K "paths" "Mask.paths" sPaths f fd) (T : TxtM K mg C) (zl : mg "list" = none) : FnOk P w K mg base CX0 1 f fd ["self"] (spPathsM C) := by
  refine F.ok scPaths (fun vs H Q E h => ?_) (fun cdv A outer s H vs Q E hr h => ?_)
  · obtain ⟨v, qs, rfl, _⟩ := h
    rfl
  · obtain ⟨v, qs, rfl, ⟨x, dx, r, ys, rfl, hx, hr1, hp, l, o, c⟩, k⟩ := h
    refine ⟨_, pss_one (ps_ret (pe_callTy call_list_of (by rfl) zl boot_list (pa_cons (pe_fld (pv 0) rfl) pa_nil))), ?_⟩
    exact ⟨_, rfl, x, C, dx, _, _, rfl, hx, T.cl, T.nR, rfl, r, ys, rfl, .inr (SqT.of hr1), fun l hl => k l ys hl hp⟩
theorem scHas : FnScope ["self", "x"] ["self", "x"] (defScope sHas) := ⟨rfl, rfl, rfl, by decide +kernel, rfl, by decide +kernel, by decide +kernel⟩
theorem ok_has {f fR fC : Addr} {fd : FuncData} (F : Fun K "__contains__" "Mask.__contains__" sHas f fd) (T : TxtM K mg C) (DR : Df P w K mg base 3 fR "is_row" ["value"] (spIsRow K)) (DC : Df P w K mg base 2 fC "covers" ["paths", "path"] spCovers) :
    FnOk P w K mg base CX0 4 f fd ["self", "x"] (spInM K C) := by
  refine F.ok scHas (fun vs H Q E h => ?_) (fun cdv A outer s H vs Q E hr h => ?_)
  · obtain ⟨v, u, qs, rfl, _⟩ := h
    rfl
  · obtain ⟨v, u, qs, rfl, ⟨x, dx, r, ys, rfl, hx, hr1, hp, l, o, c⟩, k⟩ := h
    refine ⟨_, pss_one (ps_ret (pe_and (pe_df DR hr (by rfl) (pa_cons (pv 1) pa_nil)) (pe_one (pe_df DC (hr.mono (by decide)) (by rfl) (pa_cons (pe_fld (pv 0) rfl) (pa_cons (pv 1) pa_nil)))))), ?_⟩
    refine ⟨_, rfl, ?_⟩
    dsimp only [tNil]
    have mm : ys.length < sizeLine := Nat.lt_of_le_of_lt l most_line
    rcases k with ⟨p, ip, o1, o2, k⟩ | k
    · refine row_of ip o1 o2 fun H2 k2 => ⟨true, rfl, ?_⟩
      refine iteT ?_
      exact ⟨_, rfl, x, C, dx, _, _, rfl, k2.at0 hx, T.cl, T.nR, rfl, _, rfl, r, ys, qs, u, p, rfl, k2.at0 hr1, hp.keep0 k2, mm, fun q hq => (o q hq).1, ip.keep0 k2, o1, fun H3 k3 => k H3 (k2.trans k3)⟩
    · obtain ⟨v0, r0, e0, d0, k⟩ := k
      cases e0
      refine ⟨_, r0, rfl, d0, fun H2 k2 => ?_⟩
      have q2 := (k H2 k2).2
      have e1 := (k H2 k2).1
      cases e1
      exact ⟨false, rfl, iteF q2⟩
end
end Lw
namespace Lw
open PySem L2 Gk
abbrev sLBegins : Stmt := topS 21
abbrev sLCov : Stmt := topS 22
section
variable {P : Program} {w : World} {K : PySem.W.Frag} {mg : Str → Option Value} {base : Heap}
theorem scLBegins : FnScope ["path", "front"] ["path", "front"] (defScope sLBegins) := ⟨rfl, rfl, rfl, by decide +kernel, rfl, by decide +kernel, by decide +kernel⟩
theorem ok_lbegins {f : Addr} {fd : FuncData} (F : Fun K "_law_begins" "_law_begins" sLBegins f fd) (T : TxtR mg) : FnOk P w K mg base CX0 1 f fd ["path", "front"] spBegins := by
  refine F.ok scLBegins (fun vs H Q E h => ?_) (fun cdv A outer s H vs Q E hr h => ?_)
  · obtain ⟨v, u, p, f, rfl, _⟩ := h
    rfl
  · obtain ⟨v, u, p, f, rfl, ⟨a, rfl, ha⟩, ⟨b, rfl, hb⟩, op, of, k⟩ := h
    refine ⟨_, pss_one (ps_ret (pe_cmpR (op_eqD hr.units) (pe_slice sl_tupA (pv 0) po_none (po_some (pe_callB call_len (by rfl) T.z_len PySem.boot_len (pa_cons (pv 1) pa_nil)))) (pv 1) (nomark _))), ?_⟩
    have l0 : (p.map V.str).length = p.length := List.length_map _
    have fin : ∀ (c : Addr) (H2 : Hp), Kp T0 H H2 → H2 c = some (.tup ((p.take f.length).map V.str)) → rEqD K (.ref c) (.ref b) H2 Q := by
      intro c H2 k2 hc
      refine ⟨dP (p.take f.length), dP f, IsP.dp ⟨c, rfl, hc⟩, IsP.dp ⟨b, rfl, k2.at0 hb⟩, shaped_dP (op.take _), shaped_dP of, ?_⟩
      rw [eqv_dP]
      exact k H2 k2
    refine ⟨_, rfl, _, rfl, _, (f.length : Nat), rfl, .inr ⟨_, SqT.of hb, by rw [List.length_map]⟩, _, rfl, a, _, rfl, SqT.of ha, fun z => ?_, fun z c hc => ?_⟩
    · refine ⟨_, rfl, fin a H (Kp.refl H) ?_⟩
      rw [← cut_whole z.2] at ha
      rw [List.map_take]
      exact ha
    · refine ⟨_, rfl, fin c _ ((Kp.refl H).new hc) ?_⟩
      rw [upd_same, cut_take, List.map_take]
theorem scLCov : FnScope ["paths", "path", "one"] ["paths", "path"] (defScope sLCov) := ⟨rfl, rfl, rfl, by decide +kernel, rfl, by decide +kernel, by decide +kernel⟩
theorem ok_lcov {f fB : Addr} {fd : FuncData} (F : Fun K "_law_covers" "_law_covers" sLCov f fd) (DB : Df P w K mg base 1 fB "_law_begins" ["path", "front"] spBegins) : FnOk P w K mg base CX0 2 f fd ["paths", "path"] (spLCov K) := by
  refine F.ok scLCov (fun vs H Q E h => ?_) (fun cdv A outer s H vs Q E hr h => ?_)
  · obtain ⟨a, xs, ps, v, p, rfl, _⟩ := h
    rfl
  · obtain ⟨a, xs, ps, v, p, rfl, ha, hps, lx, ops, hv, op, k⟩ := h
    refine ⟨_, pss_one (ps_ret (pe_cmpR (op_neD hr.units) (pe_lc (own := [("one", 2)]) (g := gName 2) (tt := tB (tCall spBegins [] E0 (tCons (tVar 1) (tCons (tVar 2) tNil)))) rfl scLCov.nd (pi_list (pv 0))
        (blkOk_by (N := ["paths", "path", "one"]) (sc := defScope sLCov) (by decide +kernel)) (fun _ _ _ _ _ => pg_name (i := 2) scLCov.nd rfl (Or.inl rfl))
        (fun _ _ _ _ _ => pts_one (pt_val (pe_df DB hr (by rfl) (pa_cons (pv 1) (pa_cons (pv 2) pa_nil))))) (fun _ _ _ _ _ => pv 2)) (pe_lst pa_nil) (nomark _))), ?_⟩
    have mm : xs.length < sizeLine := Nat.lt_of_le_of_lt lx most_line
    refine ⟨_, rfl, a, rfl, ⟨xs, ha⟩, fun D hD => ?_⟩
    refine lc_kp (T := T0) walk_list (i0 := 2) (fun i v => xs[i]? = some v) (fun i us H2 => ∃ ts, Ps H2 us ts ∧ ts = (ps.take i).filter (beginsP p))
      (fun i H1 v H2 _ y => y) hD id mm (wipe1 _ 2) (fun H1 k1 => sqL_at ha k1 id) ⟨[], .nil, rfl⟩ (fun i u us H1 Ky Kn hi sx k1 d1 q ky kn => ?_) (fun us H1 k1 d1 ly q => ?_)
    · obtain ⟨g, hg, ig⟩ := Ps.get hps sx
      obtain ⟨ts, hts, et⟩ := q
      refine ⟨_, rfl, _, rfl, v, u, p, g, rfl, hv.keep0 k1, ig.keep0 k1, op, ops g (List.mem_of_getElem? hg), fun H3 k3 => ⟨_, rfl, ?_⟩⟩
      have nx := take_succ_filter hg (beginsP p)
      cases e : beginsP p g with
      | true =>
        rw [e, if_pos rfl, ← et] at nx
        refine iteT ⟨_, rfl, ky _ _ k3 ⟨ts ++ [g], ?_, nx.symm⟩⟩
        exact ((hts.keep0 k3).snoc (ig.keep0 (k1.trans k3))).keep (T := At D) ((Kp.refl _).put rfl) fun b o e q => (loose_lst (k3.at0 d1) b o e q).1
      | false =>
        rw [e, if_neg Bool.false_ne_true, ← et] at nx
        exact iteF (kn _ k3 ⟨ts, hts.keep0 k3, nx.symm⟩)
    · obtain ⟨ts, hts, et⟩ := q
      have l1 : ps.length = xs.length := (Paired.length hps).symm
      rw [← l1, List.take_length] at et
      subst et
      refine ⟨Nat.zero_le _, fun b hb => ?_⟩
      have kb : Kp T0 H1 (upd H1 b (.lst [])) := (Kp.refl H1).new hb
      refine ⟨dL (ps.filter (beginsP p)), dL [], .lst (SqL.of (kb.at0 d1)) (hts.keep0 kb).dp, .lst (SqL.of upd_same) .nil, shaped_dL fun q hq => ops q (List.mem_filter.mp hq).1, shaped_dL (fun q hq => nomatch hq), ?_⟩
      have e2 : PyData.eqv (dL (ps.filter (beginsP p))) (dL []) = (ps.filter (beginsP p)).isEmpty := by
        rw [eqv_dL]
        cases ps.filter (beginsP p) <;> rfl
      rw [e2, cov_any]
      exact k _ (k1.trans kb)
end
end Lw
namespace Lw
open PySem L2 Gk
theorem nodup_le {α : Type} [DecidableEq α] : ∀ {l m : List α}, l.Nodup → (∀ q ∈ l, q ∈ m) → l.length ≤ m.length
  | [], _, _, _ => Nat.zero_le _
  | a :: l, m, nd, h => by
    have am := h a (List.mem_cons_self ..)
    have nd' := List.nodup_cons.mp nd
    have := nodup_le (l := l) (m := m.erase a) nd'.2 fun q mq => (List.mem_erase_of_ne (by rintro rfl; exact nd'.1 mq)).mpr (h q (List.mem_cons_of_mem _ mq))
    rw [List.length_erase_of_mem am] at this
    have pos : 0 < m.length := List.length_pos_of_mem am
    rw [List.length_cons]; omega
abbrev sLFew : Stmt := topS 23
structure TxtS (mg : Str → Option Value) : Prop where
  z_sorted : mg "sorted" = none
  z_set : mg "set" = none
section
variable {P : Program} {w : World} {K : PySem.W.Frag} {mg : Str → Option Value} {base : Heap}
theorem scLFew : FnScope ["paths", "found", "path"] ["paths"] (defScope sLFew) := ⟨rfl, rfl, rfl, by decide +kernel, rfl, by decide +kernel, by decide +kernel⟩
theorem ok_lfew {f fC : Addr} {fd : FuncData} (F : Fun K "_law_fewest" "_law_fewest" sLFew f fd) (T : TxtS mg) (DC : Df P w K mg base 2 fC "_law_covers" ["paths", "path"] (spLCov K)) : FnOk P w K mg base CX0 3 f fd ["paths"] (spLFew K) := by
  refine F.ok scLFew (fun vs H Q E h => ?_) (fun cdv A outer s H vs Q E hr h => ?_)
  · obtain ⟨a, bs, rfl, _⟩ := h
    rfl
  · obtain ⟨a, bs, rfl, ha, hb, ok, few, k⟩ := h
    refine ⟨_, pss_cons (ps_set (i := 1) scLFew.nd rfl (Or.inl rfl) (pe_lst pa_nil))
      (pss_cons (ps_for PassesOwn.never rfl (pi_list (pe_sortSet (by rfl) hr.units (by rfl) T.z_sorted (by rfl) T.z_set (pv 0))) (pg_name (i := 2) scLFew.nd rfl (Or.inl rfl))
        (pss_one (ps_if (pt_not (pt_val (pe_df DC hr (by rfl) (pa_cons (pv 1) (pa_cons (pv 2) pa_nil))))) (pss_one (ps_expr (pe_bm PySem.F.plainAttrs_list PySem.F.slot_list_append PySem.F.type_list_append mt_append (pv 1) (pa_cons (pv 2) pa_nil)))) pss_nil)))
      (pss_one (ps_ret (pv 1)))), ?_⟩
    have hz : (16777216 : Nat) = PySem.sizeLine := PySem.sizeLine_eq.symm
    refine ⟨Nat.zero_le _, fun l hl => ?_⟩
    have kl := (Kp.refl (T := T0) H).new (o := .lst []) hl
    refine ⟨_, rfl, a, bs, rfl, sqL_at ha kl id, (fun b m => kl.at0 (hb b m)), (fun b m => (ok b m).2), few, fun cs p nd sub all srt fc np => ?_⟩
    have nl : l ≠ p := ne_of_none upd_same np
    have kp : Kp T0 H (upd (upd H l (.lst [])) p (.lst (cs.map fun b => V.ref b.1))) := kl.new np
    have asc : Asc (cs.map (·.2)) := asc_rows nd srt
    have hc : ∀ b ∈ cs, H b.1 = some (.tup (b.2.map V.str)) := fun b m => hb b (sub b m)
    refine ⟨p, rfl, ⟨_, SqL.of upd_same⟩, ?_⟩
    -- from H, the list at l grows
    have up : ∀ {H2 : Hp}, Kp (At l) (upd (upd H l (.lst [])) p (.lst (cs.map fun b => V.ref b.1))) H2 → Kp T0 H H2 := fun {H2} k2 b o _ e => k2 b o (ne_of_none e hl) (kp b o id e)
    have okc : ∀ b ∈ cs, OkP b.2 ∧ b.2 ≠ [] := fun b m => ok b (sub b m)
    have okf : ∀ i, ∀ f ∈ ((cs.map (·.2)).take i).filter (keepP (cs.map (·.2))), OkP f := fun i f m => by
      obtain ⟨b, mb, rfl⟩ := List.mem_map.mp (List.mem_of_mem_take (List.mem_filter.mp m).1)
      exact (okc b mb).1
    refine for_it walk_list (fun i st H2 => Kp (At l) (upd (upd H l (.lst [])) p (.lst (cs.map fun b => V.ref b.1))) H2 ∧ ∃ ys o, st = [some (.ref a), some (.ref l), o] ∧ H2 l = some (.lst ys) ∧ Ps H2 ys (((cs.map (·.2)).take i).filter (keepP (cs.map (·.2)))) ∧ ys.length ≤ i)
      ⟨Kp.refl _, [], none, rfl, by rw [upd_ne nl]; exact upd_same, .nil, Nat.le_refl _⟩ (fun i st H2 _ q => SqL.of (q.1 p _ (fun z => nl z.symm) upd_same)) (fun i v st H2b H2 hi q y => ?_) (fun st H2 q => ?_)
    · obtain ⟨k2, ys, o, rfl, hy, hp, ly⟩ := q
      obtain ⟨rfl, hv⟩ := y
      rw [List.getElem?_map] at hv
      cases ec : cs[i]? with
      | none => rw [ec] at hv; cases hv
      | some c =>
        rw [ec] at hv
        obtain rfl := Option.some.inj hv
        have mc : c ∈ cs := List.mem_of_getElem? ec
        have hk : (cs.map (·.2))[i]? = some c.2 := by rw [List.getElem?_map, ec]; rfl
        have ip : IsP H2 (.ref c.1) c.2 := ⟨c.1, rfl, (up k2).at0 (hc c mc)⟩
        have il : i < cs.length := (List.getElem?_eq_some_iff.mp ec).1
        refine ⟨_, rfl, _, rfl, l, ys, _, _, c.2, rfl, SqL.of hy, hp, (by show ys.length ≤ 100000; omega), okf i, ip, (okc c mc).1, fun H3 k3 => ⟨_, rfl, ?_⟩⟩
        have nx := take_succ_filter hk (keepP (cs.map (·.2)))
        cases e : keepP (cs.map (·.2)) c.2 with
        | true =>
          rw [e, if_pos rfl] at nx
          refine Eq.mpr (congrArg (fun z : Bool => if (!z) = true then _ else _) (by rw [found_step asc hk, e] : _ = !true)) ?_
          refine iteT ?_
          refine ⟨_, rfl, .inl ⟨rfl, _, SqL.of (k3.at0 hy)⟩, _, rfl, l, ys, _, rfl, rfl, k3.at0 hy, (by omega), ?_⟩
          refine ⟨(k2.trans k3.wide).put rfl, ys ++ [.ref c.1], _, rfl, upd_same, ?_, by rw [List.length_append]; exact Nat.succ_le_succ ly⟩
          rw [nx]
          exact ((hp.keep0 k3).snoc (ip.keep0 k3)).keep (T := At l) ((Kp.refl _).put rfl) fun b o e q => (loose_lst (k3.at0 hy) b o e q).1
        | false =>
          rw [e, if_neg Bool.false_ne_true] at nx
          refine Eq.mpr (congrArg (fun z : Bool => if (!z) = true then _ else _) (by rw [found_step asc hk, e] : _ = !false)) ?_
          refine iteF ⟨k2.trans k3.wide, ys, _, rfl, k3.at0 hy, ?_, Nat.le_succ_of_le ly⟩
          rw [nx]
          exact hp.keep0 k3
    · obtain ⟨k2, ys, o, rfl, hy, hp, ly⟩ := q
      refine ⟨_, rfl, ?_⟩
      have lc : (cs.map fun b => V.ref b.1).length = (cs.map (·.2)).length := by rw [List.length_map, List.length_map]
      rw [lc, List.take_length] at hp
      refine k H2 l ys _ (up k2) hl hy hp (canon_fewest asc fun q => ⟨fun m => ?_, fun m => ?_⟩) ?_
      · obtain ⟨b, mb, rfl⟩ := List.mem_map.mp m
        exact List.mem_map.mpr ⟨b, sub b mb, rfl⟩
      · obtain ⟨b, mb, rfl⟩ := List.mem_map.mp m
        exact all b mb
      · refine Nat.le_trans ly ?_
        have sl : (cs.map (·.2)).length ≤ (bs.map (·.2)).length := nodup_le nd fun q m => by
          obtain ⟨b, mb, rfl⟩ := List.mem_map.mp m
          exact List.mem_map.mpr ⟨b, sub b mb, rfl⟩
        simpa using sl
end
end Lw
namespace Lw
open PySem L2 Gk
section
variable {P : Program} {w : World} {K : PySem.W.Frag} {mg : Str → Option Value} {base : Heap} {C : Addr}
theorem ok_eqX {f : Addr} {fd : FuncData} (F : Fun K "__eq__" "Mask.__eq__" sEq f fd) (T : TxtM K mg C) : FnOk P w K mg base CX0 1 f fd ["self", "other"] (spEqX K C) := by
  refine F.ok scEq (fun vs H Q E h => ?_) (fun cdv A outer s H vs Q E hr h => ?_)
  · obtain ⟨v, u, qs, rs, rfl, _⟩ | ⟨v, u, qs, t, rfl, _⟩ := h
    · rfl
    · rfl
  · refine ⟨_, pss_one (ps_ret (pe_and (pe_callB call_isi (by rfl) T.z_isinstance (by decide +kernel) (pa_cons (pv 1) (pa_cons (pe_glob (v := .ref C) (by rfl) T.mgC rfl) pa_nil)))
      (pe_one (pe_cmpR (op_eqD hr.units) (pe_fld (pv 0) rfl) (pe_fld (pv 1) rfl) (nomark _))))), ?_⟩
    obtain ⟨v, u, qs, rs, rfl, ⟨x, dx, r, ys, rfl, hx, hr1, hp, l, o, c⟩, ⟨x2, dx2, r2, ys2, rfl, hx2, hr2, hp2, l2, o2, c2⟩, k⟩ | ⟨v, u, qs, t, rfl, _, ty, ko, k⟩ := h
    · refine ⟨_, rfl, _, _, _, _, true, rfl, .own C, .base (.ins hx2 T.cl T.cha T.chn T.cht T.chm), if_pos (beq_self_eq_true _), true, rfl, ?_⟩
      refine iteT ?_
      refine ⟨_, rfl, x, C, dx, _, _, rfl, hx, T.cl, T.nR, rfl, _, rfl, x2, C, dx2, _, _, rfl, hx2, T.cl, T.nR, rfl, ?_⟩
      refine ⟨dM qs, dM rs, .tup (SqT.of hr1) hp.dp, .tup (SqT.of hr2) hp2.dp, shaped_dM fun p h => (o p h).1, shaped_dM fun p h => (o2 p h).1, ?_⟩
      rw [eqv_dM]
      exact k
    · exact ⟨_, rfl, _, _, _, _, false, rfl, .own C, ty, ko, false, rfl, iteF k⟩
end
end Lw
namespace Lw
open PySem L2 Gk
abbrev sShuf : Stmt := topS 19
theorem boot_list12 : bootBuiltins "list" = some (.type "list") := by decide +kernel
/-- drawn sequences of rows of paths -/
def spShuf : Sp := fun vs H Q _ => ∃ (t l : Addr) (xs : List V) (ps : List Pth), vs = [.ref t, .ref l] ∧ TapeAt H t ∧ H l = some (.lst xs) ∧ Ps H xs ps ∧ (∀ p ∈ ps, OkP p) ∧ xs.length ≤ 1000 ∧
  ∀ H2 m ys qs, Kp (At t) H H2 → TapeAt H2 t → H m = none → H2 m = some (.lst ys) → Ps H2 ys qs → qs.Perm ps → Q (.ref m) H2
theorem Ps.erase {H : Hp} : ∀ {vs : List V} {ps : List Pth} (i : Nat), Ps H vs ps → Ps H (vs.eraseIdx i) (ps.eraseIdx i)
  | _, _, _, .nil => .nil
  | _, _, 0, .cons _ t => t
  | _, _, i + 1, .cons r t => .cons r (Ps.erase i t)
theorem perm_erase : ∀ (l : List Pth) {i : Nat} (h : i < l.length), (l[i] :: l.eraseIdx i).Perm l
  | [], _, h => absurd h (Nat.not_lt_zero _)
  | a :: l, 0, _ => .refl _
  | a :: l, i + 1, h => by
    show (l[i]'(Nat.lt_of_succ_lt_succ h) :: a :: l.eraseIdx i).Perm (a :: l)
    exact (List.Perm.swap _ _ _).trans ((perm_erase l (Nat.lt_of_succ_lt_succ h)).cons a)
section
variable {P : Program} {w : World} {K : PySem.W.Frag} {mg : Str → Option Value} {base : Heap}
theorem scShuf : FnScope ["tape", "things", "left", "mixed"] ["tape", "things"] (defScope sShuf) := ⟨rfl, rfl, rfl, by decide +kernel, rfl, by decide +kernel, by decide +kernel⟩
theorem ok_shuf {f fP : Addr} {fd : FuncData} (F : Fun K "_law_shuffled" "_law_shuffled" sShuf f fd) (T : TxtT mg) (zl : mg "list" = none) (DP : Df P w K mg base 1 fP "_law_pick" ["tape", "many"] spPick) : FnOk P w K mg base CX0 2 f fd ["tape", "things"] spShuf := by
  refine F.ok scShuf (fun vs H Q E h => ?_) (fun cdv A outer s H vs Q E hr h => ?_)
  · obtain ⟨t, l, xs, ps, rfl, _⟩ := h
    rfl
  · obtain ⟨t, l, xs, ps, rfl, ta, hl, hp, ok, few, k⟩ := h
    have r1 : Room 1 _ := hr.mono (by decide)
    have hz : (16777216 : Nat) = PySem.sizeLine := PySem.sizeLine_eq.symm
    refine ⟨_, pss_cons (ps_par (i := 2) (j := 3) (by rfl) scShuf.nd rfl rfl (by decide) rfl rfl (pa_cons (pe_callTy call_list_of (by rfl) zl boot_list12 (pa_cons (pv 1) pa_nil)) (pa_cons (pe_lst pa_nil) pa_nil)) (by rfl))
      (pss_cons (ps_while PassesOwn.never (pt_cmpR (op_neD hr.units) (pv 2) (pe_lst pa_nil) (nomark _))
        (pss_one (ps_expr (pe_bm PySem.F.plainAttrs_list PySem.F.slot_list_append PySem.F.type_list_append mt_append (pv 3)
          (pa_cons (pe_bm PySem.F.plainAttrs_list PySem.F.slot_list_pop PySem.F.type_list_pop mt_popAt (pv 2)
            (pa_cons (pe_df DP r1 (by rfl) (pa_cons (pv 0) (pa_cons (pe_callB call_len (by rfl) T.z_len PySem.boot_len (pa_cons (pv 2) pa_nil)) pa_nil))) pa_nil)) pa_nil)))))
      (pss_one (ps_ret (pv 3)))), ?_⟩
    refine ⟨_, rfl, l, xs, rfl, .inl (SqL.of hl), fun a ha => ?_⟩
    refine ⟨Nat.zero_le _, fun b hb => ?_⟩
    refine ⟨_, _, rfl, ?_⟩
    have ka := (Kp.refl (T := At t) H).new (o := .lst xs) ha
    have kb := ka.new (o := .lst []) hb
    have nb : H b = none := by
      by_cases e : b = a
      · rw [e]; exact ha
      · rw [upd_ne e] at hb; exact hb
    have nba : a ≠ b := ne_of_none upd_same hb
    have tA : a ≠ t := tape_fresh ta ha
    have tB : b ≠ t := tape_fresh ta nb
    refine ⟨fun m st G => ∃ (us vs : List V) (qs rs : List Pth), m = us.length ∧ st = [some (.ref t), some (.ref l), some (.ref a), some (.ref b)] ∧ Kp (At t) H G ∧ TapeAt G t ∧ G a = some (.lst us) ∧ G b = some (.lst vs) ∧ Ps H us qs ∧ Ps H vs rs ∧ (rs ++ qs).Perm ps,
      ⟨_, xs, [], ps, [], rfl, rfl, kb, (ta.new ha).new hb, (by rw [upd_ne nba]; exact upd_same), upd_same, hp, .nil, .refl _⟩, fun m st G p => ?_⟩
    obtain ⟨us, vs, qs, rs, rfl, rfl, kG, tG, gA, gB, hU, hV, pm⟩ := p
    have lP := pm.length_eq
    rw [List.length_append] at lP
    have lx : ps.length = xs.length := (Paired.length hp).symm
    have lu : us.length = qs.length := Paired.length hU
    have lv : vs.length = rs.length := Paired.length hV
    have oq : ∀ q ∈ qs, OkP q := fun q m => ok q (pm.mem_iff.mp (List.mem_append.mpr (.inr m)))
    refine ⟨_, rfl, Nat.zero_le _, fun e he => ?_⟩
    have ke := (Kp.refl (T := T0) G).new (o := .lst []) he
    refine ⟨dL qs, dL [], .lst (SqL.of (ke.at0 gA)) ((hU.tape kG ta).keep0 ke).dp, .lst (SqL.of upd_same) .nil, shaped_dL oq, shaped_dL (fun q m => nomatch m), ?_⟩
    rw [eqv_dL]
    refine ⟨_, rfl, ?_⟩
    have tG1 := tG.keep ke
    have gA1 := ke.at0 gA
    have gB1 := ke.at0 gB
    have kG1 := kG.trans ke.wide
    by_cases c : qs = []
    · subst c
      rw [decide_eq_true rfl]
      refine iteF ?_
      refine ⟨_, rfl, ?_⟩
      rw [List.append_nil] at pm
      exact k _ b vs rs kG1 tG1 nb gB1 (hV.tape kG1 ta) pm
    · rw [decide_eq_false c]
      have pos : 0 < us.length := by rw [lu]; exact List.length_pos_iff.mpr c
      refine iteT ⟨fun st' G' => ∃ m', m' < us.length ∧ _, fun _ _ h => h, ?_⟩
      generalize upd G e (.lst []) = G1 at tG1 gA1 gB1 kG1 ⊢
      refine ⟨_, rfl, .inl ⟨rfl, _, SqL.of gB1⟩, _, rfl, .inl ⟨rfl, _, SqL.of gA1⟩, ?_⟩
      refine ⟨_, rfl, _, rfl, _, us.length, rfl, .inl ⟨us, SqL.of gA1, rfl⟩, t, _, rfl, tG1, (by omega), (by omega), fun G2 r k2 tG2 r0 r3 => ?_⟩
      have gA2 := k2 a _ tA gA1
      have gB2 := k2 b _ tB gB1
      have kG2 := kG1.trans k2
      have lt : r.toNat < us.length := by omega
      have er : r = (r.toNat : Int) := by omega
      have ltq : r.toNat < qs.length := by omega
      obtain ⟨p, hp1, ip⟩ := Ps.get hU (List.getElem?_eq_getElem lt)
      have si : seqIndex? r us.length = some r.toNat := by
        rw [er]
        unfold seqIndex?
        simp
        omega
      refine ⟨a, us, r, r.toNat, _, rfl, rfl, gA2, (by omega), (by omega), si, List.getElem?_eq_getElem lt, ?_⟩
      refine ⟨b, vs, _, rfl, rfl, (by rw [upd_ne (fun z => nba z.symm)]; exact gB2), (by omega), ?_⟩
      have ep : p = qs[r.toNat] := by
        rw [List.getElem?_eq_getElem ltq] at hp1
        exact (Option.some.inj hp1).symm
      refine ⟨(us.eraseIdx r.toNat).length, ?_, us.eraseIdx r.toNat, vs ++ [us[r.toNat]], qs.eraseIdx r.toNat, rs ++ [p], rfl, rfl, (kG2.over ha).over nb, (tG2.over (fun z => tA z)).over (fun z => tB z), (by rw [upd_ne nba]; exact upd_same), upd_same, Ps.erase _ hU, hV.snoc ip, ?_⟩
      · rw [List.length_eraseIdx_of_lt lt]
        omega
      · subst ep
        rw [List.append_assoc]
        exact ((perm_erase qs ltq).append_left rs).trans pm
end
end Lw
namespace Lw
open PySem L2 Gk
abbrev sLaw : Stmt := topS 25
structure TxtL (mg : Str → Option Value) : Prop where
  z_len : mg "len" = none
  z_max : mg "max" = none
  z_min : mg "min" = none
  z_range : mg "range" = none
  z_repr : mg "repr" = none
theorem boot_max : bootBuiltins "max" = some (.builtin "max") := by decide +kernel
theorem boot_min : bootBuiltins "min" = some (.builtin "min") := by decide +kernel
theorem boot_repr : bootBuiltins "repr" = some (.builtin "repr") := by decide +kernel
theorem andv {b c : Bool} {ta tb : TE} {σ : L2.St} {Q : VK} {H : Hp} (ha : ∀ R : VK, R (.bl b) H → ta σ H R) (hb : ∀ R : VK, R (.bl c) H → tb σ H R) (k : Q (.bl (b && c)) H) : tAndV ta tb σ H Q := ha _ ⟨b, rfl, by
  cases b with
  | true => exact hb _ k
  | false => exact k⟩
theorem orv {b c : Bool} {ta tb : TE} {σ : L2.St} {Q : VK} {H : Hp} (ha : ∀ R : VK, R (.bl b) H → ta σ H R) (hb : ∀ R : VK, R (.bl c) H → tb σ H R) (k : Q (.bl (b || c)) H) : tOrV ta tb σ H Q := ha _ ⟨b, rfl, by
  cases b with
  | true => exact k
  | false => exact hb _ k⟩
theorem if_once {b : Bool} {t u : TS} {D : Ends} {σ : L2.St} {H : Hp} (I : L2.St → Hp → Prop) (h : (∀ st H2, I st H2 → D.nx st H2) → (if b = true then t D σ H else u D σ H)) (k : ∀ st H2, I st H2 → D.nx st H2) : if b = true then t D σ H else u D σ H := h k
theorem rd_few {K : PySem.W.Frag} {H : Hp} {a : Addr} {ys : List V} {ps : List Pth} {Q : VK} {E : XK} (d : SqL K H a ys) (hp : Ps H ys ps) (ok : ∀ p ∈ ps, OkP p ∧ p ≠ []) (few : ys.length < 64)
    (k : ∀ H2 l zs qs, Kp T0 H H2 → H l = none → H2 l = some (.lst zs) → Ps H2 zs qs → Canon ps qs → Q (.ref l) H2) : spLFew K [.ref a] H Q E := by
  obtain ⟨bs, rfl, rfl, hb⟩ := hp.rows
  exact ⟨a, bs, rfl, d, hb, fun b m => ok b.2 (List.mem_map_of_mem m), by simpa using few, fun H2 l zs qs k2 hl d2 h2 cn _ => k H2 l zs qs k2 hl d2 h2 cn⟩
theorem rd_neL {K : PySem.W.Frag} {H : Hp} {l m : Addr} {ys zs : List V} {ps qs : List Pth} {Q : VK} (d : H l = some (.lst ys)) (hp : Ps H ys ps) (dm : H m = some (.lst zs)) (hq : Ps H zs qs) (op : ∀ p ∈ ps, OkP p) (oq : ∀ p ∈ qs, OkP p) (e : ps = qs) (k : Q (.bl false) H) : rNeD K (.ref l) (.ref m) H Q := by
  refine ⟨dL ps, dL qs, .lst (SqL.of d) hp.dp, .lst (SqL.of dm) hq.dp, shaped_dL op, shaped_dL oq, ?_⟩
  rw [eqv_dL, decide_eq_true e]
  exact k
theorem rd_eqL {K : PySem.W.Frag} {H : Hp} {l m : Addr} {ys zs : List V} {ps qs : List Pth} {Q : VK} (d : H l = some (.lst ys)) (hp : Ps H ys ps) (dm : H m = some (.lst zs)) (hq : Ps H zs qs) (op : ∀ p ∈ ps, OkP p) (oq : ∀ p ∈ qs, OkP p) (k : Q (.bl (decide (ps = qs))) H) : rEqD K (.ref l) (.ref m) H Q := by
  refine ⟨dL ps, dL qs, .lst (SqL.of d) hp.dp, .lst (SqL.of dm) hq.dp, shaped_dL op, shaped_dL oq, ?_⟩
  rw [eqv_dL]
  exact k
theorem cov_perm {ps qs : List Pth} (h : qs.Perm ps) (x : Pth) : coversP qs x = coversP ps x := bool_ext (by
  rw [covers_iff, covers_iff]
  exact ⟨fun ⟨g, m, b⟩ => ⟨g, h.mem_iff.mp m, b⟩, fun ⟨g, m, b⟩ => ⟨g, h.mem_iff.mpr m, b⟩⟩)
theorem bl_apart {α : Type} [DecidableEq α] (a b : α) : ¬ V.bl (!decide (b = a)) = V.bl (decide (a = b)) := fun z => by
  injection z with z
  by_cases e : b = a
  · rw [decide_eq_true e, decide_eq_true e.symm] at z
    cases z
  · rw [decide_eq_false e, decide_eq_false (fun q => e q.symm)] at z
    cases z
theorem small_log {n : Nat} (h : n ≤ 100) : ((n : Nat) : Int).natAbs.log2 < 1920 := Nat.lt_of_le_of_lt (Nat.log2_le_self _) (by omega)
/-- values of other kinds -/
def Fo (K : PySem.W.Frag) (C : Addr) (H : Hp) (v : V) : Prop := ∃ t, TyX K H v t ∧ PySem.W.kitOne K t (.ref C) = some false
theorem Fo.keep0 {K : PySem.W.Frag} {C : Addr} {H H2 : Hp} {v : V} (h : Fo K C H v) (k : Kp T0 H H2) : Fo K C H2 v := by
  obtain ⟨t, a, b⟩ := h
  exact ⟨t, tyx_keep a k, b⟩
theorem kit_n {K : PySem.W.Frag} {C : Addr} (p : PlainCls K C) {T : String} {l : List Value} (h : PySem.fastBuiltinMro T = some l) (h2 : l.all (fun v => match v with | .ref _ => false | _ => true) = true) : PySem.W.kitOne K (.type T) (.ref C) = some false := by
  refine kit_no p h ?_
  cases e : l.contains (.ref C) with
  | false => rfl
  | true =>
    obtain ⟨v, m, q⟩ := List.any_eq_true.mp ((List.contains_eq_any_beq ..).symm.trans e)
    have z := List.all_eq_true.mp h2 v m
    rw [← beq_iff_eq.mp q] at z
    cases z
abbrev NL : List Str := ["script", "start", "tape", "turn", "paths", "others", "mask", "due", "more", "twin", "other", "is_same", "thing", "path"]
section
variable {P : Program} {w : World} {K : PySem.W.Frag} {mg : Str → Option Value} {base : Heap} {C : Addr}
theorem scLaw : FnScope NL ["script"] (defScope sLaw) := ⟨rfl, rfl, rfl, by decide +kernel, rfl, by decide +kernel, by decide +kernel⟩
theorem ok_law {f fT fD fE fL fS fO fF : Addr} {fd : FuncData} (F : Fun K "law" "law" sLaw f fd) (T : TxtM K mg C) (TL : TxtL mg) (N : NoNe K C) (pc : PlainCls K C)
    (DT : Df P w K mg base 1 fT "_law_tape" ["script", "start"] (spTape K)) (DD : Df P w K mg base 4 fD "_law_drawn" ["tape"] (spDrawn NM)) (DS : Df P w K mg base 2 fS "_law_shuffled" ["tape", "things"] spShuf) (DO : Df P w K mg base 2 fO "_law_one_of" ["tape", "items"] (spOneOf K)) (M : MkM P w K mg base C) (M0 : MkD P w K mg base C)
    (DE : Dm P w K mg base C 1 "__eq__" fE ["self", "other"] (spEqX K C)) (DL : Dm P w K mg base C 1 "__len__" fL ["self"] (spLenM C)) (DP : Pr P w K mg base C 1 "paths" (spPathsM C)) (DF : Df P w K mg base 3 fF "_law_fewest" ["paths"] (spLFew K)) : FnOk P w K mg base CX0 6 f fd ["script"] (spLaw K) := by
  refine F.ok scLaw (fun vs H Q E h => ?_) (fun cdv A outer s H vs Q E hr h => ?_)
  · obtain ⟨a, ns, rfl, _⟩ := h
    rfl
  · obtain ⟨a, ns, rfl, hs, hl, hb, k⟩ := h
    have r5 : Room 5 _ := hr
    have r4 : Room 4 _ := hr.mono (by decide)
    have r3 : Room 3 _ := hr.mono (by decide)
    have r2 : Room 2 _ := hr.mono (by decide)
    have r1 : Room 1 _ := hr.mono (by decide)
    obtain ⟨fI0, fd0, e0, ds0, mk0, F0, b0, v0, q0⟩ := M0.ex
    refine ⟨_, (pss_cons (ps_for PassesOwn.never rfl (pi_range1 (by rfl) TL.z_range (pa_cons (pe_callB (call_max2 rfl) (by rfl) TL.z_max boot_max (pa_cons pe_int (pa_cons (pe_callB (call_min2 rfl) (by rfl) TL.z_min boot_min (pa_cons pe_int (pa_cons (pe_callB call_len (by rfl) TL.z_len PySem.boot_len (pa_cons (pv 0) pa_nil)) pa_nil))) pa_nil))) pa_nil)) (pg_name (i := 1) scLaw.nd rfl (Or.inl rfl))
      (pss_cons (ps_set (i := 2) scLaw.nd rfl (Or.inr rfl) (pe_df DT r1 (by rfl) (pa_cons (pv 0) (pa_cons (pv 1) pa_nil))))
      (pss_one (ps_for PassesOwn.never rfl (pi_range1 (by rfl) TL.z_range (pa_cons pe_int pa_nil)) (pg_name (i := 3) scLaw.nd rfl (Or.inl rfl))
      (pss_cons (ps_par (i := 4) (j := 5) (by rfl) scLaw.nd rfl rfl (by decide) rfl rfl (pa_cons (pe_df DD r4 (by rfl) (pa_cons (pv 2) pa_nil)) (pa_cons (pe_df DD r4 (by rfl) (pa_cons (pv 2) pa_nil)) pa_nil)) (by rfl))
      (pss_cons (ps_par (i := 6) (j := 7) (by rfl) scLaw.nd rfl rfl (by decide) rfl rfl (pa_cons (pe_mask M r5 (by rfl) T.mgC (pa_cons (pv 4) pa_nil)) (pa_cons (pe_df DF r3 (by rfl) (pa_cons (pv 4) pa_nil)) pa_nil)) (by rfl))
      (pss_cons (ps_if (PW.pt (pw_or (pt_cmpR op_ne (pe_callB SkE.call_repr_int (by rfl) TL.z_repr boot_repr (pa_cons (pe_callB (call_lenOwn DL r2) (by rfl) TL.z_len PySem.boot_len (pa_cons (pv 6) pa_nil)) pa_nil)) (pe_callB SkE.call_repr_int (by rfl) TL.z_repr boot_repr (pa_cons (pe_callB call_len (by rfl) TL.z_len PySem.boot_len (pa_cons (pv 7) pa_nil)) pa_nil)) (nomark _)) (pw_or1 (pt_cmpR (op_neD hr.units) (pe_pr (pv 6) T.cl DP r2) (pv 7) (nomark _))))) (pss_one (ps_ret pe_bl)) pss_nil)
      (pss_cons (ps_setLc (i := 8) (te := tOp (rCatA K) (tVar 13) (tTup (tCons (tCall (spOneOf K) [] E0 (tCons (tVar 2) (tCons (tLst (tCons (tC (.str "a")) (tCons (tC (.str "z")) tNil))) tNil))) tNil))) (own := [("path", 13)]) (g := gName 13) (tt := tYes) rfl scLaw.nd rfl rfl (sw_true rfl rfl rfl (by decide +kernel)) (pi_list (pv 4)) (blkOk_by (N := NL) (sc := defScope sLaw) (by decide +kernel)) (fun _ _ _ _ _ => (pg_name (i := 13) scLaw.nd rfl (Or.inl rfl))) (fun _ _ _ _ _ => pts_nil) (fun _ _ _ _ _ => (pe_op op_catA (pv 13) (pe_tup (pa_cons (pe_df DO r2 (by rfl) (pa_cons (pv 2) (pa_cons (pe_lst (pa_cons pe_str (pa_cons pe_str pa_nil))) pa_nil))) pa_nil)))))
      (pss_cons (ps_par (i := 9) (j := 10) (by rfl) scLaw.nd rfl rfl (by decide) rfl rfl (pa_cons (pe_mask M r5 (by rfl) T.mgC (pa_cons (pe_df DS r2 (by rfl) (pa_cons (pv 2) (pa_cons (pe_op op_cat (pv 4) (pv 8)) pa_nil))) pa_nil)) (pa_cons (pe_mask M r5 (by rfl) T.mgC (pa_cons (pv 5) pa_nil)) pa_nil)) (by rfl))
      (pss_cons (ps_if (PW.pt (pw_or (pt_not (pt_cmpR (op_dmEq DE r1) (pv 6) (pv 9) (nomark _))) (pw_or (pt_cmpR (op_dmNe DE N r2) (pv 6) (pv 9) (nomark _)) (pw_or1 (pt_cmpR op_ne (pe_callB (call_lenOwn DL r2) (by rfl) TL.z_len PySem.boot_len (pa_cons (pv 9) pa_nil)) (pe_callB call_len (by rfl) TL.z_len PySem.boot_len (pa_cons (pv 7) pa_nil)) (nomark _)))))) (pss_one (ps_ret pe_bl)) pss_nil)
      (pss_cons (ps_set (i := 11) scLaw.nd rfl (Or.inl rfl) (pe_cmpR (op_eqD hr.units) (pv 7) (pe_df DF r3 (by rfl) (pa_cons (pv 5) pa_nil)) (nomark _)))
      (pss_cons (ps_if (PW.pt (pw_or (pt_cmpR op_ne (pe_cmpR (op_dmEq DE r1) (pv 6) (pv 10) (nomark _)) (pv 11) (nomark _)) (pw_or1 (pt_cmpR op_eq (pe_cmpR (op_dmNe DE N r2) (pv 10) (pv 6) (nomark _)) (pv 11) (nomark _))))) (pss_one (ps_ret pe_bl)) pss_nil)
      (pss_one (ps_for PassesOwn.never rfl (pi_list (pe_lst (pa_cons pe_non (pa_cons (pv 4) (pa_cons (pe_callTy call_tuple_of (by rfl) T.z_tuple boot_tuple (pa_cons (pv 7) pa_nil)) (pa_cons (pv 7) (pa_cons pe_int (pa_cons pe_str (pa_cons pe_dnewK pa_nil))))))))) (pg_name (i := 12) scLaw.nd rfl (Or.inl rfl))
      (pss_one (ps_if (PW.pt (pw_or (pt_cmpR (op_dmEqX DE r1) (pv 6) (pv 12) (nomark _)) (pw_or1 (pt_not (pt_cmpR (op_dmNeX DE N r2) (pv 6) (pv 12) (nomark _)))))) (pss_one (ps_ret pe_bl)) pss_nil))))))))))))))))
      (pss_one (ps_ret (pe_and (pe_cmpR op_eq (pe_callB (call_lenOwn DL r2) (by rfl) TL.z_len PySem.boot_len (pa_cons (pe_make0 mk0 F0 r5 (by rfl) T.mgC b0 v0 pass0) pa_nil)) pe_int (nomark _)) (pe_one (pe_cmpR (op_dmEq DE r1) (pe_make0 mk0 F0 r5 (by rfl) T.mgC b0 v0 pass0) (pe_mask M r5 (by rfl) T.mgC (pa_cons (pe_lst pa_nil) pa_nil)) (nomark _))))))), ?_⟩
    have em := clamp (lo := 2) (hi := 4) (by decide) ns.length
    refine ⟨_, rfl, _, ns.length, rfl, .inl ⟨_, hs, by rw [List.length_map]⟩, _, _, rfl, _, _, rfl, _, rfl, ?_, ?_, ?_⟩
    · omega
    · omega
    revert em
    generalize (if (if (ns.length : Int) < 4 then (ns.length : Int) else 4) > 2 then (if (ns.length : Int) < 4 then (ns.length : Int) else 4) else 2) = top
    intro em
    have hz : (16777216 : Nat) = PySem.sizeLine := PySem.sizeLine_eq.symm
    have l1 : 1 ≤ PySem.sizeLine := by omega
    refine for_range (lo := 0) (n := top.toNat) (fun _ st H1 => Kp T0 H H1 ∧ ∃ o1 o2 o3 o4 o5 o6 o7 o8 o9 o10 o11 o12 o13 : Option V, st = [some (.ref a), o1, o2, o3, o4, o5, o6, o7, o8, o9, o10, o11, o12, o13])
      ⟨Kp.refl H, none, none, none, none, none, none, none, none, none, none, none, none, none, rfl⟩ (fun i st H1 hi p => ?_) (fun st H1 p => ?_)
    rotate_left
    · obtain ⟨k1, o1, o2, o3, o4, o5, o6, o7, o8, o9, o10, o11, o12, o13, rfl⟩ := p
      refine mask_new (mask_none (q0 _)) (Nat.zero_le _) fun H3 x qs k3 i3 l3 c3 => ?_
      rw [canon_nil c3] at i3
      dsimp only [tNil]
      refine rd_len i3 ?_
      refine ⟨rfl, _, rfl, ?_⟩
      rw [decide_eq_true (show V.int (([] : List Pth).length : Nat) = V.int 0 from rfl)]
      refine iteT ?_
      refine mask_new (mask_none (q0 _)) (Nat.zero_le _) fun H4 y rs k4 i4 l4 c4 => ?_
      refine ⟨Nat.zero_le _, fun b hb => ?_⟩
      have kb := (Kp.refl (T := T0) H4).new (o := .lst []) hb
      refine mask_new (⟨.inl (SqL.of upd_same), .nil, fun p m => nomatch m⟩ : SqP K _ b [] []) (Nat.zero_le _) fun H5 z ts k5 i5 l5 c5 => ?_
      refine rd_eq2 (i4.keep0 (kb.trans k5)) i5 ?_
      rw [canon_nil c4, canon_nil c5, decide_eq_true rfl]
      exact k _
    obtain ⟨k1, o1, o2, o3, o4, o5, o6, o7, o8, o9, o10, o11, o12, o13, rfl⟩ := p
    refine ⟨_, rfl, _, rfl, a, ns, _, rfl, sqL_at hs k1 id, hl, hb, by omega, by omega, fun t d m nt ok => ?_⟩
    have ta : TapeAt (upd H1 t (.dK (tapeL d m))) t := TapeAt.put ok
    generalize eH : upd H1 t (.dK (tapeL d m)) = H2 at ta
    have kz : ∀ {H9 : Hp}, Kp (At t) H2 H9 → Kp T0 H H9 := fun k9 => k1.trans (Kp.tape (o := .dK (tapeL d m)) nt (by rw [eH]; exact k9))
    refine ⟨_, rfl, (by decide), (by decide), ?_⟩
    refine for_range (lo := 0) (n := 8) (fun _ st H3 => Kp (At t) H2 H3 ∧ TapeAt H3 t ∧ ∃ o1 o3 o4 o5 o6 o7 o8 o9 o10 o11 o12 o13 : Option V, st = [some (.ref a), o1, some (.ref t), o3, o4, o5, o6, o7, o8, o9, o10, o11, o12, o13])
      ⟨Kp.refl H2, ta, _, _, _, _, _, _, _, _, _, _, _, _, rfl⟩ (fun j st H3 hj p => ?_) (fun st H3 p => ?_)
    rotate_left
    · obtain ⟨k3, ta3, o1, o3, o4, o5, o6, o7, o8, o9, o10, o11, o12, o13, rfl⟩ := p
      exact ⟨kz k3, _, _, _, _, _, _, _, _, _, _, _, _, _, rfl⟩
    obtain ⟨k3, ta3, o1, o3, o4, o5, o6, o7, o8, o9, o10, o11, o12, o13, rfl⟩ := p
    -- one, two
    refine ⟨_, rfl, t, rfl, ta3, fun H4 la ya pa k4 ta4 n4 d4 hp4 b4 o4 => ?_⟩
    refine ⟨_, rfl, t, rfl, ta4, fun H5 lb yb pb k5 ta5 n5 d5 hp5 b5 o5 => ?_⟩
    have tA : ¬ At t la := tape_ne ta4 d4
    have tB : ¬ At t lb := tape_ne ta5 d5
    have dA := k5 la _ tA d4
    have hA := hp4.tape k5 ta4
    have gA : ∀ p ∈ pa, Good p ∧ p.length ≤ 9 := fun p m => ⟨drawn_ok (by decide) (o4 p m), by have := (o4 p m).2.1; omega⟩
    have gB : ∀ p ∈ pb, Good p ∧ p.length ≤ 9 := fun p m => ⟨drawn_ok (by decide) (o5 p m), by have := (o5 p m).2.1; omega⟩
    refine ⟨_, _, rfl, ?_⟩
    dsimp only
    have hB := hp5
    have dB := d5
    have K5 := (k3.trans k4).trans k5
    have lA := b4
    have lB := b5
    clear k3 k4 k5 ta3 ta4 d4 d5 hp4 hp5 n4 n5 b4 b5 o4 o5
    have gA8 : ∀ p ∈ pa, OkP p ∧ p ≠ [] := fun p m => (gA p m).1
    have gB8 : ∀ p ∈ pb, OkP p ∧ p ≠ [] := fun p m => (gB p m).1
    have hM : MOST = 100000 := rfl
    -- mask, due
    refine ⟨_, rfl, mask_new (⟨.inl (SqL.of dA), hA, gA8⟩ : SqP K H5 la ya pa) (by omega) fun H6 x1 q1 k6 i1 n1 c1 => ?_⟩
    refine ⟨_, rfl, ?_⟩
    try dsimp only [tNil]
    refine rd_few (SqL.of (k6.at0 dA)) (hA.keep0 k6) gA8 (by omega) fun H7 ld zd qd k7 nd dd hd cd => ?_
    obtain rfl := canon_one c1 cd
    refine ⟨_, _, rfl, ?_⟩
    try dsimp only
    have k57 := k6.trans k7
    replace dA := k57.at0 dA
    replace dB := k57.at0 dB
    replace hA := hA.keep0 k57
    replace hB := hB.keep0 k57
    replace i1 := i1.keep0 k7
    have ta := ta5.keep k57
    have K7 := K5.trans k57.wide
    clear K5 k57 k6 k7 ta5
    have lq : q1.length = zd.length := (Paired.length hd).symm
    have o1 : ∀ q ∈ q1, OkP q := fun q m => (i1.ok q m).1
    -- repr(len(mask)) != repr(len(due)) or mask.paths != due
    refine ⟨_, rfl, ?_⟩
    try dsimp only [tNil]
    refine rd_len i1 ?_
    refine ⟨_, rfl, small_log (by omega), _, rfl, _, zd.length, rfl, .inl ⟨zd, SqL.of dd, rfl⟩, _, rfl, small_log (by omega), rfl, _, rfl, ?_⟩
    rw [decide_eq_true (by rw [lq])]
    refine iteF ?_
    refine ⟨_, rfl, rd_paths i1 fun l3 z3 m3 h3 => ?_⟩
    have kk := (Kp.refl (T := T0) H7).new (o := .lst z3) m3
    refine ⟨_, rfl, rd_neL upd_same (h3.keep0 kk) (kk.at0 dd) (hd.keep0 kk) o1 o1 rfl ⟨_, rfl, iteF ?_⟩⟩
    replace dA := kk.at0 dA
    replace dB := kk.at0 dB
    replace dd := kk.at0 dd
    replace hA := hA.keep0 kk; replace hB := hB.keep0 kk; replace hd := hd.keep0 kk; replace i1 := i1.keep0 kk
    replace ta := ta.keep kk
    replace K7 := K7.trans kk.wide
    clear kk h3
    generalize upd H7 l3 (.lst z3) = H8 at dA dB dd hA hB hd i1 ta K7 ⊢
    -- more
    try dsimp only
    refine ⟨_, rfl, la, rfl, ⟨ya, SqL.of dA⟩, fun D hD => ?_⟩
    have tD : ¬ At t D := tape_fresh ta hD
    have tA : ¬ At t la := tape_ne ta dA
    have tB : ¬ At t lb := tape_ne ta dB
    have td : ¬ At t ld := tape_ne ta dd
    refine lc_kp (T := At t) (walk_list (xs := ya)) (i0 := 13) (fun i v => ya[i]? = some v) (fun i us H9 => TapeAt H9 t ∧ us.length = i ∧ ∃ rs, Ps H9 us rs ∧ ∀ r ∈ rs, Good r ∧ ∃ p ∈ pa, beginsP r p = true)
      (fun i H1 v H2 _ y => y) hD tD (by omega) (wipe1 _ 13) (fun H1 k1 => SqL.of (k1 la _ tA dA)) ⟨ta.new hD, rfl, [], .nil, fun r hr => nomatch hr⟩ (fun i u us H9 Ky Kn hi sx k9 d9 q ky _ => ?_) (fun us H9 k9 d9 lu q => ?_)
    · obtain ⟨ta9, lus, rs, hr, gr⟩ := q
      obtain ⟨p, hp, ip⟩ := Ps.get (hA.tape k9 ta) sx
      have mp := List.mem_of_getElem? hp
      obtain ⟨gp, lp⟩ := gA p mp
      refine yes_ ?_
      refine ⟨_, rfl, ?_⟩
      refine ⟨_, rfl, (by show 2 ≤ sizeLine; omega), fun b1 hb1 => ?_⟩
      have kb1 := (Kp.refl (T := T0) H9).new (o := .lst [V.str "a", V.str "z"]) hb1
      refine ⟨t, b1, [.str "a", .str "z"], rfl, ta9.keep kb1, SqL.of upd_same, by decide, by decide, fun H10 c k10 ta10 mc => ?_⟩
      obtain ⟨x, rfl, gx⟩ : ∃ x : Str, c = .str x ∧ [x].all isNm = true := by
        rcases List.mem_cons.mp mc with e | e
        · exact ⟨_, e, by decide +kernel⟩
        · exact ⟨_, List.mem_singleton.mp e, by decide +kernel⟩
      refine ⟨l1, fun b2 hb2 => ?_⟩
      have kb2 := (Kp.refl (T := T0) H10).new (o := .tup [V.str x]) hb2
      have ip10 := ((ip.keep0 kb1).keep k10 fun a o e q => ((ta9.keep kb1).loose a o e q).1).keep0 kb2
      refine rd_catA (q := [x]) ip10 upd_same (by simp) (by show p.length + 1 ≤ 1000; omega) fun c1 H11 k11 ip1 => ?_
      have k911 : Kp (At t) H9 H11 := (kb1.wide.trans k10).trans (kb2.trans k11).wide
      have d11 := k911 D _ tD d9
      refine ky _ _ k911 ⟨((ta10.keep kb2).keep k11).over tD, by rw [List.length_append, lus]; rfl, rs ++ [p ++ ([x] : List Str)], (((hr.keep0 kb1).tape k10 (ta9.keep kb1)).keep0 (kb2.trans k11) |>.snoc ip1).keep (T := At D) ((Kp.refl _).put rfl) fun b o e q => (loose_lst d11 b o e q).1, fun r m => ?_⟩
      rcases List.mem_append.mp m with h | h
      · exact gr r h
      · rw [List.mem_singleton.mp h]
        exact ⟨Good.app gp.1 gx (by simp) (by show p.length + 1 ≤ 1000; omega), p, mp, begins_iff.mpr ⟨[x], rfl⟩⟩
    obtain ⟨ta9, lus, pm, hm, gm⟩ := q
    replace dA := k9 la _ tA dA
    replace dB := k9 lb _ tB dB
    replace dd := k9 ld _ td dd
    replace hA := hA.tape k9 ta
    replace hB := hB.tape k9 ta
    replace hd := hd.tape k9 ta
    replace i1 := i1.tape k9 ta
    have K9 := K7.trans k9
    clear K7 k9 ta
    try dsimp only
    refine ⟨_, rfl, ?_⟩
    try dsimp only
    -- twin, other
    have lP : pm.length = us.length := (Paired.length hm).symm
    have lPa : pa.length = ya.length := (Paired.length hA).symm
    have gC8 : ∀ p ∈ pa ++ pm, OkP p ∧ p ≠ [] := fun p m => by
      rcases List.mem_append.mp m with h | h
      · exact gA8 p h
      · exact (gm p h).1
    refine ⟨_, rfl, _, rfl, la, D, ya, us, rfl, rfl, dA, d9, (by omega), fun p3 hp3 => ?_⟩
    have kk := (Kp.refl (T := T0) H9).new (o := .lst (ya ++ us)) hp3
    refine ⟨t, p3, ya ++ us, pa ++ pm, rfl, ta9.keep kk, upd_same, (hA.app hm).keep0 kk, fun p m => (gC8 p m).1, (by rw [List.length_append]; omega), fun H10 lm ym qm k10 ta10 nm dm hqm perm => ?_⟩
    have lQ : ym.length = qm.length := Paired.length hqm
    have lQ2 := perm.length_eq
    rw [List.length_append] at lQ2
    try dsimp only [tNil]
    refine mask_new (⟨.inl (SqL.of dm), hqm, fun p m => gC8 p (perm.mem_iff.mp m)⟩ : SqP K H10 lm ym qm) (by omega) fun H11 x2 q2 k11 i2 n2 c2 => ?_
    have kx : Kp (At t) H9 H11 := (kk.wide.trans k10).trans k11.wide
    have tk := ta9.keep kk
    replace dA := kx la _ tA dA
    replace dB := kx lb _ tB dB
    replace dd := kx ld _ td dd
    replace hA := ((hA.keep0 kk).tape k10 tk).keep0 k11
    replace hB := ((hB.keep0 kk).tape k10 tk).keep0 k11
    replace hd := ((hd.keep0 kk).tape k10 tk).keep0 k11
    replace i1 := ((i1.keep0 kk).tape k10 tk).keep0 k11
    have ta := ta10.keep k11
    replace K9 := K9.trans kx
    clear kx tk ta9 ta10 kk
    refine ⟨_, rfl, mask_new (⟨.inl (SqL.of dB), hB, gB8⟩ : SqP K H11 lb yb pb) (by omega) fun H12 x3 q3 k12 i3 n3 c3 => ?_⟩
    refine ⟨_, _, rfl, ?_⟩
    try dsimp only
    replace hA := hA.keep0 k12; replace hB := hB.keep0 k12; replace hd := hd.keep0 k12; replace i1 := i1.keep0 k12; replace i2 := i2.keep0 k12
    replace dA := k12.at0 dA
    replace dB := k12.at0 dB
    replace dd := k12.at0 dd
    replace ta := ta.keep k12
    replace K9 := K9.trans k12.wide
    have e2 : q2 = q1 := canon_ext c2 c1 fun x => by
      rw [c2.covers, c1.covers, cov_perm perm, covers_app]
      cases e : coversP pm x with
      | false => rw [Bool.or_false]
      | true =>
        obtain ⟨g, mg, b⟩ := covers_iff.mp e
        obtain ⟨f, mf, b2⟩ := (gm g mg).2
        rw [covers_iff.mpr ⟨f, mf, begins_trans b b2⟩]
        rfl
    subst e2
    clear k12 k11 k10
    -- not mask == twin or mask != twin or len(twin) != len(due)
    refine ⟨_, rfl, _, rfl, rd_eq2 i1 i2 ?_⟩
    rw [decide_eq_true rfl]
    refine ⟨_, rfl, iteF ?_⟩
    refine ⟨_, rfl, _, rfl, rd_ne2 i1 i2 ?_⟩
    rw [decide_eq_true rfl]
    refine ⟨_, rfl, iteF ?_⟩
    refine ⟨_, rfl, ?_⟩
    try dsimp only [tNil]
    refine rd_len i2 ?_
    refine ⟨_, rfl, _, zd.length, rfl, .inl ⟨zd, SqL.of dd, rfl⟩, rfl, _, rfl, ?_⟩
    rw [decide_eq_true (by rw [lq])]
    refine iteF ?_
    -- is_same
    refine ⟨_, rfl, _, rfl, ?_⟩
    try dsimp only [tNil]
    refine rd_few (SqL.of dB) hB gB8 (by omega) fun H13 lf zf qf k13 nf df hf cf => ?_
    obtain rfl := canon_one c3 cf
    replace hA := hA.keep0 k13; replace hB := hB.keep0 k13; replace hd := hd.keep0 k13; replace i1 := i1.keep0 k13; replace i2 := i2.keep0 k13; replace i3 := i3.keep0 k13
    replace dA := k13.at0 dA
    replace dB := k13.at0 dB
    replace dd := k13.at0 dd
    replace ta := ta.keep k13
    replace K9 := K9.trans k13.wide
    refine rd_eqL dd hd df hf o1 (fun q m => (i3.ok q m).1) ?_
    refine ⟨_, rfl, ?_⟩
    try dsimp only
    -- (mask == other) != is_same or (other != mask) == is_same
    refine ⟨_, rfl, rd_eq2 i1 i3 ?_⟩
    refine ⟨_, rfl, rfl, _, rfl, ?_⟩
    rw [decide_eq_true rfl]
    refine iteF ?_
    refine ⟨_, rfl, _, rfl, rd_ne2 i3 i1 ?_⟩
    refine ⟨_, rfl, rfl, _, rfl, ?_⟩
    rw [decide_eq_false (bl_apart _ _)]
    refine iteF ?_
    -- for thing in ..
    refine ⟨_, rfl, _, rfl, ld, zd, rfl, .inl ⟨SqL.of dd, fun u1 hu1 => ?_⟩⟩
    have g1 := (Kp.refl (T := T0) H13).new (o := .tup zd) hu1
    refine ⟨_, rfl, fun u2 hu2 => ?_⟩
    have g2 := g1.new (o := .dK []) hu2
    refine ⟨(by show 7 ≤ sizeLine; omega), fun u3 hu3 => ?_⟩
    have f3 : ∀ {b : Addr} {o : HO}, (upd (upd H13 u1 (.tup zd)) u2 (.dK [])) b = some o → (upd (upd (upd H13 u1 (.tup zd)) u2 (.dK [])) u3 (.lst [.non, .ref la, .ref u1, .ref ld, .int 0, .str "", .ref u2])) b = some o := fun z => ((Kp.refl (T := T0) _).new hu3).at0 z
    have g3 := g2.new (o := .lst [.non, .ref la, .ref u1, .ref ld, .int 0, .str "", .ref u2]) hu3
    have fo : ∀ v ∈ [V.non, .ref la, .ref u1, .ref ld, .int 0, .str "", .ref u2], Fo K C (upd (upd (upd H13 u1 (.tup zd)) u2 (.dK [])) u3 (.lst [.non, .ref la, .ref u1, .ref ld, .int 0, .str "", .ref u2])) v := by
      intro v m
      simp only [List.mem_cons, List.not_mem_nil, or_false] at m
      rcases m with rfl | rfl | rfl | rfl | rfl | rfl | rfl
      · exact ⟨.type "NoneType", .base .non, kit_n pc (l := [.type "NoneType", .type "object"]) (by decide +kernel) rfl⟩
      · exact ⟨.type "list", .base (.lst (g3.at0 dA)), kit_n pc (l := [.type "list", .type "object"]) (by decide +kernel) rfl⟩
      · exact ⟨.type "tuple", .base (.tup (f3 (((Kp.refl (T := T0) _).new hu2).at0 upd_same))), kit_n pc (l := [.type "tuple", .type "object"]) (by decide +kernel) rfl⟩
      · exact ⟨.type "list", .base (.lst (g3.at0 dd)), kit_n pc (l := [.type "list", .type "object"]) (by decide +kernel) rfl⟩
      · exact ⟨.type "int", .base (.int 0), kit_n pc (l := [.type "int", .type "object"]) (by decide +kernel) rfl⟩
      · exact ⟨.type "str", .base (.str _), kit_n pc (l := [.type "str", .type "object"]) (by decide +kernel) rfl⟩
      · exact ⟨.type "dict", .base (.dK (f3 upd_same)), kit_n pc (l := [.type "dict", .type "object"]) (by decide +kernel) rfl⟩
    have dW : (upd (upd (upd H13 u1 (.tup zd)) u2 (.dK [])) u3 (.lst [.non, .ref la, .ref u1, .ref ld, .int 0, .str "", .ref u2])) u3 = some (.lst [.non, .ref la, .ref u1, .ref ld, .int 0, .str "", .ref u2]) := upd_same
    replace i1 := i1.keep0 g3
    replace ta := ta.keep g3
    replace K9 := K9.trans g3.wide
    clear g1 g2 g3 f3 hA hB hd dA dB dd hf df i2 i3
    generalize upd (upd (upd H13 u1 (.tup zd)) u2 (.dK [])) u3 (.lst [.non, .ref la, .ref u1, .ref ld, .int 0, .str "", .ref u2]) = HW at fo dW i1 ta K9 ⊢
    generalize [V.non, .ref la, .ref u1, .ref ld, .int 0, .str "", .ref u2] = ws at fo dW ⊢
    refine ⟨u3, rfl, ⟨ws, SqL.of dW⟩, ?_⟩
    refine for_it walk_list (fun i st H8 => Kp T0 HW H8 ∧ ∃ o1 o3 o4 o5 o7 o8 o9 o10 o11 o12 o13 : Option V, st = [some (.ref a), o1, some (.ref t), o3, o4, o5, some (.ref x1), o7, o8, o9, o10, o11, o12, o13])
      ⟨Kp.refl HW, _, _, _, _, _, _, _, _, _, _, _, rfl⟩ (fun i st H8 _ q => SqL.of (q.1.at0 dW)) (fun i v st H8b H8 hi q y => ?_) (fun st H8 q => ?_)
    · obtain ⟨k8, o1, o3, o4, o5, o7, o8, o9, o10, o11, o12, o13, rfl⟩ := q
      obtain ⟨rfl, hv⟩ := y
      obtain ⟨tv, ty, ko⟩ := (fo v (List.mem_of_getElem? hv)).keep0 k8
      refine ⟨_, rfl, _, rfl, rd_eqX (i1.keep0 k8) ty ko ⟨_, rfl, iteF ?_⟩⟩
      refine ⟨_, rfl, _, rfl, rd_neX (i1.keep0 k8) ty ko ⟨_, rfl, iteF ?_⟩⟩
      exact ⟨k8, _, _, _, _, _, _, _, _, _, _, _, rfl⟩
    obtain ⟨k8, o1, o3, o4, o5, o7, o8, o9, o10, o11, o12, o13, rfl⟩ := q
    exact ⟨K9.trans k8.wide, ta.keep k8, _, _, _, _, _, _, _, _, _, _, _, _, rfl⟩
end
end Lw
namespace Lw
open PySem L2 Gk
theorem all_mk {l : PySem.W.OpenLaw} {w : World} {K : PySem.W.Frag} {h : Heap} {mg : Str → Option Value} {fa fIl fIn fIr fBe fCo fFe fTa fPi fOo fSh fPa fLB fLC fLF fDr fLaw C fIni TIni eIni fLen fEq fPth pPth : Addr} {otIni : Value} {dtIni deIni : Option Addr} {ntIni neIni : Nat} {stIni seIni : Array (Option Value)} {restPth : List Value} {clsC : ClassData} {tLE tMO : Tok} {odIl anIl odIn anIn odIr anIr odBe anBe odCo anCo odFe anFe odTa anTa odPi anPi odOo anOo odSh anSh odPa anPa odLB anLB odLC anLC odLF anLF odDr anDr odLaw anLaw odIni anIni odLen anLen odEq anEq odPth anPth : Option Addr} {slIl slIn slIr slBe slCo slFe slTa slPi slOo slSh slPa slLB slLC slLF slDr slLaw slIni slLen slEq slPth : Array (Option Value)} {ocIl kVIl dcIl pmIl cdIl ctIl ocIn kVIn dcIn pmIn cdIn ctIn ocIr kVIr dcIr pmIr cdIr ctIr ocBe kVBe dcBe pmBe cdBe ctBe ocCo kVCo dcCo pmCo cdCo ctCo ocFe kVFe dcFe pmFe cdFe ctFe ocTa kVTa dcTa pmTa cdTa ctTa ocPi kVPi dcPi pmPi cdPi ctPi ocOo kVOo dcOo pmOo cdOo ctOo ocSh kVSh dcSh pmSh cdSh ctSh ocPa kVPa dcPa pmPa cdPa ctPa ocLB kVLB dcLB pmLB cdLB ctLB ocLC kVLC dcLC pmLC cdLC ctLC ocLF kVLF dcLF pmLF cdLF ctLF ocDr kVDr dcDr pmDr cdDr ctDr ocLaw kVLaw dcLaw pmLaw cdLaw ctLaw ocIni kVIni dcIni pmIni cdIni ctIni ocLen kVLen dcLen pmLen cdLen ctLen ocEq kVEq dcEq pmEq cdEq ctEq ocPth kVPth dcPth pmPth cdPth ctPth : Value} (X : K.In h) (G : h.Ns mainGlobals mg) (hfa : mg "law" = some (.ref fa))
    (aIl : PySem.W.nsIn K mainGlobals "is_letters" = some (some (.ref fIl)))
    (lIl : K.lookup fIl = some ⟨ocIl, odIl, .func (PySem.W.fnOf "is_letters" "is_letters" (defArgs sIsLetters) (defBody sIsLetters) (defScope sIsLetters) .none kVIl dcIl pmIl anIl cdIl ctIl), slIl⟩)
    (cIl : PySem.W.codeIn K cdIl "is_letters" = true)
    (kIl : PySem.W.keepIn K (.ref fIl) = true)
    (aIn : PySem.W.nsIn K mainGlobals "is_name" = some (some (.ref fIn)))
    (lIn : K.lookup fIn = some ⟨ocIn, odIn, .func (PySem.W.fnOf "is_name" "is_name" (defArgs sIsName) (defBody sIsName) (defScope sIsName) .none kVIn dcIn pmIn anIn cdIn ctIn), slIn⟩)
    (cIn : PySem.W.codeIn K cdIn "is_name" = true)
    (kIn : PySem.W.keepIn K (.ref fIn) = true)
    (aIr : PySem.W.nsIn K mainGlobals "is_row" = some (some (.ref fIr)))
    (lIr : K.lookup fIr = some ⟨ocIr, odIr, .func (PySem.W.fnOf "is_row" "is_row" (defArgs sIsRow) (defBody sIsRow) (defScope sIsRow) .none kVIr dcIr pmIr anIr cdIr ctIr), slIr⟩)
    (cIr : PySem.W.codeIn K cdIr "is_row" = true)
    (kIr : PySem.W.keepIn K (.ref fIr) = true)
    (aBe : PySem.W.nsIn K mainGlobals "begins" = some (some (.ref fBe)))
    (lBe : K.lookup fBe = some ⟨ocBe, odBe, .func (PySem.W.fnOf "begins" "begins" (defArgs sBegins) (defBody sBegins) (defScope sBegins) .none kVBe dcBe pmBe anBe cdBe ctBe), slBe⟩)
    (cBe : PySem.W.codeIn K cdBe "begins" = true)
    (kBe : PySem.W.keepIn K (.ref fBe) = true)
    (aCo : PySem.W.nsIn K mainGlobals "covers" = some (some (.ref fCo)))
    (lCo : K.lookup fCo = some ⟨ocCo, odCo, .func (PySem.W.fnOf "covers" "covers" (defArgs sCovers) (defBody sCovers) (defScope sCovers) .none kVCo dcCo pmCo anCo cdCo ctCo), slCo⟩)
    (cCo : PySem.W.codeIn K cdCo "covers" = true)
    (kCo : PySem.W.keepIn K (.ref fCo) = true)
    (aFe : PySem.W.nsIn K mainGlobals "fewest" = some (some (.ref fFe)))
    (lFe : K.lookup fFe = some ⟨ocFe, odFe, .func (PySem.W.fnOf "fewest" "fewest" (defArgs sFewest) (defBody sFewest) (defScope sFewest) .none kVFe dcFe pmFe anFe cdFe ctFe), slFe⟩)
    (cFe : PySem.W.codeIn K cdFe "fewest" = true)
    (kFe : PySem.W.keepIn K (.ref fFe) = true)
    (aTa : PySem.W.nsIn K mainGlobals "_law_tape" = some (some (.ref fTa)))
    (lTa : K.lookup fTa = some ⟨ocTa, odTa, .func (PySem.W.fnOf "_law_tape" "_law_tape" (defArgs sTape) (defBody sTape) (defScope sTape) .none kVTa dcTa pmTa anTa cdTa ctTa), slTa⟩)
    (cTa : PySem.W.codeIn K cdTa "_law_tape" = true)
    (kTa : PySem.W.keepIn K (.ref fTa) = true)
    (aPi : PySem.W.nsIn K mainGlobals "_law_pick" = some (some (.ref fPi)))
    (lPi : K.lookup fPi = some ⟨ocPi, odPi, .func (PySem.W.fnOf "_law_pick" "_law_pick" (defArgs sPick) (defBody sPick) (defScope sPick) .none kVPi dcPi pmPi anPi cdPi ctPi), slPi⟩)
    (cPi : PySem.W.codeIn K cdPi "_law_pick" = true)
    (kPi : PySem.W.keepIn K (.ref fPi) = true)
    (aOo : PySem.W.nsIn K mainGlobals "_law_one_of" = some (some (.ref fOo)))
    (lOo : K.lookup fOo = some ⟨ocOo, odOo, .func (PySem.W.fnOf "_law_one_of" "_law_one_of" (defArgs sOneOf) (defBody sOneOf) (defScope sOneOf) .none kVOo dcOo pmOo anOo cdOo ctOo), slOo⟩)
    (cOo : PySem.W.codeIn K cdOo "_law_one_of" = true)
    (kOo : PySem.W.keepIn K (.ref fOo) = true)
    (aSh : PySem.W.nsIn K mainGlobals "_law_shuffled" = some (some (.ref fSh)))
    (lSh : K.lookup fSh = some ⟨ocSh, odSh, .func (PySem.W.fnOf "_law_shuffled" "_law_shuffled" (defArgs sShuf) (defBody sShuf) (defScope sShuf) .none kVSh dcSh pmSh anSh cdSh ctSh), slSh⟩)
    (cSh : PySem.W.codeIn K cdSh "_law_shuffled" = true)
    (kSh : PySem.W.keepIn K (.ref fSh) = true)
    (aPa : PySem.W.nsIn K mainGlobals "_law_path" = some (some (.ref fPa)))
    (lPa : K.lookup fPa = some ⟨ocPa, odPa, .func (PySem.W.fnOf "_law_path" "_law_path" (defArgs sPath) (defBody sPath) (defScope sPath) .none kVPa dcPa pmPa anPa cdPa ctPa), slPa⟩)
    (cPa : PySem.W.codeIn K cdPa "_law_path" = true)
    (kPa : PySem.W.keepIn K (.ref fPa) = true)
    (aLB : PySem.W.nsIn K mainGlobals "_law_begins" = some (some (.ref fLB)))
    (lLB : K.lookup fLB = some ⟨ocLB, odLB, .func (PySem.W.fnOf "_law_begins" "_law_begins" (defArgs sLBegins) (defBody sLBegins) (defScope sLBegins) .none kVLB dcLB pmLB anLB cdLB ctLB), slLB⟩)
    (cLB : PySem.W.codeIn K cdLB "_law_begins" = true)
    (kLB : PySem.W.keepIn K (.ref fLB) = true)
    (aLC : PySem.W.nsIn K mainGlobals "_law_covers" = some (some (.ref fLC)))
    (lLC : K.lookup fLC = some ⟨ocLC, odLC, .func (PySem.W.fnOf "_law_covers" "_law_covers" (defArgs sLCov) (defBody sLCov) (defScope sLCov) .none kVLC dcLC pmLC anLC cdLC ctLC), slLC⟩)
    (cLC : PySem.W.codeIn K cdLC "_law_covers" = true)
    (kLC : PySem.W.keepIn K (.ref fLC) = true)
    (aLF : PySem.W.nsIn K mainGlobals "_law_fewest" = some (some (.ref fLF)))
    (lLF : K.lookup fLF = some ⟨ocLF, odLF, .func (PySem.W.fnOf "_law_fewest" "_law_fewest" (defArgs sLFew) (defBody sLFew) (defScope sLFew) .none kVLF dcLF pmLF anLF cdLF ctLF), slLF⟩)
    (cLF : PySem.W.codeIn K cdLF "_law_fewest" = true)
    (kLF : PySem.W.keepIn K (.ref fLF) = true)
    (aDr : PySem.W.nsIn K mainGlobals "_law_drawn" = some (some (.ref fDr)))
    (lDr : K.lookup fDr = some ⟨ocDr, odDr, .func (PySem.W.fnOf "_law_drawn" "_law_drawn" (defArgs sDrawn) (defBody sDrawn) (defScope sDrawn) .none kVDr dcDr pmDr anDr cdDr ctDr), slDr⟩)
    (cDr : PySem.W.codeIn K cdDr "_law_drawn" = true)
    (kDr : PySem.W.keepIn K (.ref fDr) = true)
    (aLaw : PySem.W.nsIn K mainGlobals "law" = some (some (.ref fLaw)))
    (lLaw : K.lookup fLaw = some ⟨ocLaw, odLaw, .func (PySem.W.fnOf "law" "law" (defArgs sLaw) (defBody sLaw) (defScope sLaw) .none kVLaw dcLaw pmLaw anLaw cdLaw ctLaw), slLaw⟩)
    (cLaw : PySem.W.codeIn K cdLaw "law" = true)
    (kLaw : PySem.W.keepIn K (.ref fLaw) = true)
    (aC : PySem.W.nsIn K mainGlobals "Mask" = some (some (.ref C)))
    (aIni : PySem.W.findIn K (.ref C) "__init__" = some (some (.ref fIni)))
    (iIni : PySem.W.isFn K (.ref fIni) = true)
    (lIni : K.lookup fIni = some ⟨ocIni, odIni, .func (PySem.W.fnOf "__init__" "Mask.__init__" (defArgs sInit) (defBody sInit) (defScope sInit) (.ref TIni) kVIni dcIni pmIni anIni cdIni ctIni), slIni⟩)
    (cIni : PySem.W.codeIn K cdIni "Mask.__init__" = true)
    (kIni : PySem.W.keepIn K (.ref fIni) = true)
    (lTIni : K.lookup TIni = some ⟨otIni, dtIni, .seq #[.ref eIni] ntIni, stIni⟩)
    (lEIni : K.lookup eIni = some ⟨.type "tuple", deIni, .seq #[] neIni, seIni⟩)
    (aLen : PySem.W.findIn K (.ref C) "__len__" = some (some (.ref fLen)))
    (iLen : PySem.W.isFn K (.ref fLen) = true)
    (lLen : K.lookup fLen = some ⟨ocLen, odLen, .func (PySem.W.fnOf "__len__" "Mask.__len__" (defArgs sLen) (defBody sLen) (defScope sLen) .none kVLen dcLen pmLen anLen cdLen ctLen), slLen⟩)
    (cLen : PySem.W.codeIn K cdLen "Mask.__len__" = true)
    (kLen : PySem.W.keepIn K (.ref fLen) = true)
    (aEq : PySem.W.findIn K (.ref C) "__eq__" = some (some (.ref fEq)))
    (iEq : PySem.W.isFn K (.ref fEq) = true)
    (lEq : K.lookup fEq = some ⟨ocEq, odEq, .func (PySem.W.fnOf "__eq__" "Mask.__eq__" (defArgs sEq) (defBody sEq) (defScope sEq) .none kVEq dcEq pmEq anEq cdEq ctEq), slEq⟩)
    (cEq : PySem.W.codeIn K cdEq "Mask.__eq__" = true)
    (kEq : PySem.W.keepIn K (.ref fEq) = true)
    (aPth : PySem.W.findIn K (.ref C) "paths" = some (some (.ref pPth)))
    (gPth : PySem.W.specialIn K (.ref pPth) "__get__" = some (some (.builtin "property.__get__")))
    (tPth : PySem.W.takesIn K (.ref pPth) = some true)
    (rPth : PySem.W.recIn K pPth "property" = some (.ref fPth :: restPth))
    (lPth : K.lookup fPth = some ⟨ocPth, odPth, .func (PySem.W.fnOf "paths" "Mask.paths" (defArgs sPaths) (defBody sPaths) (defScope sPaths) .none kVPth dcPth pmPth anPth cdPth ctPth), slPth⟩)
    (cPth : PySem.W.codeIn K cdPth "Mask.paths" = true)
    (kPth : PySem.W.keepIn K (.ref fPth) = true)
    (pgC : PySem.W.plainGet K C Str.empty = true)
    (hdC : PySem.W.hasDictIn K C = true)
    (poC : PySem.W.plainOver K C = true)
    (saC : PySem.W.findIn K (.ref C) "__setattr__" = some (some (.builtin "object.__setattr__")))
    (mkC : PySem.W.makesIn K C = true)
    (kcC : PySem.W.keepIn K (.ref C) = true)
    (caC : PySem.W.findIn K (.ref C) "__class__" = some (some (.builtin "object.__class__")))
    (cmC : PySem.W.mroIn K C (.type "object") = some true)
    (nrowsC : PySem.W.findIn K (.ref C) "rows" = some none)
    (neC : PySem.W.findIn K (.ref C) "__ne__" = some (some (.builtin "object.__ne__")))
    (obC : PySem.W.subIn K (.ref C) (.type "object") = some true)
    (ciC : PySem.W.clsIn K C = some clsC)
    (tpC : PySem.W.typeIn K (.ref C) = some (.type "type"))
    (z_isinstance : PySem.W.nsIn K mainGlobals "isinstance" = some none)
    (z_str : PySem.W.nsIn K mainGlobals "str" = some none)
    (z_len : PySem.W.nsIn K mainGlobals "len" = some none)
    (z_all : PySem.W.nsIn K mainGlobals "all" = some none)
    (z_any : PySem.W.nsIn K mainGlobals "any" = some none)
    (z_tuple : PySem.W.nsIn K mainGlobals "tuple" = some none)
    (z_sorted : PySem.W.nsIn K mainGlobals "sorted" = some none)
    (z_int : PySem.W.nsIn K mainGlobals "int" = some none)
    (z_range : PySem.W.nsIn K mainGlobals "range" = some none)
    (z_max : PySem.W.nsIn K mainGlobals "max" = some none)
    (z_min : PySem.W.nsIn K mainGlobals "min" = some none)
    (z_repr : PySem.W.nsIn K mainGlobals "repr" = some none)
    (z_list : PySem.W.nsIn K mainGlobals "list" = some none)
    (z_set : PySem.W.nsIn K mainGlobals "set" = some none)
    (vLETTERS : PySem.W.nsIn K mainGlobals "LETTERS" = some (some (.str "abcdefghijklmnopqrstuvwxyz" tLE)))
    (vMOST : PySem.W.nsIn K mainGlobals "MOST_NAME" = some (some (.int 8 tMO)))
    (gn : PySem.W.specialIn K (.builtin "object.__class__") "__get__" = some (some (.builtin "getset_descriptor.__get__")))
    (gt : PySem.W.takesIn K (.builtin "object.__class__") = some true)
    : ∃ fd : FuncData, (∀ (s : Shared) (v : Value), BindsTo s fd ⟨[v], []⟩ [("script", v)]) ∧ ∀ base : Heap, K.In base → base.Ns mainGlobals mg → FnOk l.prog w K mg base CX0 6 fa fd ["script"] (spLaw K) := by
  have e0 := hfa.symm.trans (PySem.W.mg_of X G aLaw)
  cases e0
  refine ⟨PySem.W.fnOf "law" "law" (defArgs sLaw) (defBody sLaw) (defScope sLaw) .none kVLaw dcLaw pmLaw anLaw cdLaw ctLaw, fun s v => .of_eq rfl, fun base _ _ => ?_⟩
  have m_isinstance := PySem.W.mg_none_of X G z_isinstance
  have m_str := PySem.W.mg_none_of X G z_str
  have m_len := PySem.W.mg_none_of X G z_len
  have m_all := PySem.W.mg_none_of X G z_all
  have m_any := PySem.W.mg_none_of X G z_any
  have m_tuple := PySem.W.mg_none_of X G z_tuple
  have m_sorted := PySem.W.mg_none_of X G z_sorted
  have m_int := PySem.W.mg_none_of X G z_int
  have m_range := PySem.W.mg_none_of X G z_range
  have m_max := PySem.W.mg_none_of X G z_max
  have m_min := PySem.W.mg_none_of X G z_min
  have m_repr := PySem.W.mg_none_of X G z_repr
  have m_list := PySem.W.mg_none_of X G z_list
  have m_set := PySem.W.mg_none_of X G z_set
  have m_vLETTERS := PySem.W.mg_of X G vLETTERS
  have m_vMOST := PySem.W.mg_of X G vMOST
  have m_C := PySem.W.mg_of X G aC
  have FIl := fun_mk (st := sIsLetters) lIl cIl kIl
  have bIl := FIl.binds (ps := ["value", "least", "most"]) fun _ _ _ _ _ _ us hl => match us, hl with | [_, _, _], _ => rfl
  have FIn := fun_mk (st := sIsName) lIn cIn kIn
  have bIn := FIn.binds (ps := ["value"]) fun _ _ _ _ _ _ us hl => match us, hl with | [_], _ => rfl
  have FIr := fun_mk (st := sIsRow) lIr cIr kIr
  have bIr := FIr.binds (ps := ["value"]) fun _ _ _ _ _ _ us hl => match us, hl with | [_], _ => rfl
  have FBe := fun_mk (st := sBegins) lBe cBe kBe
  have bBe := FBe.binds (ps := ["path", "front"]) fun _ _ _ _ _ _ us hl => match us, hl with | [_, _], _ => rfl
  have FCo := fun_mk (st := sCovers) lCo cCo kCo
  have bCo := FCo.binds (ps := ["paths", "path"]) fun _ _ _ _ _ _ us hl => match us, hl with | [_, _], _ => rfl
  have FFe := fun_mk (st := sFewest) lFe cFe kFe
  have bFe := FFe.binds (ps := ["paths"]) fun _ _ _ _ _ _ us hl => match us, hl with | [_], _ => rfl
  have FTa := fun_mk (st := sTape) lTa cTa kTa
  have bTa := FTa.binds (ps := ["script", "start"]) fun _ _ _ _ _ _ us hl => match us, hl with | [_, _], _ => rfl
  have FPi := fun_mk (st := sPick) lPi cPi kPi
  have bPi := FPi.binds (ps := ["tape", "many"]) fun _ _ _ _ _ _ us hl => match us, hl with | [_, _], _ => rfl
  have FOo := fun_mk (st := sOneOf) lOo cOo kOo
  have bOo := FOo.binds (ps := ["tape", "items"]) fun _ _ _ _ _ _ us hl => match us, hl with | [_, _], _ => rfl
  have FSh := fun_mk (st := sShuf) lSh cSh kSh
  have bSh := FSh.binds (ps := ["tape", "things"]) fun _ _ _ _ _ _ us hl => match us, hl with | [_, _], _ => rfl
  have FPa := fun_mk (st := sPath) lPa cPa kPa
  have bPa := FPa.binds (ps := ["tape"]) fun _ _ _ _ _ _ us hl => match us, hl with | [_], _ => rfl
  have FLB := fun_mk (st := sLBegins) lLB cLB kLB
  have bLB := FLB.binds (ps := ["path", "front"]) fun _ _ _ _ _ _ us hl => match us, hl with | [_, _], _ => rfl
  have FLC := fun_mk (st := sLCov) lLC cLC kLC
  have bLC := FLC.binds (ps := ["paths", "path"]) fun _ _ _ _ _ _ us hl => match us, hl with | [_, _], _ => rfl
  have FLF := fun_mk (st := sLFew) lLF cLF kLF
  have bLF := FLF.binds (ps := ["paths"]) fun _ _ _ _ _ _ us hl => match us, hl with | [_], _ => rfl
  have FDr := fun_mk (st := sDrawn) lDr cDr kDr
  have bDr := FDr.binds (ps := ["tape"]) fun _ _ _ _ _ _ us hl => match us, hl with | [_], _ => rfl
  have FLaw := fun_mk (st := sLaw) lLaw cLaw kLaw
  have FIni : FunD K "__init__" "Mask.__init__" (defArgs sInit) (defBody sInit) (defScope sInit) [V.ref eIni] [] fIni _ := ⟨⟨_, _, _, _, _, _, _, _, _, _, rfl, lIni, cIni, .inr ⟨(fun z => nomatch z), TIni, _, [.ref eIni], _, rfl, lTIni, rfl, .cons rfl .nil⟩, .inl rfl⟩, kIni⟩
  have FLen := fun_mk (st := sLen) lLen cLen kLen
  have bLen := FLen.binds (ps := ["self"]) fun _ _ _ _ _ _ us hl => match us, hl with | [_], _ => rfl
  have FEq := fun_mk (st := sEq) lEq cEq kEq
  have bEq := FEq.binds (ps := ["self", "other"]) fun _ _ _ _ _ _ us hl => match us, hl with | [_, _], _ => rfl
  have FPth := fun_mk (st := sPaths) lPth cPth kPth
  have bPth := FPth.binds (ps := ["self"]) fun _ _ _ _ _ _ us hl => match us, hl with | [_], _ => rfl
  have TN : TxtN K mg := ⟨m_isinstance, m_str, m_len, m_all, ⟨_, m_vLETTERS⟩, ⟨_, m_vMOST⟩⟩
  have TR : TxtR mg := ⟨m_isinstance, m_tuple, m_len, m_all, m_any⟩
  have TF : TxtF mg := ⟨m_sorted, m_any⟩
  have TT : TxtT mg := ⟨m_int, m_len, m_range, m_tuple⟩
  have T : TxtM K mg C := ⟨m_isinstance, m_tuple, m_all, ⟨pgC, hdC, poC, saC⟩, nrowsC, m_C, caC, gn, gt, cmC⟩
  have DIl : Df l.prog w K mg base 1 fIl "is_letters" ["value", "least", "most"] (spIsLetters K) := ⟨⟨_, ok_is_letters FIl TN, bIl⟩, PySem.W.mg_of X G aIl, kIl⟩
  have DIn : Df l.prog w K mg base 2 fIn "is_name" ["value"] (spIsName K) := ⟨⟨_, ok_is_name FIn TN DIl, bIn⟩, PySem.W.mg_of X G aIn, kIn⟩
  have DIr : Df l.prog w K mg base 3 fIr "is_row" ["value"] (spIsRow K) := ⟨⟨_, ok_is_row FIr TR DIn, bIr⟩, PySem.W.mg_of X G aIr, kIr⟩
  have DBe : Df l.prog w K mg base 1 fBe "begins" ["path", "front"] (spBegins) := ⟨⟨_, ok_begins FBe TR, bBe⟩, PySem.W.mg_of X G aBe, kBe⟩
  have DCo : Df l.prog w K mg base 2 fCo "covers" ["paths", "path"] (spCovers) := ⟨⟨_, ok_covers FCo TR DBe, bCo⟩, PySem.W.mg_of X G aCo, kCo⟩
  have DFe : Df l.prog w K mg base 2 fFe "fewest" ["paths"] (spFewest K) := ⟨⟨_, ok_fewest FFe TF DBe, bFe⟩, PySem.W.mg_of X G aFe, kFe⟩
  have DTa : Df l.prog w K mg base 1 fTa "_law_tape" ["script", "start"] (spTape K) := ⟨⟨_, ok_tape FTa TT, bTa⟩, PySem.W.mg_of X G aTa, kTa⟩
  have DPi : Df l.prog w K mg base 1 fPi "_law_pick" ["tape", "many"] (spPick) := ⟨⟨_, ok_pick FPi TT, bPi⟩, PySem.W.mg_of X G aPi, kPi⟩
  have DOo : Df l.prog w K mg base 2 fOo "_law_one_of" ["tape", "items"] (spOneOf K) := ⟨⟨_, ok_one_of FOo TT DPi, bOo⟩, PySem.W.mg_of X G aOo, kOo⟩
  have DPa : Df l.prog w K mg base 3 fPa "_law_path" ["tape"] (spPath NM) := ⟨⟨_, ok_path FPa TT DPi DOo, bPa⟩, PySem.W.mg_of X G aPa, kPa⟩
  have DDr : Df l.prog w K mg base 4 fDr "_law_drawn" ["tape"] (spDrawn NM) := ⟨⟨_, ok_drawn FDr TT DPi DPa, bDr⟩, PySem.W.mg_of X G aDr, kDr⟩
  obtain ⟨dz2, vz2, bz2⟩ := FIni.binds1 (ps := ["self", "paths"]) 2 1 (fun z => nomatch z) rfl (fun _ _ _ _ _ _ _ us its h1 h2 => match us, its, h1, h2 with | [_, _], [_], _, _ => ⟨_, rfl, rfl⟩)
  cases vz2
  obtain ⟨dz1, vz1, bz1⟩ := FIni.binds1 (ps := ["self", "paths"]) 1 0 (fun z => nomatch z) rfl (fun _ _ _ _ _ _ _ us its h1 h2 => match us, its, h1, h2 with | [_], [_], _, _ => ⟨_, rfl, rfl⟩)
  obtain ⟨iz, kz⟩ := FIni.kbindsD (ps := ["self", "paths"]) 1 ["paths"] (fun us _ ws => us ++ ws) (fun z => nomatch z) (fun r _ z => r.append z) (fun _ _ _ _ _ _ _ us its ws h1 h2 h3 => match us, its, ws, h1, h2, h3 with | [_], [_], [_], _, _, _ => ⟨_, rfl, rfl⟩)
  have oI := ok_init (P := l.prog) (w := w) (mg := mg) (base := base) FIni T DIr DFe
  have mkI : Mk K C fIni := ⟨mkC, aIni, iIni, kcC⟩
  have M : MkM l.prog w K mg base C := ⟨⟨_, _, mkI, oI, bz2⟩⟩
  have M0 : MkD l.prog w K mg base C := ⟨⟨_, _, eIni, _, mkI, oI, bz1, vz1, fun H => .inr ⟨_, #[], _, lEIni, rfl, rfl, Nat.zero_le _, .nil⟩⟩⟩
  have MK : MkK l.prog w K mg base C := ⟨⟨_, _, mkI, oI, kz⟩⟩
  have DEq : Dm l.prog w K mg base C 1 "__eq__" fEq ["self", "other"] (spEqM C) := ⟨⟨_, ok_eq FEq T, bEq⟩, ⟨aEq, iEq, kEq⟩⟩
  have DLen : Dm l.prog w K mg base C 1 "__len__" fLen ["self"] (spLenM C) := ⟨⟨_, ok_len FLen T m_len, bLen⟩, ⟨aLen, iLen, kLen⟩⟩
  have DPth : Pr l.prog w K mg base C 1 "paths" (spPathsM C) := ⟨⟨_, _, _, ⟨aPth, gPth, tPth, ⟨_, rPth⟩⟩, ok_paths FPth T m_list, bPth⟩⟩
  have DLB : Df l.prog w K mg base 1 fLB "_law_begins" ["path", "front"] spBegins := ⟨⟨_, ok_lbegins FLB TR, bLB⟩, PySem.W.mg_of X G aLB, kLB⟩
  have DLC : Df l.prog w K mg base 2 fLC "_law_covers" ["paths", "path"] (spLCov K) := ⟨⟨_, ok_lcov FLC DLB, bLC⟩, PySem.W.mg_of X G aLC, kLC⟩
  have DLF : Df l.prog w K mg base 3 fLF "_law_fewest" ["paths"] (spLFew K) := ⟨⟨_, ok_lfew FLF ⟨m_sorted, m_set⟩ DLC, bLF⟩, PySem.W.mg_of X G aLF, kLF⟩
  have DEX : Dm l.prog w K mg base C 1 "__eq__" fEq ["self", "other"] (spEqX K C) := ⟨⟨_, ok_eqX FEq T, bEq⟩, ⟨aEq, iEq, kEq⟩⟩
  have DSh : Df l.prog w K mg base 2 fSh "_law_shuffled" ["tape", "things"] spShuf := ⟨⟨_, ok_shuf FSh TT m_list DPi, bSh⟩, PySem.W.mg_of X G aSh, kSh⟩
  have pc : PlainCls K C := by
    unfold PlainCls
    rw [ciC, tpC]
    exact (Bool.true_and _).trans (beq_self_eq_true _)
  exact ok_law FLaw T ⟨m_len, m_max, m_min, m_range, m_repr⟩ ⟨neC, obC⟩ pc DTa DDr DSh DOo M M0 DEX DLen DPth DLF
theorem walk {l : PySem.W.OpenLaw} {q : Program} {loose : List Str} {XP : (Str → Option Value) → Heap → Prop} {YP : World → Heap → Prop} {d : DefRec} {K : Params → PySem.W.Frag} (hn : l.most = some 63) (hdf : d.params.defaults = [])
    (hY : ∀ (w : World) (h : Heap), YP w h → (K w.params).In h)
    (F : ∀ (w : World) (mg : Str → Option Value) (fa : Addr) (h : Heap), (K w.params).In h → h.Ns mainGlobals mg → mg d.name = some (.ref fa) →
      ∃ fd : FuncData, (∀ (s : Shared) (u : Value), BindsTo s fd ⟨[u], []⟩ [("script", u)]) ∧ ∀ base : Heap, (K w.params).In base → base.Ns mainGlobals mg → FnOk l.prog w (K w.params) mg base CX0 6 fa fd ["script"] (spLaw (K w.params))) :
    PySem.W.WalkO q loose XP YP l.row.toRowW d [] (fun f vs => PySem.call f vs) :=
  L2.walk_ofB (n := 63) (k := 6) (x := "script") (CX := fun _ => CX0) (sp := fun w => spLaw (K w.params)) hn (by decide) hdf ⟨rfl, by decide, by decide⟩ hY F (fun _ _ a ns hl hb _ hS => ⟨a, ns, rfl, hS, hl, hb, fun _ => rfl⟩) fun _ _ _ _ _ z => z
end Lw

open PySem PySem.W PyProof.Rows in
set_option maxRecDepth 100000 in
set_option maxHeartbeats 0 in
theorem PySem.Challenge.cw_maskwrites_k12_masks_counted_and_equal_holds : PySem.Challenge.rw_maskwrites_k12_masks_counted_and_equal.Holds := by
  w_on; o_law; k_head; (case hw => w_witness2)
  k_fill
  refine Lw.walk (l := PySem.Challenge.rw_maskwrites_k12_masks_counted_and_equal) rfl rfl (fun w h Y => PySem.W.kIn_of Y) ?F
  case F =>
    intro w mg fa h KX G hmg
    refine' Lw.all_mk KX G hmg ?aIl ?lIl ?cIl ?kIl ?aIn ?lIn ?cIn ?kIn ?aIr ?lIr ?cIr ?kIr ?aBe ?lBe ?cBe ?kBe ?aCo ?lCo ?cCo ?kCo ?aFe ?lFe ?cFe ?kFe ?aTa ?lTa ?cTa ?kTa ?aPi ?lPi ?cPi ?kPi ?aOo ?lOo ?cOo ?kOo ?aSh ?lSh ?cSh ?kSh ?aPa ?lPa ?cPa ?kPa ?aLB ?lLB ?cLB ?kLB ?aLC ?lLC ?cLC ?kLC ?aLF ?lLF ?cLF ?kLF ?aDr ?lDr ?cDr ?kDr ?aLaw ?lLaw ?cLaw ?kLaw ?aC ?aIni ?iIni ?lIni ?cIni ?kIni ?lTIni ?lEIni ?aLen ?iLen ?lLen ?cLen ?kLen ?aEq ?iEq ?lEq ?cEq ?kEq ?aPth ?gPth ?tPth ?rPth ?lPth ?cPth ?kPth ?pgC ?hdC ?poC ?saC ?mkC ?kcC ?caC ?cmC ?nrowsC ?neC ?obC ?ciC ?tpC ?z_isinstance ?z_str ?z_len ?z_all ?z_any ?z_tuple ?z_sorted ?z_int ?z_range ?z_max ?z_min ?z_repr ?z_list ?z_set ?vLETTERS ?vMOST ?gn ?gt
    (case aIl => k_is)
    (case lIl => k_is)
    (case cIl => k_is)
    (case kIl => k_is)
    (case aIn => k_is)
    (case lIn => k_is)
    (case cIn => k_is)
    (case kIn => k_is)
    (case aIr => k_is)
    (case lIr => k_is)
    (case cIr => k_is)
    (case kIr => k_is)
    (case aBe => k_is)
    (case lBe => k_is)
    (case cBe => k_is)
    (case kBe => k_is)
    (case aCo => k_is)
    (case lCo => k_is)
    (case cCo => k_is)
    (case kCo => k_is)
    (case aFe => k_is)
    (case lFe => k_is)
    (case cFe => k_is)
    (case kFe => k_is)
    (case aTa => k_is)
    (case lTa => k_is)
    (case cTa => k_is)
    (case kTa => k_is)
    (case aPi => k_is)
    (case lPi => k_is)
    (case cPi => k_is)
    (case kPi => k_is)
    (case aOo => k_is)
    (case lOo => k_is)
    (case cOo => k_is)
    (case kOo => k_is)
    (case aSh => k_is)
    (case lSh => k_is)
    (case cSh => k_is)
    (case kSh => k_is)
    (case aPa => k_is)
    (case lPa => k_is)
    (case cPa => k_is)
    (case kPa => k_is)
    (case aLB => k_is)
    (case lLB => k_is)
    (case cLB => k_is)
    (case kLB => k_is)
    (case aLC => k_is)
    (case lLC => k_is)
    (case cLC => k_is)
    (case kLC => k_is)
    (case aLF => k_is)
    (case lLF => k_is)
    (case cLF => k_is)
    (case kLF => k_is)
    (case aDr => k_is)
    (case lDr => k_is)
    (case cDr => k_is)
    (case kDr => k_is)
    (case aLaw => k_is)
    (case lLaw => k_is)
    (case cLaw => k_is)
    (case kLaw => k_is)
    (case aC => k_is)
    (case aIni => k_is)
    (case iIni => k_is)
    (case lIni => k_is)
    (case cIni => k_is)
    (case kIni => k_is)
    (case lTIni => k_is)
    (case lEIni => k_is)
    (case aLen => k_is)
    (case iLen => k_is)
    (case lLen => k_is)
    (case cLen => k_is)
    (case kLen => k_is)
    (case aEq => k_is)
    (case iEq => k_is)
    (case lEq => k_is)
    (case cEq => k_is)
    (case kEq => k_is)
    (case aPth => k_is)
    (case gPth => k_is)
    (case tPth => k_is)
    (case rPth => k_is)
    (case lPth => k_is)
    (case cPth => k_is)
    (case kPth => k_is)
    (case pgC => k_is)
    (case hdC => k_is)
    (case poC => k_is)
    (case saC => k_is)
    (case mkC => k_is)
    (case kcC => k_is)
    (case caC => k_is)
    (case cmC => k_is)
    (case nrowsC => k_is)
    (case neC => k_is)
    (case obC => k_is)
    (case ciC => k_is)
    (case tpC => k_is)
    (case z_isinstance => k_is)
    (case z_str => k_is)
    (case z_len => k_is)
    (case z_all => k_is)
    (case z_any => k_is)
    (case z_tuple => k_is)
    (case z_sorted => k_is)
    (case z_int => k_is)
    (case z_range => k_is)
    (case z_max => k_is)
    (case z_min => k_is)
    (case z_repr => k_is)
    (case z_list => k_is)
    (case z_set => k_is)
    (case vLETTERS => k_is)
    (case vMOST => k_is)
    (case gn => k_is)
    (case gt => k_is)
#print axioms PySem.Challenge.cw_maskwrites_k12_masks_counted_and_equal_holds

