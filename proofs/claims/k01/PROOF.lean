import PyProof.Rows.All
import Wide.All
import OpenK.AllK
import Wide.FinOn
import HandS.ForMost
import HandS.DictComp
import HandS.Conv
import HandS.IsInst
import HandS.Star
import HandS.MakeKw
import HandS.TupAny
import HandS.OwnEq
import HandS.Wide
import HandS.EndBits
import HandS.Keys
import KE.KSortTupG
import HandS.Defaults
import PyProof.InstEq
import HandS.Walk
import KE.IntBitsLaws
import OpenK.KOps
import HandS.Property
import HandS.TryOnly
import PyProof.ReprRoads
import PyProof.CallFns
import KE.LtData
import HandS.RaiseMore
import PyProof.StrOps2
import PyProof.FitsStr
import HandS.Text
import PySem.Challenge.RW_maskwrites_k01_names_and_values
import HandS.TupLe
set_option Elab.async false
set_option linter.all false
set_option maxRecDepth 100000
set_option maxHeartbeats 4000000
/-! Gk: what the masks' laws want beyond the hand layer. -/
namespace Gk
open PySem PySem.Spec PyProof.Rows L2

/-! ### great numbers -/
abbrev nbits (i : Int) : Nat := Builtin.Int.intBits i
def CMulB (i j : Int) : Prop := nbits i + nbits j ≤ 134217728
def CPowB (i j : Int) : Prop := 0 ≤ j ∧ (nbits i : Int) * j ≤ 134217728
section
variable {X : Cx}
theorem op_mulB : OpR X (binaryOp .Mult) (rI CMulB fun i j => .int (i * j)) :=
  opI fun i j _ _ _ _ _ hc q => mul_int q (IntMulOk.of_le (Nat.le_refl _) (Nat.le_refl _) hc)
theorem op_powB : OpR X (binaryOp .Pow) (rI CPowB fun i j => .int (i ^ j.toNat)) :=
  opI fun i j _ _ _ _ _ hc q => pow_int hc.1 hc.2 q
end

/-! ### either way -/
section
variable {X : Cx}
theorem pi_or {tg it : Expr} {w1 w2 : TI} (h1 : PI X tg it w1) (h2 : PI X tg it w2) : PI X tg it (fun st H R => w1 st H R ∨ w2 st H R) :=
  ⟨fun ps s st H R I h => h.elim (h1.run ps s st H R I) (h2.run ps s st H R I)⟩
theorem pe_or2 {e : Expr} {t1 t2 : TE} (h1 : PE X e t1) (h2 : PE X e t2) : PE X e (fun st H Q => t1 st H Q ∨ t2 st H Q) :=
  ⟨fun ps s st H Q I h => h.elim (h1.run ps s st H Q I) (h2.run ps s st H Q I)⟩
theorem cr_or {f : Value} {r1 r2 : List V → Hp → VK → Prop} (h1 : CallR X f r1) (h2 : CallR X f r2) : CallR X f (fun vs H Q => r1 vs H Q ∨ r2 vs H Q) :=
  fun ps s st H xs us Q I r h => h.elim (h1 ps s st H xs us Q I r) (h2 ps s st H xs us Q I r)
end

/-! ### a dict made by a comprehension, whatever its keys -/
/-- what a turn's store asks: the dict's place, key, value, heap, what is wanted behind -/
abbrev TStore := Addr → V → V → Hp → (Hp → Prop) → Prop
structure StoreOk (P : Program) (w : World) (A : Around) (new : HO) (t : TStore) : Prop where
  fresh : ∀ (H : Hp) (h : Heap), sysModules < h.objs.size → ObjOk P w H (h.push { cls := .type "dict", data := .dict #[] }) h.objs.size new
  store : ∀ (X : Cx) (ps : List (Addr × Obj)) (st : L2.St) (H : Hp) (s : Shared) (D : Addr) (y z : V) (u r : Value) (R : Hp → Prop), X.prog = P → X.w = w → X.A = A →
    Inv X ps st H s → RelV y u → RelV z r → t D y z H R → wpAny (model P w) A (dictSet D u r) (fun _ s2 => ∃ H2, Inv X ps st H2 s2 ∧ R H2) X.xe s
def tDcG (new : HO) (t : TStore) (wi : TI) (g : TG) (tt : TT) (tk tv : TE) (vs : List Nat) : TE := fun st H Q => wi st H fun J H1 =>
  ∀ D, H1 D = none → ∃ W : Nat → Nat → Hp → Prop, (∃ m, W 0 m (upd H1 D new)) ∧ ∀ i m Ha, W i m Ha →
    (J.stop i Ha ∧ Q (.ref D) Ha) ∨
    (J.go i Ha ∧ ∃ Nx : Hp → Prop, (∀ Hb, Nx Hb → ∃ m2, m2 < m ∧ W (i + 1) m2 Hb) ∧ ∀ x Hb, J.yld i Ha x Hb →
      g x (wipe st vs) Hb fun st2 H2 => wipe st2 vs = wipe st vs ∧ tt st2 H2 fun b H3 =>
        if b = true then tk st2 H3 fun y H4 => tv st2 H4 fun z H5 => t D y z H5 Nx else Nx H3)

theorem dcG_core {X : Cx} {ps : List (Addr × Obj)} {s : Shared} {st : L2.St} {H : Hp} {Q : VK} {kx vx tg iter : Expr} {ifs : List Expr} {sc : Scope} {own : List (Str × Nat)} {pos pos2 : Pos}
    {wi : TI} {g : TG} {tt : TT} {tk tv : TE} {new : HO} {t : TStore} {Qf : Value → Shared → Prop}
    (so : StoreOk X.prog X.w X.A new t) (calm : X.calm = true) (nd : X.N.Nodup) (I : Inv X ps st H s) (walk : PI X tg iter wi) (ok : BlkOk X.N X.env.scope sc own)
    (pgA : ∀ (s : Shared) (H : Hp) (C : Addr) (cl : List (Str × Addr)) (fp : List Addr), PG (X.blk s H sc (compEnvC sc cl C X.env) fp) tg g)
    (ptA : ∀ (s : Shared) (H : Hp) (C : Addr) (cl : List (Str × Addr)) (fp : List Addr), PTs (X.blk s H sc (compEnvC sc cl C X.env) fp) ifs tt)
    (pkA : ∀ (s : Shared) (H : Hp) (C : Addr) (cl : List (Str × Addr)) (fp : List Addr), PE (X.blk s H sc (compEnvC sc cl C X.env) fp) kx tk)
    (pvA : ∀ (s : Shared) (H : Hp) (C : Addr) (cl : List (Str × Addr)) (fp : List Addr), PE (X.blk s H sc (compEnvC sc cl C X.env) fp) vx tv)
    (hs : ∀ x, foldedSetIterable iter X.env x = pure x) (h : tDcG new t wi g tt tk tv (own.map (·.2)) st H Q)
    (fin : ∀ D C s2 m H2, Inv X ps st H2 s2 → Q (.ref D) H2 → s2.heap.Ns C m → FpOk X ps H2 C → compPost (model X.prog X.w) X.A X.xe none Qf (.ref D) C (.ok .next) s2) :
    wpAny (model X.prog X.w) X.A (comprehension (.DictComp kx vx [⟨tg, iter, ifs, 0⟩] sc pos) sc X.env pos2 newDict false (eval iter X.env) none) Qf X.xe s := by
  have free : ∀ y ∈ sc.names, y.2 = .free → ∃ c, X.env.cells.lookup y.1 = some c := by
    intro y hy e
    exact I.ok.has _ (ok.free y hy e)
  refine wpAny_comprehension_free (use := none) rfl hs (closure_ok free) ok.kind (fun y hy e => by rw [ok.uniq y hy, e]) ?_
  refine thn (walk.run ps s st H _ I h) fun v0 s1 k1 => thn k1 fun v1 s2 k2 => ?_
  obtain ⟨it, fp, tn, J, H2, rfl, I2, T, at2, f2, q⟩ := k2
  refine wpAny_newObj_type (newEnv_comp ?_)
  have noD : H2 s2.heap.objs.size = none := I2.hok.fresh (Nat.le_refl _)
  obtain ⟨W, ⟨m0, w0⟩, turn⟩ := q _ noD
  generalize eD : s2.heap.objs.size = D at *
  generalize e3 : ({ s2 with heap := s2.heap.push { cls := .type "dict", data := .dict #[] } } : Shared) = s3
  have hp3 : s3.heap = s2.heap.push { cls := .type "dict", data := .dict #[] } := by rw [← e3]
  have I3 : Inv X ps st (upd H2 D new) s3 := by
    rw [← e3, ← eD]
    exact I2.laid (t' := s2.toks) (fun b o e => Heap.get?_push_of_some _ e) (Nat.le_refl _) (so.fresh _ _ I2.big)
  have young : ∀ b ∈ fp, b < D := by
    intro b hb
    obtain ⟨o, e, _⟩ := T.obj _ _ at2 b hb
    rw [← eD]
    exact Heap.lt_size e
  have sz3 : s3.heap.objs.size = D + 1 := by rw [hp3, Heap.size_push, eD]
  have f3 : ∀ b ∈ fp, FpOk X ps (upd H2 D new) b ∧ b < s3.heap.objs.size := by
    intro b hb
    have lt := young b hb
    exact ⟨⟨(upd_ne (Nat.ne_of_lt lt)).trans (f2 b hb).1, (f2 b hb).2⟩, by rw [sz3]; exact Nat.lt_succ_of_lt lt⟩
  have at3 : tn 0 s3.heap := T.keep _ _ _ at2 fun b _ o e => hp3 ▸ Heap.get?_push_of_some _ e
  have I4 := block_start I3 ok nd f3
  show codeAny _ _ (.compStart (.DictComp kx vx [⟨tg, iter, ifs, 0⟩] sc pos) 0 (.ref it) (.ref D) (compEnvC sc (cellsFrom (s3.heap.objs.size + 1) sc.names (cloFrom X.env.cells sc.names [])) s3.heap.objs.size X.env))
    (compPost (model X.prog X.w) X.A X.xe none Qf (.ref D) s3.heap.objs.size) { s3 with heap := pushCells (s3.heap.push { cls := .type "dict", data := .dict #[] }) sc.names }
  generalize eC : cellsFrom (s3.heap.objs.size + 1) sc.names (cloFrom X.env.cells sc.names []) = cells at I4 ⊢
  have pg := pgA s3 (upd H2 D new) s3.heap.objs.size cells fp
  have pt := ptA s3 (upd H2 D new) s3.heap.objs.size cells fp
  have pk := pkA s3 (upd H2 D new) s3.heap.objs.size cells fp
  have pv := pvA s3 (upd H2 D new) s3.heap.objs.size cells fp
  generalize eE : compEnvC sc cells s3.heap.objs.size X.env = ce at I4 pg pt pk pv ⊢
  have loc : ce.locals = s3.heap.objs.size := by rw [← eE] <;> rfl
  generalize eH : upd H2 D new = H3 at I3 I4 pg pt pk pv w0 f3
  generalize e4 : ({ s3 with heap := pushCells (s3.heap.push { cls := .type "dict", data := .dict #[] }) sc.names } : Shared) = s4 at I4 ⊢
  have at4 : tn 0 s4.heap := T.keep _ _ _ at3 fun b _ o e => by
    rw [← e4]
    exact pushCells_keeps _ _ _ _ (Heap.get?_push_of_some _ e)
  have fpo : ∀ {st1 : L2.St} {Ha : Hp} {sa : Shared}, Inv (X.blk s3 H3 sc ce fp) [] st1 Ha sa → (∀ b ∈ fp, Ha b = none) → ∀ b ∈ fp, FpOk (X.blk s3 H3 sc ce fp) [] Ha b := by
    intro st1 Ha sa Ia hn b hb
    have e := Ia.ok.exf b hb
    exact ⟨hn b hb, e.1, Ia.ok.exfs b hb, .inl hb, fun x c z => e.2 x c z, fun p hp => absurd (show p ∈ ([] : List (Addr × Obj)) from hp) List.not_mem_nil⟩
  have loop : codeAny (model X.prog X.w) X.A (.compLoop (.DictComp kx vx [⟨tg, iter, ifs, 0⟩] sc pos) 0 (.ref it) (.ref D) ce) (compPost (model X.prog X.w) X.A X.xe none Qf (.ref D) s3.heap.objs.size) s4 := by
    refine compLoop_anyD (fun n sa => ∃ i Ha, Inv (X.blk s3 H3 sc ce fp) [] (wipe st (own.map (·.2))) Ha sa ∧ tn i sa.heap ∧ (∀ b ∈ fp, Ha b = none) ∧ W i n Ha) ?_ m0 ⟨0, H3, I4, at4, fun b hb => (f3 b hb).1.1, w0⟩
    rintro n s5 ⟨i, H5, I5, at5, n5, w5⟩
    rcases turn i n H5 w5 with ⟨stop, qq⟩ | ⟨go, Nx, down, step⟩
    · refine thnF (T.done (X.blk s3 H3 sc ce fp) rfl rfl rfl calm i [] s5 _ H5 (fun _ _ => False) I5 (fpo I5 n5) at5 stop) fun r s6 hr => ?_
      obtain ⟨rfl, I6⟩ := hr
      have I7 : Inv X ps st H5 s6 := I3.call' (ch := fp) I6.os I6.base I6.hok I6.bare fun b hb => by
        obtain ⟨⟨_, a1, _, a3, a4, a5⟩, _⟩ := f3 b hb
        exact ⟨a3, a1, a4, a5⟩
      have noC : H5 s3.heap.objs.size = none := loc ▸ I6.free
      obtain ⟨m, hn, _⟩ := I6.loc
      exact fin D s3.heap.objs.size s6 m H5 I7 qq (loc ▸ (show s6.heap.Ns ce.locals m from hn)) (I3.fpOk (Nat.le_refl _) noC)
    · refine thnF (T.item (X.blk s3 H3 sc ce fp) rfl rfl rfl calm i [] s5 _ H5 (fun _ _ => False) I5 (fpo I5 n5) at5 go) fun r s6 hr => ?_
      obtain ⟨u, rfl, k6⟩ := hr
      refine thnF k6 fun _ s7 k7 => ?_
      obtain ⟨x, H7, I7, r7, y7, at7, n7⟩ := k7
      have J7 := I7.pinned (fpo I7 n7) (T.obj _ _ at7)
      refine thnF (pg.run _ s7 _ H7 x u _ J7 r7 (step x H7 y7)) fun _ s8 k8 => ?_
      obtain ⟨st8, H8, I8, ew, q8⟩ := k8
      refine thnF (pt.run _ s8 st8 H8 _ I8 q8) fun b s9 k9 => ?_
      obtain ⟨H9, I9, q9⟩ := k9
      have next : ∀ {sb : Shared} {Hb : Hp}, Inv (X.blk s3 H3 sc ce fp) ([] ++ pinsAt fp s7.heap) st8 Hb sb → Nx Hb →
          ∃ m, m < n ∧ ∃ i Ha, Inv (X.blk s3 H3 sc ce fp) [] (wipe st (own.map (·.2))) Ha sb ∧ tn i sb.heap ∧ (∀ b ∈ fp, Ha b = none) ∧ W i m Ha := by
        intro sb Hb Ib nx
        obtain ⟨m2, lt, w2⟩ := down Hb nx
        have still : ∀ b ∈ fp, ∀ o, s7.heap.get? b = some o → sb.heap.get? b = some o ∧ Hb b = none := by
          intro b hb o e
          have z := Ib.pin (b, o) (List.mem_append_right _ (List.mem_append_right _ (mem_pinsAt hb e)))
          exact ⟨z.1, z.2.1⟩
        have el : (wipe st (own.map (·.2))).length = st8.length := ew ▸ wipe_length _ _
        refine ⟨m2, lt, i + 1, Hb, (Ib.unpinned (pins := [])).weak el fun j v e => (wipe_some (ew ▸ e)).1, T.keep _ _ _ at7 fun b hb o e => (still b hb o e).1, ?_, w2⟩
        intro b hb
        obtain ⟨o, e, _⟩ := T.obj _ _ at7 b hb
        exact (still b hb o e).2
      cases b with
      | false =>
        rw [if_neg Bool.false_ne_true] at q9 ⊢
        exact next I9 q9
      | true =>
        rw [if_pos rfl] at q9 ⊢
        refine thnF (pk.run _ s9 st8 H9 _ I9 q9) fun ku s10 k10 => ?_
        obtain ⟨yk, H10, I10, r10, q10⟩ := k10
        refine thnF (pv.run _ s10 st8 H10 _ I10 q10) fun vu s11 k11 => ?_
        obtain ⟨yv, H11, I11, r11, q11⟩ := k11
        refine thnF (so.store (X.blk s3 H3 sc ce fp) _ st8 H11 s11 D yk yv ku vu Nx rfl rfl rfl I11 r10 r11 q11) fun _ s12 k12 => ?_
        obtain ⟨H12, I12, nx⟩ := k12
        exact next I12 nx
  exact codeAny_compStart_dict loop (T.self X.A 0 _ _ _ at4 loop)

theorem pe_dcG {X : Cx} {kx vx tg iter : Expr} {ifs : List Expr} {sc : Scope} {own : List (Str × Nat)} {pos : Pos} {wi : TI} {g : TG} {tt : TT} {tk tv : TE} {new : HO} {t : TStore}
    (so : StoreOk X.prog X.w X.A new t) (calm : X.calm = true) (nd : X.N.Nodup) (walk : PI X tg iter wi) (ok : BlkOk X.N X.env.scope sc own)
    (pgA : ∀ (s : Shared) (H : Hp) (C : Addr) (cl : List (Str × Addr)) (fp : List Addr), PG (X.blk s H sc (compEnvC sc cl C X.env) fp) tg g)
    (ptA : ∀ (s : Shared) (H : Hp) (C : Addr) (cl : List (Str × Addr)) (fp : List Addr), PTs (X.blk s H sc (compEnvC sc cl C X.env) fp) ifs tt)
    (pkA : ∀ (s : Shared) (H : Hp) (C : Addr) (cl : List (Str × Addr)) (fp : List Addr), PE (X.blk s H sc (compEnvC sc cl C X.env) fp) kx tk)
    (pvA : ∀ (s : Shared) (H : Hp) (C : Addr) (cl : List (Str × Addr)) (fp : List Addr), PE (X.blk s H sc (compEnvC sc cl C X.env) fp) vx tv)
    (hs : ∀ x, foldedSetIterable iter X.env x = pure x := by intro _; rfl) :
    PE X (.DictComp kx vx [⟨tg, iter, ifs, 0⟩] sc pos) (tDcG new t wi g tt tk tv (own.map (·.2))) := by
  constructor
  intro ps s st H Q I h
  rw [arm_eval_DictComp]
  refine dcG_core so calm nd I walk ok pgA ptA pkA pvA hs h fun D C s2 m H2 I2 q hn f => ⟨m, hn, fun h3 sb => ?_⟩
  obtain ⟨f0, f1, f2, f3, f4, f5⟩ := f
  exact ⟨.ref D, H2, I2.turned (t' := s2.toks) (fun b o hb e => (sb.2 b hb).trans e) f0 f1 f3 f4 f5, rfl, q⟩

/-- keys that are tuples of ints and texts -/
def stT : TStore := fun D y z H R => ∃ (b : Addr) (kvs : List (List L2.Key × V)) (k : List L2.Key), y = .ref b ∧ H b = some (.tup (k.map kV)) ∧ H D = some (.dT kvs) ∧ kvs.length < sizeLine ∧ R (upd H D (.dT (putK kvs k z)))
theorem storeT {P : Program} {w : World} {A : Around} (hu : A.units < cLine) : StoreOk P w A (.dT []) stT where
  fresh := fun H h hb => dt_empty h hb
  store := by
    intro X ps st H s D y z u r R eP ew eA I ry rz q
    subst eP ew eA
    obtain ⟨b, kvs, k, rfl, hb, hD, lt, q⟩ := q
    cases (show u = Value.ref b from ry)
    obtain ⟨le, nsys, xs, rel, dd⟩ := dt_of I.hok hD
    have hz : xs.length ≤ sizeLine := by
      have e := Paired.length rel
      omega
    refine wpAny_dictSet_heap (hsz := hz) (show (tupleKind (mixKind X.prog X.w)).room X.A from hu) (key_of I.hok hb) dd fun h2 d2 sb => ?_
    obtain ⟨o, es, ep, g1, g2, g3, g4, _, g5⟩ := d2
    refine ⟨_, d_write I (by rw [hD]; exact True.intro) sb ⟨o, g1⟩ ?_, q⟩
    have lp := length_putK kvs k z
    refine ⟨by omega, nsys, _, (rel.put k hb rz).keeps fun c ys ec => ?_, o, es, ep, g1, g2, g3, g4, g5⟩
    exact (upd_ne (ne_of ec hD (fun z => nomatch z))).trans ec
end Gk
/-! Gk2: sorted of a dict whose keys are tuples of texts. -/
namespace Gk
open PySem PySem.Spec PyProof.Rows L2

abbrev Pth := List Str
def pkey (p : Pth) : List (Int ⊕ List Nat) := p.map fun x => Sum.inr x.cps.toList
def ltP (p q : Pth) : Bool := PyProof.Rows.lexLt PyProof.Rows.itemOrd (pkey p) (pkey q)
abbrev shT : Nat → Bool := fun _ => true

theorem items_pth : ∀ (p : Pth) (us : List Value) (i : Nat), Vals (p.map V.str) us → tupItems shT i us = some (pkey p)
  | [], _, _, .nil => rfl
  | x :: p, _, i, .cons r t => by
    obtain ⟨k, rfl⟩ := r
    have e := items_pth p _ (i + 1) t
    show (if shT i = true then (tupItems shT (i + 1) _).map (Sum.inr x.cps.toList :: ·) else none) = _
    rw [if_pos rfl, e] <;> rfl

theorem tupKeyC_at {h : Heap} {a : Addr} {o : Obj} {xs : Array Value} {n : Nat} {l : List (Int ⊕ List Nat)} (ho : h.get? a = some o) (hc : o.cls = .type "tuple") (hd : o.data = .seq xs n)
    (hi : tupItems shT 0 xs.toList = some l) : G.tupKeyC h shT (.ref a) = some l := by
  have e1 : G.isTupObj h (.ref a) = true := by simp [G.isTupObj, ho, hc]
  unfold G.tupKeyC
  rw [if_pos e1]
  show tupKey h shT (.ref a) = some l
  simp only [tupKey, ho, hd]
  exact hi

section
variable {X : Cx}
/-- sorted(d), d's keys tuples of one or more texts -/
def rSortDT : List V → Hp → VK → Prop := fun vs H Q => ∃ (d : Addr) (kvs : List (List L2.Key × V)) (ks : List Pth), vs = [V.ref d] ∧ H d = some (.dT kvs) ∧ kvs.map (·.1) = ks.map (List.map Sum.inr) ∧ (∀ p ∈ ks, p ≠ []) ∧
  ∀ (bs : List (Addr × Pth)) (l : Addr), (bs.map (·.2)).Perm ks → bs.Pairwise (fun a b => ltP b.2 a.2 = false) → (∀ b ∈ bs, H b.1 = some (.tup (b.2.map V.str))) → H l = none →
    Q (.ref l) (upd H l (.lst (bs.map fun b => V.ref b.1)))

theorem kt_keys {H : Hp} : ∀ {kvs : List (List L2.Key × V)} {xs : List (List L2.Key × Addr × Value)} {ks : List Pth}, KT H kvs xs → kvs.map (·.1) = ks.map (List.map Sum.inr) →
    ∃ bs : List (Addr × Pth), bs.map (·.2) = ks ∧ bs.map (·.1) = xs.map (·.2.1) ∧ ∀ b ∈ bs, H b.1 = some (.tup (b.2.map V.str))
  | _, _, ks, .nil, e => by
    have e2 : ks = [] := List.map_eq_nil_iff.mp e.symm
    exact ⟨[], e2.symm, rfl, fun _ h => nomatch h⟩
  | p :: kvs, q :: xs, [], .cons _ _, e => nomatch e
  | p :: kvs, q :: xs, k :: ks, .cons r t, e => by
    rw [List.map_cons, List.map_cons] at e
    injection e with e1 e2
    obtain ⟨bs, b1, b2, b3⟩ := kt_keys t e2
    refine ⟨(q.2.1, k) :: bs, by rw [List.map_cons, b1], by rw [List.map_cons, List.map_cons, b2], ?_⟩
    intro b hb
    rcases List.mem_cons.mp hb with rfl | hb
    · have h1 := r.2.1
      rw [e1, List.map_map] at h1
      exact h1
    · exact b3 b hb

theorem vals_fst : ∀ cs : List (Addr × Pth), Vals (cs.map fun b => V.ref b.1) (cs.map fun b => Value.ref b.1)
  | [] => .nil
  | _ :: cs => .cons rfl (vals_fst cs)

theorem cr_sortedDT (calm : X.calm = true) : CallR X (.builtin "sorted") rSortDT := by
  intro ps st0 st H xs us Q I r h
  obtain ⟨d, kvs, ks, rfl, hd, hk, hne, q⟩ := h
  obtain ⟨u, rfl, rx⟩ := vals1 r
  cases rx
  obtain ⟨z, nsys, ys, pr, o, es, ep, ho, hx, hdat, hes, hkeys, hnd⟩ := dt_of I.hok hd
  obtain ⟨bs, b1, b2, b3⟩ := kt_keys pr hk
  have l1 : es.size = ys.length := size_of_entries hes
  have l2 : kvs.length = ys.length := Paired.length pr
  have lb : bs.length = ys.length := by
    have e := congrArg List.length b2
    rw [List.length_map, List.length_map] at e
    exact e
  refine Calls.call_function_entry PyProof.Rows.kind_sorted PyProof.Rows.plain_sorted PyProof.Rows.entry_sorted (PyProof.Rows.args_sorted1 _) ?_
  unfold Builtin.«sorted»
  refine wpAny_bind (m := checkCount "sorted" 1 1 _) (wpAny_pure ?_)
  refine wpAny_bind (PySem.W.kdu_collect (A := X.A.in1) (kdl_raw nsys hx hdat) (I.ok.hd calm) ho (by omega) fun h1 tk acc keep it => ?_)
  have ea : acc.toList = bs.map fun b => Value.ref b.1 := by
    have e0 : acc.toList.length = ys.length := by rw [Array.length_toList, it.1]; exact l1
    have e1 : (bs.map fun b => Value.ref b.1) = ys.map fun x => Value.ref x.2.1 := by
      have e := congrArg (List.map Value.ref) b2
      rw [List.map_map, List.map_map] at e
      exact e
    rw [e1]
    refine List.ext_getElem (by rw [List.length_map]; exact e0) fun j j1 j2 => ?_
    obtain ⟨en, g1, g2⟩ := it.2 j (acc.toList[j]) (by rw [← Array.getElem?_toList]; exact List.getElem?_eq_getElem j1)
    have g3 := entry_at hes j
    have j3 : j < ys.length := by omega
    rw [g1, List.getElem?_eq_getElem j3] at g3
    have g4 : en = entryOfKey (tupleKind (mixKind X.prog X.w)) ys[j] := Option.some.inj g3
    rw [g2, g4, List.getElem_map]
    rfl
  have I1 : Inv X ps st H { st0 with heap := h1, toks := tk } := I.kept keep
  rw [ea]
  have hln : (bs.map fun b => Value.ref b.1).length ≤ sizeLine := by rw [List.length_map]; omega
  refine wpAny_bind (wpAny_newList ?_ hln)
  have hoL : (h1.push (seqObj "list" (bs.map fun b => Value.ref b.1).toArray 0)).get? h1.objs.size = some (seqObj "list" (bs.map fun b => Value.ref b.1).toArray 0) := Heap.get?_push_size _ rfl
  show wpAny _ _ _ _ _ { st0 with heap := h1.push (seqObj "list" (bs.map fun b => Value.ref b.1).toArray 0), toks := tk }
  -- each key, where it stands
  have at1 : ∀ b ∈ bs, ∃ (ob : Obj) (its : List Value) (n : Nat), (h1.push (seqObj "list" (bs.map fun b => Value.ref b.1).toArray 0)).get? b.1 = some ob ∧ ob.cls = .type "tuple" ∧ ob.data = .seq its.toArray n ∧ Vals (b.2.map V.str) its := by
    intro b hb
    obtain ⟨_, its, rv, ob, g1, g2, n, g3⟩ := (show ObjOk X.prog X.w H h1 b.1 (.tup (b.2.map V.str)) from I1.hok b.1 _ (b3 b hb))
    exact ⟨ob, its, n, Heap.get?_push_of_some _ g1, g2, g3, rv⟩
  have key1 : ∀ b ∈ bs, G.tupKeyC (h1.push (seqObj "list" (bs.map fun b => Value.ref b.1).toArray 0)) shT (.ref b.1) = some (pkey b.2) := by
    intro b hb
    obtain ⟨ob, its, n, g1, g2, g3, rv⟩ := at1 b hb
    exact tupKeyC_at g1 g2 g3 (items_pth b.2 its 0 rv)
  have ne1 : ∀ b ∈ bs, b.2 ≠ [] := by
    intro b hb
    exact hne _ (by rw [← b1]; exact List.mem_map.mpr ⟨b, hb, rfl⟩)
  have tups : ∀ cs : List (Addr × Pth), (∀ b ∈ cs, b ∈ bs) → ∃ fs, TupsOf (h1.push (seqObj "list" (bs.map fun b => Value.ref b.1).toArray 0)) shT (cs.map fun b => Value.ref b.1) fs := by
    intro cs
    induction cs with
    | nil => intro _; exact ⟨[], .nil⟩
    | cons c cs ih =>
      intro hc
      obtain ⟨fs, t⟩ := ih fun b hb => hc b (List.mem_cons_of_mem _ hb)
      obtain ⟨ob, its, n, g1, g2, g3, rv⟩ := at1 c (hc c List.mem_cons_self)
      have nz := ne1 c (hc c List.mem_cons_self)
      cases e : c.2 with
      | nil => exact absurd e nz
      | cons x p =>
        rw [e, List.map_cons] at rv
        cases rv with
        | @cons _ u _ its' ru rt =>
          obtain ⟨k, rfl⟩ := ru
          exact ⟨Value.str x k :: fs, .cons ⟨c.1, ob, _, n, rfl, g1, g2, g3, rfl, (fun z => nomatch z), fun _ => ⟨x, k, rfl⟩⟩ t⟩
  obtain ⟨fs, tu⟩ := tups bs fun _ hb => hb
  refine wpAny_bind (wpAny_holding (wpAny_call_entry PyProof.Rows.slot_list_sort ⟨_, hoL, rfl⟩ PyProof.Rows.entry_list_sort
    (G.list_sort_tups (s := { st0 with heap := h1.push (seqObj "list" (bs.map fun b => Value.ref b.1).toArray 0), toks := tk }) (shape := shT) hoL tu ?_ hln fun so hp hs _ => ⟨_, rfl, ?_⟩)
    (PyProof.Rows.args_list_sort _)))
  · intro v hv
    obtain ⟨b, hb, rfl⟩ := List.mem_map.mp hv
    exact ⟨_, key1 b hb⟩
  · have hpl : (arrOf so).toList.Perm (bs.map fun b => ((Value.ref b.1, Value.ref b.1) : Keyed)) := by
      have e := Array.perm_iff_toList_perm.mp hp
      rw [pairsOf_toList] at e
      have e2 : ((bs.map fun b => Value.ref b.1).zip (bs.map fun b => Value.ref b.1)) = bs.map fun b => ((Value.ref b.1, Value.ref b.1) : Keyed) := by
        rw [List.zip_map'] <;> rfl
      rw [e2] at e
      exact e
    obtain ⟨cs, c1, c2⟩ := perm_lift (fun b : Addr × Pth => ((Value.ref b.1, Value.ref b.1) : Keyed)) hpl bs rfl
    have out : ((arrOf so).map (·.2)).toList = cs.map fun b => Value.ref b.1 := by
      rw [Array.toList_map, ← c2, List.map_map] <;> rfl
    have len : cs.length = bs.length := c1.length_eq
    have kk : ∀ (i : Nat) (hi : i < cs.length), KK (G.tupKindC (h1.push (seqObj "list" (bs.map fun b => Value.ref b.1).toArray 0)) shT) (arrOf so) i = pkey cs[i].2 := by
      intro i hi
      have e : (arrOf so)[i]? = some ((Value.ref cs[i].1, Value.ref cs[i].1) : Keyed) := by
        rw [← Array.getElem?_toList, ← c2, List.getElem?_map, List.getElem?_eq_getElem hi] <;> rfl
      unfold KK
      rw [e]
      show (G.tupKeyC (h1.push (seqObj "list" (bs.map fun b => Value.ref b.1).toArray 0)) shT (.ref cs[i].1)).getD [] = _
      rw [key1 cs[i] (c1.mem_iff.mp (List.getElem_mem hi))] <;> rfl
    have srt : cs.Pairwise (fun a b => ltP b.2 a.2 = false) := by
      rw [List.pairwise_iff_getElem]
      intro i j hi hj lt
      have r : PyProof.Rows.lexLt PyProof.Rows.itemOrd (KK (G.tupKindC (h1.push (seqObj "list" (bs.map fun b => Value.ref b.1).toArray 0)) shT) (arrOf so) j)
          (KK (G.tupKindC (h1.push (seqObj "list" (bs.map fun b => Value.ref b.1).toArray 0)) shT) (arrOf so) i) = false :=
        hs i j (Nat.le_of_lt lt) (by rw [pairsOf_size, List.length_map]; omega)
      rw [kk i hi, kk j hj] at r
      exact r
    obtain ⟨ep2, he2⟩ := PyProof.Rows.sortedHeap_at (vs := bs.map fun b => Value.ref b.1) (out := (arrOf so).map (·.2)) hoL
    have lc : (cs.map fun b => V.ref b.1).length ≤ sizeLine := by rw [List.length_map]; omega
    refine wpAny_pure ⟨_, rfl, .ref h1.objs.size, upd H h1.objs.size (.lst (cs.map fun b => V.ref b.1)), I1.laid (t' := tk) (fun b u e => ?_) (Nat.le_refl _)
      (show ObjOk X.prog X.w _ _ _ (.lst (cs.map fun b => V.ref b.1)) from ⟨lc, ((arrOf so).map (·.2)).toList, ep2, by rw [out]; exact vals_fst cs, by rw [Array.toArray_toList]; exact he2⟩), rfl,
      q cs _ (by rw [← b1]; exact c1.map _) srt (fun b hb => b3 b (c1.mem_iff.mp hb)) (I1.hok.fresh (Nat.le_refl _))⟩
    have lt := Heap.lt_size e
    rw [PyProof.Rows.sortedHeap_old (Nat.ne_of_lt lt) (by rw [size_push']; exact Nat.lt_succ_of_lt lt)]
    exact Heap.get?_push_of_some _ e
end
end Gk
/-! Gk3: operators that a class of the program's own defines, by the promise of its method; a method called with keywords. -/
namespace Gk
open PySem PySem.Spec PyProof.Rows L2

theorem rel_ni {v : V} {u : Value} (r : RelV v u) : u ≠ .notImplemented := by
  intro e
  subst e
  cases v with
  | non => exact nomatch (show Value.notImplemented = Value.none from r)
  | bl b => exact nomatch (show Value.notImplemented = Value.bool b from r)
  | int i => obtain ⟨t, e⟩ := (show ∃ t, Value.notImplemented = Value.int i t from r); exact nomatch e
  | str x => obtain ⟨t, e⟩ := (show ∃ t, Value.notImplemented = Value.str x t from r); exact nomatch e
  | byt b => obtain ⟨t, e⟩ := (show ∃ t, Value.notImplemented = Value.bytes b t from r); exact nomatch e
  | flt b => obtain ⟨t, e⟩ := (show ∃ t, Value.notImplemented = Value.float b t from r); exact nomatch e
  | ref a => exact nomatch (show Value.notImplemented = Value.ref a from r)
  | ty n => exact nomatch (show Value.notImplemented = Value.type n from r)
theorem cmpBack_of {Q : Value → Shared → Prop} {u : Value} {s : Shared} (hn : u ≠ .notImplemented) (h : Q u s) : PySem.W.CmpBack Q u s := by
  cases u with
  | notImplemented => exact hn rfl
  | _ => exact h

section
variable {X : Cx} {CX : CXT} {k : Nat} {f C : Addr} {fd : FuncData} {ps : List Str} {sp : Sp} {E : XK}

/-- a def is run somewhere below the body X, the frames being the body's -/
theorem run_below {A : Around} {pins : List (Addr × Obj)} {st : L2.St} {H : Hp} {s : Shared} {Q : VK} {us : List Value} {vs : List V} (F : FnOk X.prog X.w X.K X.mg X.base CX k f fd ps sp) (fr : A.frames = X.A.frames) (hr : Room k A)
    (hb : Binds X.K fd ps []) (hx : Passes CX X E) (I : Inv X pins st H s) (r : Vals vs us) (h : sp vs H Q E) : wpAny (model X.prog X.w) A (call (.ref f) us) (EP X pins st Q) X.xe s := by
  have e0 : Env0 X.prog X.w X.K X.mg X.base A X.stack s H := by
    have e := I.env0
    exact ⟨fr.trans e.frames, e.mod, e.bs, e.bsz, e.funs, e.frf, e.hok, e.bare⟩
  have hl : us.length = ps.length := r.length.symm.trans (F.len _ _ _ _ h)
  have bd := hb s us I.kIn (by rw [List.append_nil]; exact hl)
  rw [List.append_nil] at bd
  refine wpAny_call (codeAny_mono (F.run A X.stack s H ⟨us, []⟩ us vs Q E hr e0 bd r h) ?_)
  intro res s2 q
  match res, q with
  | .error e, q => exact hx pins st H s e s2 I q
  | .ok (.ret u), q => exact I.after q
  | .ok .next, q => exact q.elim
  | .ok .brk, q => exact q.elim
  | .ok .cont, q => exact q.elim

/-- a method of the class, found by an operator -/
structure Dun (K : PySem.W.Frag) (C : Addr) (m : Str) (f : Addr) : Prop where
  at_ : PySem.W.findIn K (.ref C) m = some (some (.ref f))
  fn : PySem.W.isFn K (.ref f) = true

/-- x op y, both of the class -/
def rOwn (C : Addr) (sp : Sp) (E : XK) : R2 := fun x y H Q => ∃ (a b dx dy : Addr) (fs gs : List (Str × V)), x = .ref a ∧ y = .ref b ∧ H a = some (.ins C dx fs) ∧ H b = some (.ins C dy gs) ∧ sp [.ref a, .ref b] H Q E
theorem op_own {op : Operator} (F : FnOk X.prog X.w X.K X.mg X.base CX k f fd ps sp) (D : Dun X.K C (PySem.dunder op.info.2) f) (self : PySem.W.selfFirst X.K C = true) (hr : Room k X.A) (hb : Binds X.K fd ps []) (hx : Passes CX X E) :
    OpR X (binaryOp op) (rOwn C sp E) := by
  intro pins s st H x y v u Q I rx ry h
  obtain ⟨a, b, dx, dy, fs, gs, rfl, rfl, ha, hb2, h⟩ := h
  cases rx
  cases ry
  obtain ⟨mA, J, _⟩ := ins_get I.hok ha
  obtain ⟨mB, J2, _⟩ := ins_get I.hok hb2
  obtain ⟨od, J, _⟩ := J.look
  obtain ⟨od2, J2, _⟩ := J2.look
  obtain ⟨m, hF⟩ := I.fr
  refine PySem.W.binop_K hF I.ok.mod.kin J J2.type self D.at_ D.fn ?_
  refine thn (run_below F rfl hr hb hx I (show Vals [V.ref a, V.ref b] [Value.ref a, Value.ref b] from .cons rfl (.cons rfl .nil)) h) fun u2 s2 q => ?_
  obtain ⟨z, H2, I2, rz, q2⟩ := q
  exact cmpBack_of (rel_ni rz) ⟨z, H2, I2, rz, q2⟩

/-- y in x, x of the class -/
def rOwnIn (C : Addr) (sp : Sp) (E : XK) (neg : Bool) : R2 := fun y x H Q => ∃ (a dx : Addr) (fs : List (Str × V)), x = .ref a ∧ H a = some (.ins C dx fs) ∧
  sp [.ref a, y] H (fun r H2 => ∃ c : Bool, r = .bl c ∧ Q (.bl (if neg then !c else c)) H2) E
theorem op_ownIn (F : FnOk X.prog X.w X.K X.mg X.base CX k f fd ps sp) (D : Dun X.K C "__contains__" f) (hr : Room k X.A) (hb : Binds X.K fd ps []) (hx : Passes CX X E) : OpR X (compareOp .In) (rOwnIn C sp E false) := by
  intro pins s st H y x v u Q I ry rx h
  obtain ⟨a, dx, fs, rfl, ha, h⟩ := h
  cases rx
  obtain ⟨mA, J, _⟩ := ins_get I.hok ha
  obtain ⟨od, J, _⟩ := J.look
  obtain ⟨m, hF⟩ := I.fr
  refine PySem.W.in_K hF I.ok.mod.kin J D.at_ D.fn ?_
  refine thn (run_below F rfl hr hb hx I (show Vals [V.ref a, y] [Value.ref a, v] from .cons rfl (.cons ry .nil)) h) fun u2 s2 q => ?_
  obtain ⟨z, H2, I2, rz, c, rfl, q2⟩ := q
  cases rz
  exact wpAny_truthy_bool ⟨.bl c, H2, I2, rfl, q2⟩
theorem op_ownNotIn (F : FnOk X.prog X.w X.K X.mg X.base CX k f fd ps sp) (D : Dun X.K C "__contains__" f) (hr : Room k X.A) (hb : Binds X.K fd ps []) (hx : Passes CX X E) : OpR X (compareOp .NotIn) (rOwnIn C sp E true) := by
  intro pins s st H y x v u Q I ry rx h
  obtain ⟨a, dx, fs, rfl, ha, h⟩ := h
  cases rx
  obtain ⟨mA, J, _⟩ := ins_get I.hok ha
  obtain ⟨od, J, _⟩ := J.look
  obtain ⟨m, hF⟩ := I.fr
  refine PySem.W.notIn_K hF I.ok.mod.kin J D.at_ D.fn ?_
  refine thn (run_below F rfl hr hb hx I (show Vals [V.ref a, y] [Value.ref a, v] from .cons rfl (.cons ry .nil)) h) fun u2 s2 q => ?_
  obtain ⟨z, H2, I2, rz, c, rfl, q2⟩ := q
  cases rz
  exact wpAny_truthy_bool ⟨.bl (!c), H2, I2, rfl, q2⟩

/-- x == y, both of the class -/
theorem op_ownEq (F : FnOk X.prog X.w X.K X.mg X.base CX k f fd ps sp) (D : Dun X.K C "__eq__" f) (hr : Room k X.A) (hb : Binds X.K fd ps []) (hx : Passes CX X E) : OpR X (compareOp .Eq) (rOwn C sp E) := by
  intro pins s st H x y v u Q I rx ry h
  obtain ⟨a, b, dx, dy, fs, gs, rfl, rfl, ha, hb2, h⟩ := h
  cases rx
  cases ry
  obtain ⟨mA, J, _⟩ := ins_get I.hok ha
  obtain ⟨mB, J2, _⟩ := ins_get I.hok hb2
  obtain ⟨od, J, _⟩ := J.look
  obtain ⟨od2, J2, _⟩ := J2.look
  obtain ⟨m, hF⟩ := I.fr
  refine PySem.W.cmp_K (op := .Eq) (tb := .ref C) hr.units0 hF I.ok.mod.kin J J2.type (by simp [PySem.W.notFirst]) D.at_ D.fn ?_
  refine thn (run_below F rfl hr hb hx I (show Vals [V.ref a, V.ref b] [Value.ref a, Value.ref b] from .cons rfl (.cons rfl .nil)) h) fun u2 s2 q => ?_
  obtain ⟨z, H2, I2, rz, q2⟩ := q
  exact cmpBack_of (rel_ni rz) ⟨z, H2, I2, rz, q2⟩
end

/-! ### != where the class has an __eq__ alone -/
section
variable {prog : Program} {w : World} {A : Around} {E : Value → Shared → Prop} {s : Shared} {K : PySem.W.Frag} {x C L f : Addr} {h0 : Heap} {m : Str → Option Value} {ox : Obj} {od : Option Obj} {b tb : Value}

/-- the class has object's own __ne__ -/
structure NoNe (K : PySem.W.Frag) (C : Addr) : Prop where
  ne : PySem.W.findIn K (.ref C) "__ne__" = some (some (.builtin "object.__ne__"))
  obj : PySem.W.subIn K (.ref C) (.type "object") = some true

theorem ne_body {Q : Fin → Shared → Prop} (hu : A.units < cLine) (X : K.In s.heap) (I : PySem.W.InstAt s.heap x ox C od) (hs : PySem.W.findIn K (.ref C) "__eq__" = some (some (.ref f))) (hf : PySem.W.isFn K (.ref f) = true)
    (h : wpAny (model prog w) A (call (.ref f) [.ref x, b]) (fun v s2 => ∃ c, v = .bool c ∧ Q (.done (.ret (.bool (!c)))) s2) E s) : wpAny (model prog w) A (Builtin.«object.__ne__» ⟨[.ref x, b], []⟩) Q E s := by
  have e : Builtin.«object.__ne__» ⟨[.ref x, b], []⟩ = (do
      cRoomFor "comparison" [.ref x, b]
      match ← callSpecialIfBound? (.ref x) "__eq__" [b] with
      | some .notImplemented | none => ret .notImplemented
      | some r => ret (.bool (!(← truthy r)))) := rfl
  rw [e]
  refine wpAny_bind (wpAny_cRoomFor hu (wpAny_bind (PySem.W.ifBound_K X I hs hf (thn h fun v s2 q => ?_))))
  obtain ⟨c, rfl, q⟩ := q
  exact wpAny_bind (wpAny_truthy_bool (wpAny_pure q))

theorem ne_call {Q : Value → Shared → Prop} (hu : A.units + 1 < cLine) (X : K.In s.heap) (I : PySem.W.InstAt s.heap x ox C od) (N : NoNe K C) (hs : PySem.W.findIn K (.ref C) "__eq__" = some (some (.ref f))) (hf : PySem.W.isFn K (.ref f) = true)
    (h : wpAny (model prog w) A.in1 (call (.ref f) [.ref x, b]) (fun v s2 => ∃ c, v = .bool c ∧ Q (.bool (!c)) s2) E s) : wpAny (model prog w) A (call (.builtin "object.__ne__") [.ref x, b]) Q E s := by
  have top : PySem.W.Looks (model prog w) s.heap (isInstance (.ref x) (.type "object")) true := I.type.andThen (PySem.W.looks_subIn X N.obj)
  refine wpAny_call (codeAny_call_builtin F.cmp_object.ne.plain F.cmpEntry_ne (PySem.W.check_slot F.cmpKind_ne F.cmpSplit_ne top (F.cmpArgs_ne _ _) ?_))
  refine ne_body (A := A.in1) hu X I hs hf (thn h fun v s2 q => ?_)
  obtain ⟨c, rfl, q⟩ := q
  exact ⟨c, rfl, q⟩

theorem ne_try {Q : Option Value → Shared → Prop} (hu : A.units + 1 < cLine) (X : K.In s.heap) (I : PySem.W.InstAt s.heap x ox C od) (N : NoNe K C) (hs : PySem.W.findIn K (.ref C) "__eq__" = some (some (.ref f))) (hf : PySem.W.isFn K (.ref f) = true)
    (h : wpAny (model prog w) A.in1 (call (.ref f) [.ref x, b]) (fun v s2 => ∃ c, v = .bool c ∧ Q (some (.bool (!c))) s2) E s) : wpAny (model prog w) A (tryCompare (.ref x) "__ne__" b) Q E s := by
  have go : wpAny (model prog w) A (call (.builtin "object.__ne__") ([.ref x] ++ [b]) >>= fun v => pure (some v)) (fun r s2 => ∃ c, r = some (Value.bool c) ∧ Q (some (.bool c)) s2) E s :=
    wpAny_bind (thn (ne_call (Q := fun v s2 => ∃ c, v = .bool c ∧ Q (some (.bool c)) s2) hu X I N hs hf (thn h fun v s2 q => by
      obtain ⟨c, rfl, q⟩ := q
      exact ⟨c, rfl, !c, rfl, q⟩)) fun v s2 q => by
      obtain ⟨c, rfl, q⟩ := q
      exact wpAny_pure ⟨c, rfl, q⟩)
  unfold tryCompare
  refine wpAny_bind (wpAny_mono (Q := fun r s2 => ∃ c, r = some (Value.bool c) ∧ Q (some (.bool c)) s2) ?_ (fun r s2 q => ?_) fun _ _ z => z)
  · simp only [callSpecialIfBound?, bindSpecialIfBound?]
    refine wpAny_holding (wpAny_bind (wpAny_bind (wpAny_bind (I.type.here ((PySem.W.looks_findIn X N.ne).here ?_)))))
    simp only [F.cmp_object.ne.bind]
    refine wpAny_bind (wpAny_askSetting (wpAny_ite ?_))
    split
    · exact wpAny_bind (wpAny_pure (wpAny_pure (by exact go)))
    · exact wpAny_tryCatch (wpAny_bind (wpAny_pure (wpAny_pure (by exact go))))
  · obtain ⟨c, rfl, q⟩ := q
    exact wpAny_pure q

theorem ne_K {Q : Value → Shared → Prop} (hu : A.units + 1 < cLine) (F0 : Fr h0 L s.heap m) (X0 : K.In h0) (I : PySem.W.InstAt s.heap x ox C od) (tyb : PySem.W.Looks (model prog w) s.heap (typeOf b) tb) (hn : PySem.W.notFirst K C tb = true)
    (N : NoNe K C) (hs : PySem.W.findIn K (.ref C) "__eq__" = some (some (.ref f))) (hf : PySem.W.isFn K (.ref f) = true)
    (h : wpAny (model prog w) A.in1 (call (.ref f) [.ref x, b]) (fun v s2 => ∃ c, v = .bool c ∧ Q (.bool (!c)) s2) E s) : wpAny (model prog w) A (richCompare .NotEq (.ref x) b) Q E s := by
  have X := X0.keeps F0.keep
  have one : wpAny (model prog w) A (tryCompare (.ref x) "__ne__" b) (fun r s2 => ∃ v, r = some v ∧ Q v s2) E s :=
    ne_try (Q := fun r s2 => ∃ v, r = some v ∧ Q v s2) hu X I N hs hf (thn h fun v s2 q => by
      obtain ⟨c, rfl, q⟩ := q
      exact ⟨c, rfl, _, rfl, q⟩)
  unfold richCompare
  simp only [oneThing_ref]
  refine wpAny_holding (wpAny_bind (wpAny_cRoomFor (Nat.lt_of_succ_lt hu) ?_))
  rw [cmpInfo_NotEq]
  dsimp only
  refine wpAny_bind (I.type.here (wpAny_bind (tyb.here ?_)))
  split
  · rename_i q
    have e : PySem.W.subIn K tb (.ref C) = some false := by
      rcases Bool.or_eq_true_iff.mp hn with e | e
      · exact absurd q (by rw [beq_iff_eq.mp e]; simp)
      · exact beq_iff_eq.mp e
    refine wpAny_bind ((PySem.W.looks_subIn X e).here ?_)
    rw [if_neg Bool.false_ne_true]
    refine wpAny_bind (thn one fun r s2 q => ?_)
    obtain ⟨v, rfl, q⟩ := q
    exact wpAny_pure q
  · refine wpAny_bind (wpAny_pure ?_)
    rw [if_neg Bool.false_ne_true]
    refine wpAny_bind (thn one fun r s2 q => ?_)
    obtain ⟨v, rfl, q⟩ := q
    exact wpAny_pure q
end

section
variable {X : Cx} {CX : CXT} {k : Nat} {f C : Addr} {fd : FuncData} {ps : List Str} {sp : Sp} {E : XK}
def rOwnNe (C : Addr) (sp : Sp) (E : XK) : R2 := fun x y H Q => ∃ (a b dx dy : Addr) (fs gs : List (Str × V)), x = .ref a ∧ y = .ref b ∧ H a = some (.ins C dx fs) ∧ H b = some (.ins C dy gs) ∧
  sp [.ref a, .ref b] H (fun r H2 => ∃ c : Bool, r = .bl c ∧ Q (.bl (!c)) H2) E
theorem op_ownNe (F : FnOk X.prog X.w X.K X.mg X.base CX k f fd ps sp) (D : Dun X.K C "__eq__" f) (N : NoNe X.K C) (hr : Room (k + 1) X.A) (hb : Binds X.K fd ps []) (hx : Passes CX X E) : OpR X (compareOp .NotEq) (rOwnNe C sp E) := by
  intro pins s st H x y v u Q I rx ry h
  obtain ⟨a, b, dx, dy, fs, gs, rfl, rfl, ha, hb2, h⟩ := h
  cases rx
  cases ry
  obtain ⟨mA, J, _⟩ := ins_get I.hok ha
  obtain ⟨mB, J2, _⟩ := ins_get I.hok hb2
  obtain ⟨od, J, _⟩ := J.look
  obtain ⟨od2, J2, _⟩ := J2.look
  obtain ⟨m, hF⟩ := I.fr
  refine ne_K (tb := .ref C) (hu_of hr) hF I.ok.mod.kin J J2.type (by simp [PySem.W.notFirst]) N D.at_ D.fn ?_
  refine thn (run_below (A := X.A.in1) F rfl hr.in1 hb hx I (show Vals [V.ref a, V.ref b] [Value.ref a, Value.ref b] from .cons rfl (.cons rfl .nil)) h) fun u2 s2 q => ?_
  obtain ⟨z, H2, I2, rz, c, rfl, q2⟩ := q
  cases rz
  exact ⟨c, rfl, .bl (!c), H2, I2, rfl, q2⟩

/-- o.m(k = v, ..) -/
def tMethK (C : Addr) (m : Str) (n : Nat) (sp : Sp) (gV : List V → List V → List V) (E : XK) (ta : TE) (tk : TA) : TE := fun st H Q => ta st H fun x H1 => ∃ (a dx : Addr) (fs : List (Str × V)), x = .ref a ∧ H1 a = some (.ins C dx fs) ∧ fs.lookup m = none ∧
  tk st H1 fun zs H2 => zs.length = n ∧ sp (gV [x] zs) H2 Q E
theorem pe_methK {o : Expr} {m : Str} {apos pos : Pos} {kws : List Keyword} {ks : List Str} {g : List Value → List Value → List Value} {gV : List V → List V → List V} {ta : TE} {tk : TA} {pl : Sem Bool} (ho : PE X o ta) (c : Cls X.K C)
    (hm : Meth X.K C m f) (F : FnOk X.prog X.w X.K X.mg X.base CX k f fd ps sp) (hr : Room k X.A) (hb : KBn X.K fd ps 1 ks g gV) (hx : Passes CX X E) (hkw : PK X kws tk)
    (hall : (backToKw pos (keywordEach kws X.env)).all (·.1.isSome) = true := by rfl) (hks : (backToKw pos (keywordEach kws X.env)).filterMap (·.1) = ks := by rfl)
    (hpl : ((backTo pos (starEach [] X.env)).any (·.1) || (backToKw pos (keywordEach kws X.env)).any (·.1.isNone)) = false := by rfl)
    (ht : eval (.Call (.Attribute o m apos) [] kws pos) X.env = (do
      let ov ← eval o X.env
      standAt apos.atName
      let (fv, first) ← holding [ov] (getMethod ov m pl)
      callWith pos fv first (backTo pos (starEach [] X.env)) (backToKw pos (keywordEach kws X.env))) := by rfl) :
    PE X (.Call (.Attribute o m apos) [] kws pos) (tMethK C m ks.length sp gV E ta tk) := by
  constructor
  intro pins s st H Q I h
  refine PySem.W.methodCall_KW (pl := pl) (thn (ho.run pins s st H _ I h) fun u s1 k1 => ?_) ht
  obtain ⟨x, H1, I1, rx, a, dx, fs, rfl, ha, l, q⟩ := k1
  cases rx
  refine getmeth_ok I1 ha c hm l ?_
  refine PySem.W.callWith_KW0 (first := [.ref a]) (h₀ := X.base) I.ok.mod.kin hm.kp hall ?_ hpl
  refine thn (hkw.run pos pins s1 st H1 _ I1 q) fun ws s2 k2 => ?_
  obtain ⟨zs, H2, I2, rz, lz, q2⟩ := k2
  refine ⟨I2.kIn, ?_⟩
  rw [hks]
  exact run_fnN (us := [.ref a]) (vs := [.ref a]) F hr hb hx I2 (.cons rfl .nil) rz rfl lz q2
end
/-- how a def without defaults binds keywords -/
theorem fun_kbn {K : PySem.W.Frag} {x qual : Str} {st : Stmt} {f : Addr} {fd : FuncData} {ps ks : List Str} {n : Nat} (F : Fun K x qual st f fd)
    (h : ∀ (kV doc pm : Value) (an : Option Addr) (cdv ct : Value) (us ws : List Value), us.length = n → ws.length = ks.length → bindArgs (PySem.W.fnOf x qual (defArgs st) (defBody st) (defScope st) .none kV doc pm an cdv ct) ⟨us, ks.zip ws⟩ = pure (ps.zip (us ++ ws))) :
    KBn K fd ps n ks (fun us ws => us ++ ws) (fun vs zs => vs ++ zs) := by
  obtain ⟨oc, od, kV, doc, pm, an, cdv, ct, osl, rfl, lk, hcd⟩ := F.ex
  exact ⟨fun s us ws _ l1 l2 => .of_eq (h kV doc pm an cdv ct us ws l1 l2), fun r1 r2 => r1.append r2⟩
/-- a method and its promise -/
structure Dm (P : Program) (w : World) (K : PySem.W.Frag) (mg : Str → Option Value) (base : Heap) (C : Addr) (k : Nat) (m : Str) (f : Addr) (ps : List Str) (sp : Sp) : Prop where
  ex : ∃ fd, FnOk P w K mg base CX0 k f fd ps sp ∧ Binds K fd ps []
  me : Meth K C m f
section
variable {X : Cx} {C f : Addr} {k : Nat} {m : Str} {ps : List Str} {sp : Sp}
theorem op_dm {op : Operator} (D : Dm X.prog X.w X.K X.mg X.base C k (PySem.dunder op.info.2) f ps sp) (self : PySem.W.selfFirst X.K C = true) (hr : Room k X.A) : OpR X (binaryOp op) (rOwn C sp E0) := by
  obtain ⟨fd, F, b⟩ := D.ex
  exact op_own F ⟨D.me.at_, D.me.fn⟩ self hr b pass0
theorem op_dmEq (D : Dm X.prog X.w X.K X.mg X.base C k "__eq__" f ps sp) (hr : Room k X.A) : OpR X (compareOp .Eq) (rOwn C sp E0) := by
  obtain ⟨fd, F, b⟩ := D.ex
  exact op_ownEq F ⟨D.me.at_, D.me.fn⟩ hr b pass0
theorem op_dmNe (D : Dm X.prog X.w X.K X.mg X.base C k "__eq__" f ps sp) (N : NoNe X.K C) (hr : Room (k + 1) X.A) : OpR X (compareOp .NotEq) (rOwnNe C sp E0) := by
  obtain ⟨fd, F, b⟩ := D.ex
  exact op_ownNe F ⟨D.me.at_, D.me.fn⟩ N hr b pass0
theorem op_dmIn (D : Dm X.prog X.w X.K X.mg X.base C k "__contains__" f ps sp) (hr : Room k X.A) : OpR X (compareOp .In) (rOwnIn C sp E0 false) := by
  obtain ⟨fd, F, b⟩ := D.ex
  exact op_ownIn F ⟨D.me.at_, D.me.fn⟩ hr b pass0
theorem op_dmNotIn (D : Dm X.prog X.w X.K X.mg X.base C k "__contains__" f ps sp) (hr : Room k X.A) : OpR X (compareOp .NotIn) (rOwnIn C sp E0 true) := by
  obtain ⟨fd, F, b⟩ := D.ex
  exact op_ownNotIn F ⟨D.me.at_, D.me.fn⟩ hr b pass0
theorem pe_dm {o e : Expr} {es : List Expr} {apos pos : Pos} {ta : TE} {t : TA} {pl : Sem Bool} (ho : PE X o ta) (c : Cls X.K C) (D : Dm X.prog X.w X.K X.mg X.base C k m f ps sp) (hr : Room k X.A) (ha : PA X (e :: es) t)
    (hst : starEach (e :: es) X.env = (false, eval e X.env) :: starEach es X.env := by rfl) (hpl : (backTo pos (starEach es X.env)).any (·.1) = false := by rfl)
    (ht : eval (.Call (.Attribute o m apos) (e :: es) [] pos) X.env = (do
      let ov ← eval o X.env
      standAt apos.atName
      let (fv, first) ← holding [ov] (getMethod ov m pl)
      callWith pos fv first (backTo pos (starEach (e :: es) X.env)) (backToKw pos (keywordEach [] X.env))) := by rfl) :
    PE X (.Call (.Attribute o m apos) (e :: es) [] pos) (tMeth C m sp [] E0 ta t) := by
  obtain ⟨fd, F, b⟩ := D.ex
  exact pe_meth (pl := pl) ho c D.me F hr b .nil pass0 ha hst hpl ht
end
end Gk
/-! Gk4: what stays, comprehensions whose heap grows, defs as bundles. -/
namespace Gk
open PySem PySem.Spec PyProof.Rows L2

/-! ### what stays: all but the addresses of T -/
def Kp (T : Addr → Prop) (H H2 : Hp) : Prop := ∀ b o, ¬ T b → H b = some o → H2 b = some o
abbrev T0 : Addr → Prop := fun _ => False
theorem Kp.refl {T : Addr → Prop} (H : Hp) : Kp T H H := fun _ _ _ h => h
theorem Kp.trans {T : Addr → Prop} {H H1 H2 : Hp} (a : Kp T H H1) (b : Kp T H1 H2) : Kp T H H2 := fun c o n h => b c o n (a c o n h)
theorem Kp.at0 {H H2 : Hp} (a : Kp T0 H H2) {b : Addr} {o : HO} (h : H b = some o) : H2 b = some o := a b o id h
theorem Kp.wide {T : Addr → Prop} {H H2 : Hp} (a : Kp T0 H H2) : Kp T H H2 := fun b o _ h => a b o id h
theorem Kp.new {T : Addr → Prop} {H H2 : Hp} {p : Addr} {o : HO} (a : Kp T H H2) (h : H2 p = none) : Kp T H (upd H2 p o) := fun b u n e => by
  have z := a b u n e
  rw [upd_ne (ne_of_none z h)]
  exact z
theorem Kp.put {T : Addr → Prop} {H H2 : Hp} {p : Addr} {o : HO} (a : Kp T H H2) (h : T p) : Kp T H (upd H2 p o) := fun b u n e => by
  rw [upd_ne (fun z => n (by rw [z]; exact h))]
  exact a b u n e
theorem Kp.over {T : Addr → Prop} {H H2 : Hp} {p : Addr} {o : HO} (a : Kp T H H2) (h : H p = none) : Kp T H (upd H2 p o) := fun b u n e => by
  rw [upd_ne (ne_of_none e h)]
  exact a b u n e
theorem Kp.free {H H2 : Hp} (a : Kp T0 H H2) {p : Addr} (h : H2 p = none) : H p = none := by
  cases e : H p with
  | none => rfl
  | some o => rw [a.at0 e] at h; cases h

/-! ### a comprehension -/
theorem lc_kp {T : Addr → Prop} {J : It} {n : Nat} {G : Hp → Prop} {Y : Nat → Hp → V → Hp → Prop} (w : Walk J n G Y) {i0 : Nat} {tt : TT} {te : TE} {vs : List Nat} {st : L2.St} {H1 : Hp} {D : Addr} {Qd : Hp → Prop}
    (src : Nat → V → Prop) (P : Nat → List V → Hp → Prop) (hY : ∀ i H x H2, i < n → Y i H x H2 → H2 = H ∧ src i x) (hD : H1 D = none) (hT : ¬ T D) (hn : n < sizeLine)  (hws : ∀ x, wipe ((wipe st vs).set i0 (some x)) vs = wipe st vs) (hG : ∀ H, Kp T H1 H → G H) (p0 : P 0 [] (upd H1 D (.lst [])))
    (step : ∀ (i : Nat) (x : V) (ys : List V) (H : Hp) (Ky : V → Hp → Prop) (Kn : Hp → Prop), i < n → src i x → Kp T H1 H → H D = some (.lst ys) → P i ys H →
      (∀ y H4, Kp T H H4 → P (i + 1) (ys ++ [y]) (upd H4 D (.lst (ys ++ [y]))) → Ky y H4) → (∀ H3, Kp T H H3 → P (i + 1) ys H3 → Kn H3) →
      tt ((wipe st vs).set i0 (some x)) H fun b H3 => if b = true then te ((wipe st vs).set i0 (some x)) H3 Ky else Kn H3)
    (fin : ∀ ys H, Kp T H1 H → H D = some (.lst ys) → ys.length ≤ n → P n ys H → Qd H) :
    ∃ W : Nat → Nat → Hp → Prop, (∃ m, W 0 m (upd H1 D (.lst []))) ∧ ∀ i m H, W i m H →
      (J.stop i H ∧ Qd H) ∨ (J.go i H ∧ ∃ Nx : Hp → Prop, (∀ H2, Nx H2 → ∃ m2, m2 < m ∧ W (i + 1) m2 H2) ∧ ∀ x H2, J.yld i H x H2 → gName i0 x (wipe st vs) H2 fun s2 H2 => wipe s2 vs = wipe st vs ∧ tt s2 H2 fun b H3 =>
        if b = true then te s2 H3 fun y H4 => ∃ acc, H4 D = some (.lst acc) ∧ acc.length < sizeLine ∧ Nx (upd H4 D (.lst (acc ++ [y]))) else Nx H3) := by
  refine lc_it w (fun i H => ∃ ys, Kp T H1 H ∧ H D = some (.lst ys) ∧ ys.length ≤ i ∧ P i ys H) ⟨[], (Kp.refl H1).over hD, upd_same, Nat.le_refl _, p0⟩ (fun i H _ q => ?_) (fun i x H H2 hi q y => ?_) (fun H q => ?_)
  · obtain ⟨ys, k, _⟩ := q
    exact hG H k
  · obtain ⟨ys, k, d, l, p⟩ := q
    obtain ⟨rfl, sx⟩ := hY i H x H2 hi y
    refine ⟨hws x, ?_⟩
    refine step i x ys H2 _ _ hi sx k d p (fun y H4 k4 p4 => ?_) (fun H3 k3 p3 => ?_)
    · refine ⟨ys, k4 D _ hT d, by omega, ys ++ [y], (k.trans k4).over hD, upd_same, ?_, p4⟩
      rw [List.length_append, List.length_singleton]
      omega
    · exact ⟨ys, k.trans k3, k3 D _ hT d, by omega, p3⟩
  · obtain ⟨ys, k, d, l, p⟩ := q
    exact fin ys H k d l p

theorem yes_ {st : L2.St} {H : Hp} {A B : Hp → Prop} (h : A H) : tYes st H fun b H3 => if b = true then A H3 else B H3 := by
  show (if true = true then A H else B H)
  exact iteT h
/-- lists item by item -/
theorem snoc_at {α : Type} {R : Nat → α → Prop} {ys : List α} {y : α} (h : ∀ (j : Nat) v, ys[j]? = some v → R j v) (hy : R ys.length y) : ∀ (j : Nat) v, (ys ++ [y])[j]? = some v → R j v := by
  intro j v e
  by_cases hj : j < ys.length
  · rw [List.getElem?_append_left hj] at e
    exact h j v e
  · have ej : j = ys.length := by
      have l := (List.getElem?_eq_some_iff.mp e).1
      rw [List.length_append, List.length_singleton] at l
      omega
    rw [ej, List.getElem?_concat_length] at e
    cases Option.some.inj e
    rw [ej]
    exact hy
theorem bools_of {R : Nat → Bool → Prop} {ys : List V} (h : ∀ (j : Nat) v, ys[j]? = some v → ∃ b, v = .bl b ∧ R j b) : ∃ bs : List Bool, ys = bs.map V.bl ∧ bs.length = ys.length ∧ ∀ (j : Nat) b, bs[j]? = some b → R j b := by
  refine ⟨ys.map fun v => match v with | .bl b => b | _ => false, ?_, by rw [List.length_map], fun j b e => ?_⟩
  · rw [List.map_map]
    refine (List.map_id _).symm.trans (List.map_congr_left fun v hv => ?_)
    obtain ⟨j, hj⟩ := List.mem_iff_getElem?.mp hv
    obtain ⟨c, rfl, _⟩ := h j v hj
    rfl
  · rw [List.getElem?_map] at e
    cases ev : ys[j]? with
    | none => rw [ev] at e; cases e
    | some v =>
      rw [ev] at e
      obtain ⟨c, rfl, r⟩ := h j v ev
      have e2 : c = b := Option.some.inj e
      rw [← e2]
      exact r
/-- slots: a comprehension's own one -/
theorem wipe1 (st : L2.St) (i : Nat) (x : V) : wipe ((wipe st [i]).set i (some x)) [i] = wipe st [i] := by
  show ((st.set i none).set i (some x)).set i none = st.set i none
  rw [List.set_set, List.set_set]

/-- a dict's comprehension -/
theorem dc_it {J : It} {n : Nat} {G : Hp → Prop} {Y : Nat → Hp → V → Hp → Prop} (w : Walk J n G Y) {new : HO} {t : TStore} {g : TG} {tt : TT} {tk tv : TE} {vs : List Nat} {st : L2.St} {H1 : Hp} {D : Addr} {Qd : Hp → Prop}
    (Pv : Nat → Hp → Prop) (h0 : Pv 0 (upd H1 D new)) (hG : ∀ i H, i ≤ n → Pv i H → G H)
    (hs : ∀ i x H H2, i < n → Pv i H → Y i H x H2 → g x (wipe st vs) H2 fun s2 H2 => wipe s2 vs = wipe st vs ∧ tt s2 H2 fun b H3 => if b = true then tk s2 H3 fun y H4 => tv s2 H4 fun z H5 => t D y z H5 (Pv (i + 1)) else Pv (i + 1) H3)
    (hd : ∀ H, Pv n H → Qd H) :
    ∃ W : Nat → Nat → Hp → Prop, (∃ m, W 0 m (upd H1 D new)) ∧ ∀ i m Ha, W i m Ha →
      (J.stop i Ha ∧ Qd Ha) ∨
      (J.go i Ha ∧ ∃ Nx : Hp → Prop, (∀ Hb, Nx Hb → ∃ m2, m2 < m ∧ W (i + 1) m2 Hb) ∧ ∀ x Hb, J.yld i Ha x Hb →
        g x (wipe st vs) Hb fun st2 H2 => wipe st2 vs = wipe st vs ∧ tt st2 H2 fun b H3 =>
          if b = true then tk st2 H3 fun y H4 => tv st2 H4 fun z H5 => t D y z H5 Nx else Nx H3) := by
  refine ⟨fun i m H => m = n - i ∧ i ≤ n ∧ Pv i H, ⟨n, rfl, Nat.zero_le _, h0⟩, ?_⟩
  rintro i m H ⟨rfl, hi, p⟩
  have q := hG i H hi p
  by_cases lt : i < n
  · exact .inr ⟨w.goes i H lt q, Pv (i + 1), fun H2 p2 => ⟨n - (i + 1), by omega, rfl, lt, p2⟩, fun x H2 y => hs i x H H2 lt p (w.yields i H x H2 lt q y)⟩
  · have e : i = n := by omega
    subst e
    exact .inl ⟨w.stops H q, hd H p⟩

/-! ### scopes of a comprehension in a comprehension -/
def rel2 (sc outer : Scope) : Scope := { sc with names := sc.names.map fun (n, k) => if (k == .free && outer.kind == .function && outer.names.lookup n == some .cell) then (n, .cell) else (n, k) }
theorem blkOk_in {N : List Str} {env : Env} {sc2 scope outer : Scope} {own : List (Str × Nat)} (e : env.scope = outer) (h : blkC N (rel2 sc2 outer) scope own = true) : BlkOk N (relabel sc2 env) scope own := by
  subst e
  exact blkOk_by h

/-! ### a def and its promise, in one -/
structure Df (P : Program) (w : World) (K : PySem.W.Frag) (mg : Str → Option Value) (base : Heap) (k : Nat) (f : Addr) (x : Str) (ps : List Str) (sp : Sp) : Prop where
  ex : ∃ fd, FnOk P w K mg base CX0 k f fd ps sp ∧ Binds K fd ps []
  mgx : mg x = some (.ref f)
  kp : PySem.W.keepIn K (.ref f) = true
section
variable {X : Cx} {k : Nat} {f : Addr} {x : Str} {ps : List Str} {sp : Sp} {p pos : Pos} {e : Expr} {es : List Expr} {t : TA}
theorem pe_df (D : Df X.prog X.w X.K X.mg X.base k f x ps sp) (hr : Room k X.A) (hg : Gl X x) (ha : PA X (e :: es) t) (hdb : (x == ("__debug__" : Str)) = false := by decide)
    (he : starEach (e :: es) X.env = (false, eval e X.env) :: starEach es X.env := by rfl) (hpl : (backTo pos (starEach es X.env)).any (·.1) = false := by rfl) :
    PE X (.Call (.Name x p) (e :: es) [] pos) (tCall sp [] E0 t) := by
  obtain ⟨fd, F, b⟩ := D.ex
  exact pe_call F hr hg D.mgx D.kp b .nil pass0 ha hdb he hpl
end

/-! ### paths and masks in the heap -/
def IsP (H : Hp) (v : V) (p : Pth) : Prop := ∃ a, v = .ref a ∧ H a = some (.tup (p.map V.str))
abbrev Ps (H : Hp) : List V → List Pth → Prop := Paired (IsP H)
theorem IsP.keep {T : Addr → Prop} {H H2 : Hp} {v : V} {p : Pth} (h : IsP H v p) (k : Kp T H H2) (hT : ∀ a o, T a → H a = some o → ∀ xs, o ≠ .tup xs) : IsP H2 v p := by
  obtain ⟨a, e, h⟩ := h
  exact ⟨a, e, k a _ (fun t => hT a _ t h _ rfl) h⟩
theorem IsP.keep0 {H H2 : Hp} {v : V} {p : Pth} (h : IsP H v p) (k : Kp T0 H H2) : IsP H2 v p := h.keep k fun _ _ z => z.elim
theorem Ps.keep {T : Addr → Prop} {H H2 : Hp} {vs : List V} {ps : List Pth} (h : Ps H vs ps) (k : Kp T H H2) (hT : ∀ a o, T a → H a = some o → ∀ xs, o ≠ .tup xs) : Ps H2 vs ps := Paired.mapP h fun _ _ z => z.keep k hT
theorem Ps.keep0 {H H2 : Hp} {vs : List V} {ps : List Pth} (h : Ps H vs ps) (k : Kp T0 H H2) : Ps H2 vs ps := h.keep k fun _ _ z => z.elim
theorem Ps.get {H : Hp} : ∀ {vs : List V} {ps : List Pth} {i : Nat} {v : V}, Ps H vs ps → vs[i]? = some v → ∃ p, ps[i]? = some p ∧ IsP H v p
  | _, _, _, _, .nil, e => nomatch e
  | _, _, 0, _, .cons r _, e => by
    cases Option.some.inj e
    exact ⟨_, rfl, r⟩
  | _, _, i + 1, _, .cons _ t, e => Ps.get (i := i) t e
theorem Ps.snoc {H : Hp} : ∀ {vs : List V} {ps : List Pth} {v : V} {p : Pth}, Ps H vs ps → IsP H v p → Ps H (vs ++ [v]) (ps ++ [p])
  | _, _, _, _, .nil, h => .cons h .nil
  | _, _, _, _, .cons r t, h => .cons r (Ps.snoc t h)
theorem Ps.app {H : Hp} : ∀ {vs us : List V} {ps qs : List Pth}, Ps H vs ps → Ps H us qs → Ps H (vs ++ us) (ps ++ qs)
  | _, _, _, _, .nil, h => h
  | _, _, _, _, .cons r t, h => .cons r (Ps.app t h)
end Gk
/-! Gk5: names and paths, as plain data. -/
namespace Gk
open PySem PySem.Spec PyProof.Rows L2

/-! ### names -/
def LET : Str := "abcdefghijklmnopqrstuvwxyz"
def isLet (x : Str) (lo hi : Int) : Bool := decide (lo ≤ (x.length : Int)) && decide ((x.length : Int) ≤ hi) && x.cps.toList.all fun c => decide (c ∈ LET.cps.toList)
def isNm (x : Str) : Bool := isLet x 1 8
theorem all_seq (p : Nat → Bool) (x : Str) (bs : List Bool) (hl : bs.length = x.cps.size) (h : ∀ (i : Nat) b, bs[i]? = some b → ∃ c, x.cps[i]? = some c ∧ b = p c) : bs.all id = x.cps.toList.all p := by
  have e : bs = x.cps.toList.map p := by
    refine List.ext_getElem (by rw [List.length_map, Array.length_toList]; exact hl) fun i h1 h2 => ?_
    obtain ⟨c, e1, e2⟩ := h i bs[i] (List.getElem?_eq_getElem h1)
    rw [e2, List.getElem_map]
    congr 1
    rw [Array.getElem?_eq_some_iff] at e1
    obtain ⟨g1, g2⟩ := e1
    rw [← g2, Array.getElem_toList]
  rw [e, List.all_map]
  rfl
theorem let_small : ∀ c ∈ LET.cps.toList, c < 128 := by decide +kernel
theorem isLet_ok {x : Str} {lo hi : Int} (h : isLet x lo hi = true) : PyData.strOk x = true ∧ lo ≤ (x.length : Int) ∧ (x.length : Int) ≤ hi := by
  unfold isLet at h
  rw [Bool.and_eq_true, Bool.and_eq_true] at h
  obtain ⟨⟨h1, h2⟩, h3⟩ := h
  refine ⟨?_, of_decide_eq_true h1, of_decide_eq_true h2⟩
  unfold PyData.strOk
  rw [Array.all_eq_true']
  intro c hc
  have q := List.all_eq_true.mp h3 c (Array.mem_toList_iff.mpr hc)
  have l := let_small c (of_decide_eq_true q)
  exact decide_eq_true (by omega)
theorem isNm_ok {x : Str} (h : isNm x = true) : PyData.strOk x = true ∧ x.length < sizeLine := by
  obtain ⟨h1, _, h3⟩ := isLet_ok h
  exact ⟨h1, by rw [sizeLine_eq]; omega⟩

/-- a value that is no text; none that is a tuple -/
def NoStr (K : PySem.W.Frag) (H : Hp) (v : V) : Prop := ∃ t, TyX K H v t ∧ PySem.W.kitOne K t (.type "str") = some false
def NoTup (K : PySem.W.Frag) (H : Hp) (v : V) : Prop := ∃ t, TyX K H v t ∧ PySem.W.kitOne K t (.type "tuple") = some false
theorem tyx_keep {K : PySem.W.Frag} {H H2 : Hp} {v : V} {t : Value} (h : TyX K H v t) (k : Kp T0 H H2) : TyX K H2 v t := by
  cases h with
  | base b =>
    refine .base ?_
    cases b with
    | non => exact .non
    | bl x => exact .bl x
    | int i => exact .int i
    | str x => exact .str x
    | flt x => exact .flt x
    | lst e => exact .lst (k.at0 e)
    | frz e => exact .frz (k.at0 e)
    | tup e => exact .tup (k.at0 e)
    | dK e => exact .dK (k.at0 e)
    | dT e => exact .dT (k.at0 e)
    | ins e c h1 h2 h3 h4 => exact .ins (k.at0 e) c h1 h2 h3 h4
  | byt b => exact .byt b
  | set e => exact .set (k.at0 e)
  | kList e c => exact .kList e c
  | kTuple e c => exact .kTuple e c
  | kDict e c => exact .kDict e c
  | fTuple e => exact .fTuple (k.at0 e)
  | fDict e => exact .fDict (k.at0 e)
theorem NoStr.keep0 {K : PySem.W.Frag} {H H2 : Hp} {v : V} (h : NoStr K H v) (k : Kp T0 H H2) : NoStr K H2 v := by
  obtain ⟨t, a, b⟩ := h
  exact ⟨t, tyx_keep a k, b⟩
theorem NoTup.keep0 {K : PySem.W.Frag} {H H2 : Hp} {v : V} (h : NoTup K H v) (k : Kp T0 H H2) : NoTup K H2 v := by
  obtain ⟨t, a, b⟩ := h
  exact ⟨t, tyx_keep a k, b⟩
/-- an item of a row and whether it is a name -/
def ItN (K : PySem.W.Frag) (H : Hp) (v : V) (r : Bool) : Prop := (∃ x : Str, v = .str x ∧ x.length < sizeLine ∧ r = isNm x) ∨ (NoStr K H v ∧ r = false)
theorem ItN.keep0 {K : PySem.W.Frag} {H H2 : Hp} {v : V} {r : Bool} (h : ItN K H v r) (k : Kp T0 H H2) : ItN K H2 v r :=
  h.imp id fun z => ⟨z.1.keep0 k, z.2⟩

/-! ### paths as data -/
abbrev dP (p : Pth) : PyData := .tuple (p.map PyData.str)
abbrev dM (ps : List Pth) : PyData := .tuple (ps.map dP)
theorem dp_strs {K : PySem.W.Frag} {H : Hp} : ∀ p : Pth, DpAll K H (p.map V.str) (p.map PyData.str)
  | [] => .nil
  | x :: p => .cons (.str x) (dp_strs p)
theorem IsP.dp {K : PySem.W.Frag} {H : Hp} {v : V} {p : Pth} (h : IsP H v p) : Dp K H v (dP p) := by
  obtain ⟨a, rfl, h⟩ := h
  exact .tup (SqT.of h) (dp_strs p)
theorem Ps.dp {K : PySem.W.Frag} {H : Hp} : ∀ {vs : List V} {ps : List Pth}, Ps H vs ps → DpAll K H vs (ps.map dP)
  | _, _, .nil => .nil
  | _, _, .cons r t => .cons (IsP.dp r) (Ps.dp t)
theorem eqv_strs : ∀ p q : Pth, PyData.eqvAll (p.map PyData.str) (q.map PyData.str) = decide (p = q)
  | [], [] => by rw [decide_eq_true rfl] <;> rfl
  | [], _ :: _ => by rw [decide_eq_false (by intro e; cases e)] <;> rfl
  | _ :: _, [] => by rw [decide_eq_false (by intro e; cases e)] <;> rfl
  | x :: p, y :: q => by
    show (PyData.eqv (.str x) (.str y) && PyData.eqvAll (p.map PyData.str) (q.map PyData.str)) = _
    rw [eqv_strs p q]
    show (x == y && decide (p = q)) = _
    by_cases h1 : x = y
    · subst h1
      rw [beq_self_eq_true, Bool.true_and]
      exact decide_eq_decide.mpr ⟨fun e => by rw [e], fun e => by injection e⟩
    · rw [beq_eq_false_iff_ne.mpr h1, Bool.false_and, decide_eq_false]
      intro e
      injection e with e1 e2
      exact h1 e1
theorem eqv_dP (p q : Pth) : PyData.eqv (dP p) (dP q) = decide (p = q) := eqv_strs p q
theorem eqv_paths : ∀ ps qs : List Pth, PyData.eqvAll (ps.map dP) (qs.map dP) = decide (ps = qs)
  | [], [] => by rw [decide_eq_true rfl] <;> rfl
  | [], _ :: _ => by rw [decide_eq_false (by intro e; cases e)] <;> rfl
  | _ :: _, [] => by rw [decide_eq_false (by intro e; cases e)] <;> rfl
  | p :: ps, q :: qs => by
    show (PyData.eqv (dP p) (dP q) && PyData.eqvAll (ps.map dP) (qs.map dP)) = _
    rw [eqv_paths ps qs, eqv_dP]
    by_cases h1 : p = q
    · subst h1
      rw [decide_eq_true rfl, Bool.true_and]
      exact decide_eq_decide.mpr ⟨fun e => by rw [e], fun e => by injection e⟩
    · rw [decide_eq_false h1, Bool.false_and, decide_eq_false]
      intro e
      injection e with e1 e2
      exact h1 e1
theorem eqv_dM (ps qs : List Pth) : PyData.eqv (dM ps) (dM qs) = decide (ps = qs) := eqv_paths ps qs
/-- a path whose parts are names -/
def OkN (p : Pth) : Prop := ∀ x ∈ p, isNm x = true
def OkP (p : Pth) : Prop := OkN p ∧ p.length ≤ 1000
theorem lay_dN {p : Pth} (h : OkN p) : (dP p).canLay0 = true := by
  show PyData.canLayAll0 (p.map PyData.str) = true
  induction p with
  | nil => rfl
  | cons x p ih =>
    show (PyData.canLay0 (.str x) && PyData.canLayAll0 (p.map PyData.str)) = true
    rw [ih fun y hy => h y (List.mem_cons_of_mem _ hy), Bool.and_true]
    exact (isNm_ok (h x List.mem_cons_self)).1
theorem lay_dP {p : Pth} (h : OkP p) : (dP p).canLay0 = true := lay_dN h.1
theorem depth_dP (p : Pth) : (dP p).depth ≤ 1 := by
  have e : PyData.depthAll (p.map PyData.str) = 0 := by
    induction p with
    | nil => rfl
    | cons x p ih =>
      show max (PyData.depth (.str x)) (PyData.depthAll (p.map PyData.str)) = 0
      rw [ih] <;> rfl
  show PyData.depthAll (p.map PyData.str) + 1 ≤ 1
  omega
theorem shaped_dP {p : Pth} (h : OkP p) : SeqAt.shaped (dP p) = true := by
  unfold SeqAt.shaped
  rw [lay_dP h, Bool.true_and]
  have := depth_dP p
  exact decide_eq_true (by omega)
theorem shaped_dM {ps : List Pth} (h : ∀ p ∈ ps, OkP p) : SeqAt.shaped (dM ps) = true := by
  have h1 : PyData.canLayAll0 (ps.map dP) = true := by
    induction ps with
    | nil => rfl
    | cons p ps ih =>
      show (PyData.canLay0 (dP p) && PyData.canLayAll0 (ps.map dP)) = true
      rw [ih fun y hy => h y (List.mem_cons_of_mem _ hy), lay_dP (h p List.mem_cons_self)] <;> rfl
  have h2 : PyData.depthAll (ps.map dP) ≤ 1 := by
    clear h1
    induction ps with
    | nil => exact Nat.zero_le _
    | cons p ps ih =>
      show max (PyData.depth (dP p)) (PyData.depthAll (ps.map dP)) ≤ 1
      exact Nat.max_le.mpr ⟨depth_dP p, ih fun y hy => h y (List.mem_cons_of_mem _ hy)⟩
  unfold SeqAt.shaped
  rw [show (dM ps).canLay0 = true from h1, Bool.true_and]
  exact decide_eq_true (by show PyData.depthAll (ps.map dP) + 1 ≤ 64; omega)

/-! ### promises of names.py -/
def spIsLetters (K : PySem.W.Frag) : Sp := fun vs H Q _ => ∃ (v : V) (lo hi : Int), vs = [v, .int lo, .int hi] ∧
  ((∃ x : Str, v = .str x ∧ x.length < sizeLine ∧ ∀ H2, Kp T0 H H2 → Q (.bl (isLet x lo hi)) H2) ∨ (NoStr K H v ∧ Q (.bl false) H))
def spIsName (K : PySem.W.Frag) : Sp := fun vs H Q _ => ∃ (v : V) (r : Bool), vs = [v] ∧ ItN K H v r ∧ ∀ H2, Kp T0 H H2 → Q (.bl r) H2

/-! ### rows, what covers -/
section
variable {X : Cx}
/-- a != b over data of any depth that one side bounds -/
def rNeL (K : PySem.W.Frag) (u : Nat) : R2 := fun x y H Q => ∃ d e, Dp K H x d ∧ Dp K H y e ∧ d.canLay0 = true ∧ e.canLay0 = true ∧ u + min d.depth e.depth < cLine ∧ Q (.bl (!PyData.eqv d e)) H
theorem op_neL : OpR X (compareOp .NotEq) (rNeL X.K X.A.units) := by
  intro ps s st H x y v u Q I rx ry h
  obtain ⟨d, e, hd, he, ld, le, hu, q⟩ := h
  obtain ⟨ads, r1⟩ := Dp.reads I d x v hd rx
  obtain ⟨bds, r2⟩ := Dp.reads I e y u he ry
  exact SeqAt.compareNe_reads r1 r2 ld le hu ⟨.bl _, H, I, rfl, q⟩
end
theorem eqv_nil (ds : List PyData) : PyData.eqv (.tuple ds) (.tuple []) = ds.isEmpty := by
  cases ds <;> rfl
def spIsRow (K : PySem.W.Frag) : Sp := fun vs H Q _ => ∃ (v : V) (r : Bool), vs = [v] ∧
  ((∃ (a : Addr) (xs : List V) (rs : List Bool) (ds : List PyData), v = .ref a ∧ H a = some (.tup xs) ∧ Paired (ItN K H) xs rs ∧ DpAll K H xs ds ∧ (PyData.tuple ds).canLay0 = true ∧ xs.length < sizeLine ∧ r = (!xs.isEmpty && rs.all id)) ∨ (NoTup K H v ∧ r = false)) ∧
  ∀ H2, Kp T0 H H2 → Q (.bl r) H2
def beginsP (p f : Pth) : Bool := decide (p.take f.length = f)
def coversP (ps : List Pth) (p : Pth) : Bool := ps.any (beginsP p)
def spBegins : Sp := fun vs H Q _ => ∃ (v u : V) (p f : Pth), vs = [v, u] ∧ IsP H v p ∧ IsP H u f ∧ OkP p ∧ OkP f ∧ ∀ H2, Kp T0 H H2 → Q (.bl (beginsP p f)) H2
def spCovers : Sp := fun vs H Q _ => ∃ (a : Addr) (xs : List V) (ps : List Pth) (v : V) (p : Pth), vs = [.ref a, v] ∧ H a = some (.tup xs) ∧ Ps H xs ps ∧ xs.length < sizeLine ∧ (∀ f ∈ ps, OkP f) ∧ IsP H v p ∧ OkP p ∧
  ∀ H2, Kp T0 H H2 → Q (.bl (coversP ps p)) H2
theorem OkP.take {p : Pth} (h : OkP p) (n : Nat) : OkP (p.take n) := ⟨fun x hx => h.1 x (List.mem_of_mem_take hx), Nat.le_trans (by rw [List.length_take]; exact Nat.min_le_right _ _) h.2⟩
theorem cut_take (xs : List V) (n : Nat) : cutV xs none (some (n : Int)) = xs.take n := by
  unfold cutV
  rw [HT.sIx_none, HT.sIx_nat, List.drop_zero, Nat.sub_zero]
  rcases Nat.le_total n xs.length with h | h
  · rw [Nat.min_eq_left h]
  · rw [Nat.min_eq_right h, List.take_of_length_le h, List.take_length]
theorem cut_whole {xs : List V} {n : Nat} (h : HT.sIx xs.length xs.length (some (n : Int)) = xs.length) : xs.take n = xs := by
  rw [HT.sIx_nat] at h
  exact List.take_of_length_le (by omega)
theorem OkN.items {K : PySem.W.Frag} {H : Hp} {p : Pth} (h : OkN p) : Paired (ItN K H) (p.map V.str) (p.map fun _ => true) := by
  induction p with
  | nil => exact .nil
  | cons x p ih =>
    have hx := h x List.mem_cons_self
    exact .cons (.inl ⟨x, rfl, (isNm_ok hx).2, hx.symm⟩) (ih fun y hy => h y (List.mem_cons_of_mem _ hy))
mutual
theorem dp_keep {K : PySem.W.Frag} {H H2 : Hp} (k : Kp T0 H H2) : ∀ {v : V} {d : PyData}, Dp K H v d → Dp K H2 v d
  | _, _, .non => .non
  | _, _, .bl b => .bl b
  | _, _, .int i => .int i
  | _, _, .str x => .str x
  | _, _, .lst a t => .lst (SqL.ext a fun b o e => k.at0 e) (dpAll_keep t k)
  | _, _, .tup a t => .tup (SqT.ext a fun b o e => k.at0 e) (dpAll_keep t k)
theorem dpAll_keep {K : PySem.W.Frag} {H H2 : Hp} : ∀ {vs : List V} {ds : List PyData}, DpAll K H vs ds → Kp T0 H H2 → DpAll K H2 vs ds
  | _, _, .nil, _ => .nil
  | _, _, .cons a t, k => .cons (dp_keep k a) (dpAll_keep t k)
end
end Gk
/-! Gk6: masks, in plain Lean. -/
namespace Gk
open PySem PySem.Spec PyProof.Rows L2

/-! ### the order of paths -/
theorem pkey_inj : ∀ {p q : Pth}, pkey p = pkey q → p = q
  | [], [], _ => rfl
  | [], _ :: _, e => nomatch e
  | _ :: _, [], e => nomatch e
  | x :: p, y :: q, e => by
    injection e with e1 e2
    have e3 := Sum.inr.inj e1
    have e4 : x = y := by
      have h := Array.toList_inj.mp e3
      cases x
      cases y
      simp only [Str.mk.injEq]
      exact h
    rw [e4, pkey_inj e2]
theorem ltP_irrefl (p : Pth) : ltP p p = false := lex_irrefl _
theorem ltP_trans {p q r : Pth} (h1 : ltP p q = true) (h2 : ltP q r = true) : ltP p r = true := lex_trans _ _ _ h1 h2
theorem ltP_total {p q : Pth} (h1 : ltP p q = false) (h2 : ltP q p = false) : p = q := pkey_inj (lex_total _ _ h1 h2)
abbrev Asc (qs : List Pth) : Prop := qs.Pairwise fun a b => ltP a b = true
/-- two ascending lists of the same paths are one -/
theorem asc_ext : ∀ {ps qs : List Pth}, Asc ps → Asc qs → (∀ p, p ∈ ps ↔ p ∈ qs) → ps = qs
  | [], [], _, _, _ => rfl
  | [], q :: qs, _, _, h => absurd ((h q).mpr List.mem_cons_self) List.not_mem_nil
  | p :: ps, [], _, _, h => absurd ((h p).mp List.mem_cons_self) List.not_mem_nil
  | p :: ps, q :: qs, a, b, h => by
    have a1 : ∀ {r : Pth}, r ∈ ps → ltP p r = true := fun m => List.rel_of_pairwise_cons a m
    have b1 : ∀ {r : Pth}, r ∈ qs → ltP q r = true := fun m => List.rel_of_pairwise_cons b m
    have e : p = q := by
      rcases List.mem_cons.mp ((h p).mp List.mem_cons_self) with e | m
      · exact e
      · rcases List.mem_cons.mp ((h q).mpr List.mem_cons_self) with e | m2
        · exact e.symm
        · have l1 := a1 m2
          have l2 := b1 m
          have l3 := ltP_trans l1 l2
          rw [ltP_irrefl] at l3
          cases l3
    subst e
    have n1 : p ∉ ps := fun m => by
      have l := a1 m
      rw [ltP_irrefl] at l
      cases l
    have n2 : p ∉ qs := fun m => by
      have l := b1 m
      rw [ltP_irrefl] at l
      cases l
    rw [asc_ext (List.Pairwise.of_cons a) (List.Pairwise.of_cons b) fun r => ?_]
    constructor
    · intro m
      rcases List.mem_cons.mp ((h r).mp (List.mem_cons_of_mem _ m)) with e | m2
      · exact absurd (e ▸ m) n1
      · exact m2
    · intro m
      rcases List.mem_cons.mp ((h r).mpr (List.mem_cons_of_mem _ m)) with e | m2
      · exact absurd (e ▸ m) n2
      · exact m2
theorem asc_of {ks : List Pth} (nd : ks.Nodup) (h : ks.Pairwise fun a b => ltP b a = false) : Asc ks := by
  refine List.Pairwise.imp ?_ (List.Pairwise.and h nd)
  intro a b ⟨h1, h2⟩
  cases e : ltP a b with
  | true => rfl
  | false => exact absurd (ltP_total e h1) h2

/-! ### what begins with what -/
theorem begins_iff {p f : Pth} : beginsP p f = true ↔ f <+: p := by
  unfold beginsP
  rw [decide_eq_true_iff]
  exact ⟨fun h => h ▸ List.take_prefix _ _, fun h => (List.prefix_iff_eq_take.mp h).symm⟩
theorem begins_self (p : Pth) : beginsP p p = true := begins_iff.mpr (List.prefix_refl p)
theorem begins_trans {p f g : Pth} (h1 : beginsP p f = true) (h2 : beginsP f g = true) : beginsP p g = true := begins_iff.mpr ((begins_iff.mp h2).trans (begins_iff.mp h1))
theorem begins_anti {p f : Pth} (h1 : beginsP p f = true) (h2 : beginsP f p = true) : p = f := (begins_iff.mp h2).eq_of_length_le (begins_iff.mp h1).length_le
theorem begins_len {p f : Pth} (h : beginsP p f = true) (n : f ≠ p) : f.length < p.length := by
  have q := begins_iff.mp h
  rcases Nat.lt_or_ge f.length p.length with l | l
  · exact l
  · exact absurd (q.eq_of_length_le l) n
theorem covers_iff {ps : List Pth} {p : Pth} : coversP ps p = true ↔ ∃ f ∈ ps, beginsP p f = true := by
  unfold coversP
  rw [List.any_eq_true]
theorem covers_false {ps : List Pth} {p : Pth} : coversP ps p = false ↔ ∀ f ∈ ps, beginsP p f = false := by
  constructor
  · intro h f hf
    cases e : beginsP p f with
    | false => rfl
    | true => rw [covers_iff.mpr ⟨f, hf, e⟩] at h; cases h
  · intro h
    cases e : coversP ps p with
    | false => rfl
    | true =>
      obtain ⟨f, hf, e⟩ := covers_iff.mp e
      rw [h f hf] at e
      cases e
/-- rows qs are the mask made of the paths ps -/
structure Canon (ps qs : List Pth) : Prop where
  asc : Asc qs
  mem : ∀ q, q ∈ qs ↔ q ∈ ps ∧ ∀ f ∈ ps, f ≠ q → beginsP q f = false
theorem Canon.sub {ps qs : List Pth} (c : Canon ps qs) {q : Pth} (h : q ∈ qs) : q ∈ ps := ((c.mem q).mp h).1
/-- each path has a least beginning among some -/
theorem least_front (ps : List Pth) : ∀ (n : Nat) (p : Pth), p.length ≤ n → p ∈ ps → ∃ f ∈ ps, beginsP p f = true ∧ ∀ g ∈ ps, g ≠ f → beginsP f g = false
  | 0, p, l, m => by
    refine ⟨p, m, begins_self p, fun g _ ne => ?_⟩
    cases e : beginsP p g with
    | false => rfl
    | true =>
      have := begins_len e ne
      omega
  | n + 1, p, l, m => by
    by_cases h : ∃ g ∈ ps, g ≠ p ∧ beginsP p g = true
    · obtain ⟨g, mg, ne, b⟩ := h
      have lt := begins_len b ne
      obtain ⟨f, mf, bf, k⟩ := least_front ps n g (by omega) mg
      exact ⟨f, mf, begins_trans b bf, k⟩
    · refine ⟨p, m, begins_self p, fun g mg ne => ?_⟩
      cases e : beginsP p g with
      | false => rfl
      | true => exact absurd ⟨g, mg, ne, e⟩ h
theorem Canon.covers {ps qs : List Pth} (c : Canon ps qs) (x : Pth) : coversP qs x = coversP ps x := by
  cases e : coversP ps x with
  | true =>
    obtain ⟨p, mp, b⟩ := covers_iff.mp e
    obtain ⟨f, mf, bf, k⟩ := least_front ps p.length p (Nat.le_refl _) mp
    exact covers_iff.mpr ⟨f, (c.mem f).mpr ⟨mf, k⟩, begins_trans b bf⟩
  | false => exact covers_false.mpr fun f hf => covers_false.mp e f (c.sub hf)
/-- rows of which none begins with another one -/
theorem Canon.anti {ps qs : List Pth} (c : Canon ps qs) {p q : Pth} (hp : p ∈ qs) (hq : q ∈ qs) (b : beginsP p q = true) : q = p := by
  rcases Classical.em (q = p) with e | ne
  · exact e
  · rw [((c.mem p).mp hp).2 q (c.sub hq) ne] at b
    cases b
/-- rows are known by what they cover -/
theorem canon_ext {ps qs rs ts : List Pth} (c : Canon ps qs) (d : Canon rs ts) (h : ∀ x, coversP qs x = coversP ts x) : qs = ts := by
  have half : ∀ {ps qs rs ts : List Pth}, Canon ps qs → Canon rs ts → (∀ x, coversP qs x = coversP ts x) → ∀ p, p ∈ qs → p ∈ ts := by
    intro ps qs rs ts c d h p hp
    have e1 : coversP ts p = true := (h p) ▸ covers_iff.mpr ⟨p, hp, begins_self p⟩
    obtain ⟨f, mf, bf⟩ := covers_iff.mp e1
    have e2 : coversP qs f = true := (h f).symm ▸ covers_iff.mpr ⟨f, mf, begins_self f⟩
    obtain ⟨g, mg, bg⟩ := covers_iff.mp e2
    have e3 := c.anti hp mg (begins_trans bf bg)
    have e4 : f = p := by
      rw [e3] at bg
      exact begins_anti bg bf
    exact e4 ▸ mf
  exact asc_ext c.asc d.asc fun p => ⟨half c d h p, half d c (fun x => (h x).symm) p⟩
theorem canon_one {ps qs ts : List Pth} (c : Canon ps qs) (d : Canon ps ts) : qs = ts := canon_ext c d fun x => (c.covers x).trans (d.covers x).symm
theorem canon_nil {qs : List Pth} (c : Canon [] qs) : qs = [] := by
  cases qs with
  | nil => rfl
  | cons q qs => exact absurd (c.sub List.mem_cons_self) List.not_mem_nil
theorem covers_app (ps qs : List Pth) (x : Pth) : coversP (ps ++ qs) x = (coversP ps x || coversP qs x) := List.any_append
/-- what both cover -/
def bothP (qs rs : List Pth) : List Pth := qs.filter (coversP rs) ++ rs.filter (coversP qs)
theorem covers_both (qs rs : List Pth) (x : Pth) : coversP (bothP qs rs) x = (coversP qs x && coversP rs x) := by
  cases e1 : coversP (bothP qs rs) x with
  | true =>
    obtain ⟨f, mf, b⟩ := covers_iff.mp e1
    have key : ∀ {as bs : List Pth}, f ∈ as.filter (coversP bs) → coversP as x = true ∧ coversP bs x = true := by
      intro as bs m
      obtain ⟨m1, m2⟩ := List.mem_filter.mp m
      obtain ⟨g, mg, bg⟩ := covers_iff.mp m2
      exact ⟨covers_iff.mpr ⟨f, m1, b⟩, covers_iff.mpr ⟨g, mg, begins_trans b bg⟩⟩
    rcases List.mem_append.mp mf with m | m
    · obtain ⟨h1, h2⟩ := key m
      rw [h1, h2] <;> rfl
    · obtain ⟨h1, h2⟩ := key m
      rw [h1, h2] <;> rfl
  | false =>
    cases e2 : coversP qs x with
    | false => rfl
    | true =>
      cases e3 : coversP rs x with
      | false => rfl
      | true =>
        obtain ⟨f, mf, bf⟩ := covers_iff.mp e2
        obtain ⟨g, mg, bg⟩ := covers_iff.mp e3
        have no := covers_false.mp e1
        rcases Nat.le_total g.length f.length with l | l
        · have bfg : beginsP f g = true := begins_iff.mpr (List.prefix_of_prefix_length_le (begins_iff.mp bg) (begins_iff.mp bf) l)
          have := no f (List.mem_append_left _ (List.mem_filter.mpr ⟨mf, covers_iff.mpr ⟨g, mg, bfg⟩⟩))
          rw [bf] at this
          cases this
        · have bgf : beginsP g f = true := begins_iff.mpr (List.prefix_of_prefix_length_le (begins_iff.mp bf) (begins_iff.mp bg) l)
          have := no g (List.mem_append_right _ (List.mem_filter.mpr ⟨mg, covers_iff.mpr ⟨f, mf, bgf⟩⟩))
          rw [bg] at this
          cases this
def withinP (qs rs : List Pth) : Bool := qs.all (coversP rs)
theorem within_iff {qs rs : List Pth} : withinP qs rs = true ↔ ∀ x, coversP qs x = true → coversP rs x = true := by
  unfold withinP
  rw [List.all_eq_true]
  constructor
  · intro h x hx
    obtain ⟨f, mf, b⟩ := covers_iff.mp hx
    obtain ⟨g, mg, bg⟩ := covers_iff.mp (h f mf)
    exact covers_iff.mpr ⟨g, mg, begins_trans b bg⟩
  · intro h q hq
    exact h q (covers_iff.mpr ⟨q, hq, begins_self q⟩)

/-! ### the list that fewest makes -/
def keepP (ks : List Pth) (p : Pth) : Bool := !(ks.any fun f => decide (p ≠ f) && beginsP p f)
theorem canon_fewest {ps ks : List Pth} (asc : Asc ks) (same : ∀ p, p ∈ ks ↔ p ∈ ps) : Canon ps (ks.filter (keepP ks)) := by
  refine ⟨asc.filter _, fun q => ?_⟩
  rw [List.mem_filter]
  constructor
  · rintro ⟨m, k⟩
    refine ⟨(same q).mp m, fun f mf ne => ?_⟩
    cases e : beginsP q f with
    | false => rfl
    | true =>
      unfold keepP at k
      rw [List.any_eq_true.mpr ⟨f, (same f).mpr mf, Bool.and_eq_true_iff.mpr ⟨decide_eq_true (show q ≠ f from fun z => ne z.symm), e⟩⟩] at k
      cases k
  · rintro ⟨m, k⟩
    refine ⟨(same q).mpr m, ?_⟩
    unfold keepP
    cases e : ks.any fun f => decide (q ≠ f) && beginsP q f with
    | false => rfl
    | true =>
      obtain ⟨f, mf, h⟩ := List.any_eq_true.mp e
      rw [Bool.and_eq_true] at h
      rw [k f ((same f).mp mf) (fun z => of_decide_eq_true h.1 z.symm)] at h
      cases h.2

/-! ### the keys of a dict that is filled -/
theorem keys_putK {κ : Type} [DecidableEq κ] (kvs : List (κ × V)) (k : κ) (v : V) : (putK kvs k v).map (·.1) = if k ∈ kvs.map (·.1) then kvs.map (·.1) else kvs.map (·.1) ++ [k] := by
  unfold putK
  have e : (kvs.any fun kv => decide (kv.1 = k)) = true ↔ k ∈ kvs.map (·.1) := by
    rw [List.any_eq_true, List.mem_map]
    exact ⟨fun ⟨x, m, h⟩ => ⟨x, m, of_decide_eq_true h⟩, fun ⟨x, m, h⟩ => ⟨x, m, decide_eq_true h⟩⟩
  by_cases h : k ∈ kvs.map (·.1)
  · rw [if_pos (e.mpr h), if_pos h, List.map_map]
    refine List.map_congr_left fun x _ => ?_
    show (if x.1 = k then (x.1, v) else x).1 = x.1
    split <;> rfl
  · rw [if_neg (fun z => h (e.mp z)), if_neg h, List.map_append] <;> rfl
theorem inr_inj {p q : Pth} (h : p.map (Sum.inr : Str → L2.Key) = q.map Sum.inr) : p = q := by
  induction p generalizing q with
  | nil => cases q with
    | nil => rfl
    | cons y q => exact nomatch h
  | cons x p ih => cases q with
    | nil => exact nomatch h
    | cons y q =>
      injection h with h1 h2
      rw [Sum.inr.inj h1, ih h2]
theorem keys_step {kvs : List (List L2.Key × V)} {ks : List Pth} (p : Pth) (v : V) (e : kvs.map (·.1) = ks.map (List.map Sum.inr)) (nd : ks.Nodup) :
    ∃ ks2 : List Pth, (putK kvs (p.map Sum.inr) v).map (·.1) = ks2.map (List.map Sum.inr) ∧ ks2.Nodup ∧ ∀ q, q ∈ ks2 ↔ q ∈ ks ∨ q = p := by
  have mem : p.map Sum.inr ∈ kvs.map (·.1) ↔ p ∈ ks := by
    rw [e, List.mem_map]
    exact ⟨fun ⟨q, m, h⟩ => inr_inj h ▸ m, fun m => ⟨p, m, rfl⟩⟩
  rw [keys_putK]
  by_cases h : p ∈ ks
  · rw [if_pos (mem.mpr h)]
    exact ⟨ks, e, nd, fun q => ⟨.inl, fun z => z.elim id fun z => z ▸ h⟩⟩
  · rw [if_neg (fun z => h (mem.mp z))]
    refine ⟨ks ++ [p], by rw [e, List.map_append]; rfl, ?_, fun q => by rw [List.mem_append, List.mem_singleton]⟩
    rw [List.nodup_append]
    refine ⟨nd, List.nodup_cons.mpr ⟨List.not_mem_nil, List.nodup_nil⟩, fun a ha b hb z => ?_⟩
    rw [List.mem_singleton] at hb
    exact h (hb ▸ z ▸ ha)
theorem mem_take_succ {α : Type} {l : List α} {i : Nat} {x : α} (h : l[i]? = some x) (y : α) : y ∈ l.take (i + 1) ↔ y ∈ l.take i ∨ y = x := by
  rw [List.take_add_one, h, Option.toList_some, List.mem_append, List.mem_singleton]
theorem take_succ_filter {α : Type} {l : List α} {i : Nat} {x : α} (h : l[i]? = some x) (f : α → Bool) : (l.take (i + 1)).filter f = if f x = true then (l.take i).filter f ++ [x] else (l.take i).filter f := by
  rw [List.take_add_one, h, Option.toList_some, List.filter_append]
  cases e : f x with
  | true => rw [if_pos rfl, List.filter_cons_of_pos e] <;> rfl
  | false => rw [if_neg Bool.false_ne_true, List.filter_cons_of_neg (by rw [e]; exact Bool.false_ne_true), List.filter_nil, List.append_nil]
end Gk
/-! Gk7: masks in the heap; what their methods promise. -/
namespace Gk
open PySem PySem.Spec PyProof.Rows L2

abbrev MOST : Nat := 100000
theorem most_line : MOST < sizeLine := by rw [sizeLine_eq]; decide
/-- v is a mask whose rows are qs -/
def IsM (C : Addr) (H : Hp) (v : V) (qs : List Pth) : Prop := ∃ (x dx r : Addr) (ys : List V), v = .ref x ∧ H x = some (.ins C dx [("rows", .ref r)]) ∧ H r = some (.tup ys) ∧ Ps H ys qs ∧ ys.length ≤ MOST ∧
  (∀ q ∈ qs, OkP q ∧ q ≠ []) ∧ ∃ ps, Canon ps qs
/-- addresses of T hold no tuple and no instance -/
def Loose (T : Addr → Prop) (H : Hp) : Prop := ∀ a o, T a → H a = some o → (∀ xs, o ≠ .tup xs) ∧ ∀ C dx fs, o ≠ .ins C dx fs
theorem loose0 (H : Hp) : Loose T0 H := fun _ _ z => z.elim
theorem IsM.keep {T : Addr → Prop} {C : Addr} {H H2 : Hp} {v : V} {qs : List Pth} (h : IsM C H v qs) (k : Kp T H H2) (hT : Loose T H) : IsM C H2 v qs := by
  obtain ⟨x, dx, r, ys, e, hx, hr, hp, l, o, c⟩ := h
  exact ⟨x, dx, r, ys, e, k x _ (fun t => (hT x _ t hx).2 _ _ _ rfl) hx, k r _ (fun t => (hT r _ t hr).1 _ rfl) hr, hp.keep k fun a o t e => (hT a o t e).1, l, o, c⟩
theorem IsM.keep0 {C : Addr} {H H2 : Hp} {v : V} {qs : List Pth} (h : IsM C H v qs) (k : Kp T0 H H2) : IsM C H2 v qs := h.keep k (loose0 H)
theorem IsM.canon {C : Addr} {H : Hp} {v : V} {qs : List Pth} (h : IsM C H v qs) : ∃ ps, Canon ps qs := by
  obtain ⟨_, _, _, _, _, _, _, _, _, _, c⟩ := h
  exact c
theorem IsM.len {C : Addr} {H : Hp} {v : V} {qs : List Pth} (h : IsM C H v qs) : qs.length ≤ MOST := by
  obtain ⟨_, _, _, ys, _, _, _, hp, l, _⟩ := h
  rw [← Paired.length hp]
  exact l
theorem IsM.ok {C : Addr} {H : Hp} {v : V} {qs : List Pth} (h : IsM C H v qs) : ∀ q ∈ qs, OkP q ∧ q ≠ [] := by
  obtain ⟨_, _, _, _, _, _, _, _, _, o, _⟩ := h
  exact o

/-! ### promises -/
/-- a list or a tuple of paths -/
def SqP (K : PySem.W.Frag) (H : Hp) (a : Addr) (xs : List V) (ps : List Pth) : Prop := (SqL K H a xs ∨ SqT K H a xs) ∧ Ps H xs ps ∧ ∀ p ∈ ps, OkP p ∧ p ≠ []
theorem SqP.keep0 {K : PySem.W.Frag} {H H2 : Hp} {a : Addr} {xs : List V} {ps : List Pth} (h : SqP K H a xs ps) (k : Kp T0 H H2) : SqP K H2 a xs ps :=
  ⟨h.1.imp (fun z => SqL.ext z fun b o e => k.at0 e) fun z => SqT.ext z fun b o e => k.at0 e, h.2.1.keep0 k, h.2.2⟩
def spFewest (K : PySem.W.Frag) : Sp := fun vs H Q _ => ∃ (a : Addr) (xs : List V) (ps : List Pth), vs = [.ref a] ∧ SqP K H a xs ps ∧ xs.length < sizeLine ∧
  ∀ (H2 : Hp) (l : Addr) (ys : List V) (qs : List Pth), Kp T0 H H2 → H l = none → H2 l = some (.lst ys) → Ps H2 ys qs → ys.length ≤ xs.length → Canon ps qs → Q (.ref l) H2
def spInit (K : PySem.W.Frag) (C : Addr) : Sp := fun vs H Q _ => ∃ (x dx a : Addr) (xs : List V) (ps : List Pth), vs = [.ref x, .ref a] ∧ H x = some (.ins C dx []) ∧ SqP K H a xs ps ∧ xs.length ≤ MOST ∧
  ∀ (H2 : Hp) (qs : List Pth), Kp (fun b => b = x) H H2 → IsM C H2 (.ref x) qs → qs.length ≤ xs.length → Canon ps qs → Q .non H2
def spEqM (C : Addr) : Sp := fun vs H Q _ => ∃ (v u : V) (qs rs : List Pth), vs = [v, u] ∧ IsM C H v qs ∧ IsM C H u rs ∧ Q (.bl (decide (qs = rs))) H
def spAndM (C : Addr) : Sp := fun vs H Q _ => ∃ (v u : V) (qs rs : List Pth), vs = [v, u] ∧ IsM C H v qs ∧ IsM C H u rs ∧ qs.length + rs.length ≤ MOST ∧
  ∀ H2 z ts, Kp T0 H H2 → IsM C H2 z ts → ts.length ≤ qs.length + rs.length → Canon (bothP qs rs) ts → Q z H2
def spOrM (C : Addr) : Sp := fun vs H Q _ => ∃ (v u : V) (qs rs : List Pth), vs = [v, u] ∧ IsM C H v qs ∧ IsM C H u rs ∧ qs.length + rs.length ≤ MOST ∧
  ∀ H2 z ts, Kp T0 H H2 → IsM C H2 z ts → ts.length ≤ qs.length + rs.length → Canon (qs ++ rs) ts → Q z H2
def spWithinM (C : Addr) : Sp := fun vs H Q _ => ∃ (v u : V) (qs rs : List Pth), vs = [v, u] ∧ IsM C H v qs ∧ IsM C H u rs ∧ ∀ H2, Kp T0 H H2 → Q (.bl (withinP qs rs)) H2
def spLenM (C : Addr) : Sp := fun vs H Q _ => ∃ (v : V) (qs : List Pth), vs = [v] ∧ IsM C H v qs ∧ Q (.int (qs.length : Nat)) H
def spPathsM (C : Addr) : Sp := fun vs H Q _ => ∃ (v : V) (qs : List Pth), vs = [v] ∧ IsM C H v qs ∧ ∀ l ys, H l = none → Ps H ys qs → Q (.ref l) (upd H l (.lst ys))
/-- path in mask, or a value that is no row -/
def spInM (K : PySem.W.Frag) (C : Addr) : Sp := fun vs H Q E => ∃ (v u : V) (qs : List Pth), vs = [v, u] ∧ IsM C H v qs ∧
  ((∃ p, IsP H u p ∧ OkP p ∧ p ≠ [] ∧ ∀ H2, Kp T0 H H2 → Q (.bl (coversP qs p)) H2) ∨ spIsRow K [u] H (fun r H2 => r = .bl false ∧ Q (.bl false) H2) E)

/-! ### a new mask -/
theorem Kp.made {H H2 : Hp} {x dx C : Addr} (nx : H x = none) (nd : H dx = none) (k : Kp (fun b => b = x) (upd (upd H dx (.own x)) x (.ins C dx [])) H2) : Kp T0 H H2 := by
  intro b o _ e
  have nb : b ≠ x := ne_of_none e nx
  refine k b o nb ?_
  rw [upd_ne nb, upd_ne (ne_of_none e nd)]
  exact e
theorem Kp.mk {H : Hp} {x dx C : Addr} (nx : H x = none) (nd : H dx = none) : Kp T0 H (upd (upd H dx (.own x)) x (.ins C dx [])) := ((Kp.refl H).over nd).over nx
theorem putF_nil (f : Str) (v : V) : putF f v [] = [(f, v)] := rfl
theorem sqL_at {K : PySem.W.Frag} {T : Addr → Prop} {H H2 : Hp} {a : Addr} {xs : List V} (h : SqL K H a xs) (k : Kp T H H2) (n : ¬ T a) : SqL K H2 a xs :=
  h.imp (fun h => h.imp (fun h => k a _ n h) fun ⟨o, h⟩ => ⟨o, k a _ n h⟩) id
theorem sqT_at {K : PySem.W.Frag} {T : Addr → Prop} {H H2 : Hp} {a : Addr} {xs : List V} (h : SqT K H a xs) (k : Kp T H H2) (n : ¬ T a) : SqT K H2 a xs :=
  h.imp (fun h => h.imp (fun h => k a _ n h) fun ⟨o, h⟩ => ⟨o, k a _ n h⟩) id
/-- a for over a list or a tuple -/
theorem for_seq {K : PySem.W.Frag} {T : Addr → Prop} {i1 : Nat} {a : Addr} {xs : List V} {g : TG} {tb : TS} {D : Ends} {st : L2.St} {H : Hp} (hv : st[i1]? = some (some (.ref a))) (hq : SqL K H a xs ∨ SqT K H a xs) (hT : ¬ T a)
    (Pv : Nat → L2.St → Hp → Prop) (h0 : Pv 0 st H) (hk : ∀ i s2 H2, Pv i s2 H2 → Kp T H H2)
    (hs : ∀ i x s2 H2, xs[i]? = some x → Pv i s2 H2 → g x s2 H2 fun s3 H3 => tb { D with nx := Pv (i + 1), ct := Pv (i + 1), bk := D.nx } s3 H3) (hd : ∀ s2 H2, Pv xs.length s2 H2 → D.nx s2 H2) :
    tFor (fun st H R => iList K (tVar i1) st H R ∨ iTup K (tVar i1) st H R) g tb D st H := by
  rcases hq with h | h
  · refine .inl ⟨_, hv, a, rfl, ⟨xs, h⟩, for_it walk_list Pv h0 (fun i s2 H2 _ p => sqL_at h (hk i s2 H2 p) hT) (fun i x s2 H2 H3 hi p y => ?_) hd⟩
    obtain ⟨rfl, y⟩ := y
    exact hs i x s2 H3 y p
  · refine .inr ⟨_, hv, a, rfl, ⟨xs, h⟩, for_it walk_tup Pv h0 (fun i s2 H2 _ p => sqT_at h (hk i s2 H2 p) hT) (fun i x s2 H2 H3 hi p y => ?_) hd⟩
    obtain ⟨rfl, y⟩ := y
    exact hs i x s2 H3 y p
/-- a path is a row -/
theorem row_of {K : PySem.W.Frag} {H : Hp} {v : V} {p : Pth} {Q : VK} {E : XK} (h : IsP H v p) (o : OkP p) (n : p ≠ []) (q : ∀ H2, Kp T0 H H2 → Q (.bl true) H2) : spIsRow K [v] H Q E := by
  obtain ⟨a, rfl, h⟩ := h
  refine ⟨_, true, rfl, .inl ⟨a, _, _, _, rfl, h, o.1.items, dp_strs p, lay_dP o, ?_, ?_⟩, q⟩
  · rw [List.length_map, sizeLine_eq]
    have := o.2
    omega
  · cases p with
    | nil => exact absurd rfl n
    | cons x p =>
      symm
      show (true && List.all _ id) = true
      rw [Bool.true_and, List.all_map, List.all_eq_true]
      exact fun _ _ => rfl
end Gk
/-! Gk8: the laws' tape of draws. -/
namespace Gk
open PySem PySem.Spec PyProof.Rows L2

def kD : L2.Key := .inr "digits"
def kX : L2.Key := .inr "mixed"
def tapeL (d m : Int) : List (L2.Key × V) := [(kD, .int d), (kX, .int m)]
structure TapeOk (d m : Int) : Prop where
  d0 : 0 ≤ d
  db : nbits d ≤ 2097152
  m0 : 0 ≤ m
  m1 : m < 4294967296
def TapeAt (H : Hp) (t : Addr) : Prop := ∃ d m, H t = some (.dK (tapeL d m)) ∧ TapeOk d m
abbrev At (t : Addr) : Addr → Prop := fun b => b = t
theorem key_ne : ¬ (kX = kD) := by decide +kernel
theorem tape_d (d m : Int) : valV (tapeL d m) kD = some (.int d) := by
  unfold valV tapeL
  have e : (fun kv : L2.Key × V => decide (kv.1 = kD)) (kD, V.int d) = true := decide_eq_true rfl
  rw [List.find?_cons_of_pos (p := fun kv : L2.Key × V => decide (kv.1 = kD)) e]
  rfl
theorem tape_x (d m : Int) : valV (tapeL d m) kX = some (.int m) := by
  unfold valV tapeL
  have e1 : ¬ (fun kv : L2.Key × V => decide (kv.1 = kX)) (kD, V.int d) = true := fun z => key_ne (of_decide_eq_true z).symm
  have e2 : (fun kv : L2.Key × V => decide (kv.1 = kX)) (kX, V.int m) = true := decide_eq_true rfl
  rw [List.find?_cons_of_neg (p := fun kv : L2.Key × V => decide (kv.1 = kX)) e1, List.find?_cons_of_pos (p := fun kv : L2.Key × V => decide (kv.1 = kX)) e2]
  rfl
theorem put_d (d m x : Int) : putK (tapeL d m) kD (.int x) = tapeL x m := by
  unfold putK tapeL
  rw [if_pos (by rw [List.any_cons, decide_eq_true rfl] <;> rfl)]
  show [if kD = kD then (kD, V.int x) else _, if kX = kD then (kX, V.int x) else (kX, V.int m)] = _
  rw [if_pos rfl, if_neg key_ne]
theorem put_x (d m x : Int) : putK (tapeL d m) kX (.int x) = tapeL d x := by
  unfold putK tapeL
  rw [if_pos (by rw [List.any_cons, List.any_cons, decide_eq_true (show kX = kX from rfl), Bool.true_or, Bool.or_true])]
  show [if kD = kX then (kD, V.int x) else (kD, V.int d), if kX = kX then (kX, V.int x) else _] = _
  rw [if_neg (fun z : kD = kX => key_ne z.symm), if_pos rfl]
theorem merge_tape (d m : Int) : mergeK [] [(kD, .int d), (kX, .int m)] = tapeL d m := by
  unfold mergeK
  show putK (putK [] kD (.int d)) kX (.int m) = _
  have e1 : putK [] kD (V.int d) = [(kD, .int d)] := rfl
  rw [e1]
  unfold putK
  rw [if_neg (by rw [List.any_cons, decide_eq_false (fun z : kD = kX => key_ne z.symm)]; exact Bool.false_ne_true)]
  rfl

/-! ### numbers -/
theorem bits_small {x : Int} {k : Nat} (h : x.natAbs < 2 ^ k) : nbits x ≤ k := intBits_le_iff.mpr h
theorem bits_lt {x : Int} {k : Nat} (h : nbits x ≤ k) : x.natAbs < 2 ^ k := intBits_le_iff.mp h
theorem tape_step {m c : Int} (h0 : 0 ≤ m) (h1 : m < 4294967296) (hc : nbits c ≤ 1048576) : nbits (m * 30011 + c * c + 7) ≤ 2097160 := by
  have a1 : nbits (m * 30011) ≤ 47 := intBits_mul_le (bits_small (k := 32) (by omega)) (bits_small (k := 15) (by decide))
  have a2 : nbits (c * c) ≤ 2097152 := intBits_mul_le hc hc
  have a3 := intBits_add_le a1 a2
  have a4 : nbits (7 : Int) ≤ 3 := bits_small (by decide)
  exact Nat.le_trans (intBits_add_le a3 a4) (by decide)

theorem well_step {m c : Int} (h0 : 0 ≤ m) (h1 : m < 4294967296) (hc : nbits c ≤ 1048576) : nbits (m * 70121 + c * c + 41) ≤ 2097160 := by
  have a1 : nbits (m * 70121) ≤ 49 := intBits_mul_le (bits_small (k := 32) (by omega)) (bits_small (k := 17) (by decide))
  have a2 : nbits (c * c) ≤ 2097152 := intBits_mul_le hc hc
  have a4 : nbits (41 : Int) ≤ 6 := bits_small (by decide)
  exact Nat.le_trans (intBits_add_le (intBits_add_le a1 a2) a4) (by decide)

/-! ### what is promised of the tape's functions -/
def spTape (K : PySem.W.Frag) : Sp := fun vs H Q _ => ∃ (a : Addr) (ns : List Int) (start : Int), vs = [.ref a, .int start] ∧ SqL K H a (ns.map V.int) ∧ ns.length ≤ 63 ∧ (∀ z ∈ ns, nbits z ≤ 1048576) ∧ 0 ≤ start ∧ start ≤ 63 ∧
  ∀ t d m, H t = none → TapeOk d m → Q (.ref t) (upd H t (.dK (tapeL d m)))
def spPick : Sp := fun vs H Q _ => ∃ (t : Addr) (n : Int), vs = [.ref t, .int n] ∧ TapeAt H t ∧ 1 ≤ n ∧ n ≤ 1048576 ∧ ∀ H2 r, Kp (At t) H H2 → TapeAt H2 t → 0 ≤ r → r < n → Q (.int r) H2
def spOneOf (K : PySem.W.Frag) : Sp := fun vs H Q _ => ∃ (t l : Addr) (xs : List V), vs = [.ref t, .ref l] ∧ TapeAt H t ∧ SqL K H l xs ∧ 1 ≤ xs.length ∧ xs.length ≤ 1048576 ∧ ∀ H2 x, Kp (At t) H H2 → TapeAt H2 t → x ∈ xs → Q x H2
/-- a drawn path -/
def Drawn (NM : List Str) (p : Pth) : Prop := 1 ≤ p.length ∧ p.length ≤ 3 ∧ ∀ x ∈ p, x ∈ NM
def spPath (NM : List Str) : Sp := fun vs H Q _ => ∃ (t : Addr), vs = [.ref t] ∧ TapeAt H t ∧ ∀ H2 v p, Kp (At t) H H2 → TapeAt H2 t → IsP H2 v p → Drawn NM p → Q v H2
def spDrawn (NM : List Str) : Sp := fun vs H Q _ => ∃ (t : Addr), vs = [.ref t] ∧ TapeAt H t ∧ ∀ H2 l ys ps, Kp (At t) H H2 → TapeAt H2 t → H l = none → H2 l = some (.lst ys) → Ps H2 ys ps → ys.length ≤ 6 → (∀ p ∈ ps, Drawn NM p) → Q (.ref l) H2
theorem tape_ne {H : Hp} {t l : Addr} (h : TapeAt H t) {xs : List V} (s : H l = some (.lst xs)) : ¬ At t l := by
  intro e
  obtain ⟨d, m, z, _⟩ := h
  rw [show l = t from e, z] at s
  cases s
theorem tape_fresh {H : Hp} {t l : Addr} (h : TapeAt H t) (s : H l = none) : ¬ At t l := by
  intro e
  obtain ⟨d, m, z, _⟩ := h
  rw [show l = t from e, z] at s
  cases s
theorem TapeAt.new {H : Hp} {t p : Addr} {o : HO} (h : TapeAt H t) (n : H p = none) : TapeAt (upd H p o) t := by
  obtain ⟨d, m, z, k⟩ := h
  exact ⟨d, m, (upd_ne (ne_of_none z n)).trans z, k⟩
theorem TapeAt.over {H : Hp} {t p : Addr} {o : HO} (h : TapeAt H t) (n : ¬ At t p) : TapeAt (upd H p o) t := by
  obtain ⟨d, m, z, k⟩ := h
  exact ⟨d, m, (upd_ne (fun e => n e.symm)).trans z, k⟩
theorem TapeAt.keep {H H2 : Hp} {t : Addr} (h : TapeAt H t) (k : Kp T0 H H2) : TapeAt H2 t := by
  obtain ⟨d, m, z, q⟩ := h
  exact ⟨d, m, k.at0 z, q⟩
theorem TapeAt.loose {H : Hp} {t : Addr} (h : TapeAt H t) : Loose (At t) H := by
  intro a o e q
  obtain ⟨d, m, z, _⟩ := h
  rw [show a = t from e, z] at q
  cases q
  exact ⟨(fun _ e => nomatch e), fun _ _ _ e => nomatch e⟩
theorem sqL_tape {K : PySem.W.Frag} {H H2 : Hp} {t l : Addr} {xs : List V} (h : TapeAt H t) (s : SqL K H l xs) (k : Kp (At t) H H2) : SqL K H2 l xs := by
  rcases s with (s | ⟨o, s⟩) | s
  · refine .inl (.inl (k l _ (fun e => ?_) s))
    obtain ⟨d, m, z, _⟩ := h
    rw [show l = t from e, z] at s
    cases s
  · refine .inl (.inr ⟨o, k l _ (fun e => ?_) s⟩)
    obtain ⟨d, m, z, _⟩ := h
    rw [show l = t from e, z] at s
    cases s
  · exact .inr s
theorem Ps.tape {H H2 : Hp} {t : Addr} {vs : List V} {ps : List Pth} (h : Ps H vs ps) (k : Kp (At t) H H2) (ta : TapeAt H t) : Ps H2 vs ps := h.keep k fun a o e q => (ta.loose a o e q).1
theorem IsM.tape {H H2 : Hp} {t C : Addr} {v : V} {qs : List Pth} (h : IsM C H v qs) (k : Kp (At t) H H2) (ta : TapeAt H t) : IsM C H2 v qs := h.keep k ta.loose
/-- drawn paths are right ones -/
theorem drawn_ok {NM : List Str} (hn : NM.all isNm = true) {p : Pth} (h : Drawn NM p) : OkP p ∧ p ≠ [] := by
  obtain ⟨h1, h3, hm⟩ := h
  refine ⟨⟨fun x hx => List.all_eq_true.mp hn x (hm x hx), by omega⟩, fun e => ?_⟩
  rw [e] at h1
  exact absurd h1 (by decide)
theorem dget_d {H : Hp} {t : Addr} {d m : Int} (h : H t = some (.dK (tapeL d m))) : DGet H t (.str "digits") (some (.int d)) := by
  rw [← tape_d d m]
  exact DGet.k (k := kD) h
theorem dget_x {H : Hp} {t : Addr} {d m : Int} (h : H t = some (.dK (tapeL d m))) : DGet H t (.str "mixed") (some (.int m)) := by
  rw [← tape_x d m]
  exact DGet.k (k := kX) h
theorem dput_d {H : Hp} {t : Addr} {d m : Int} (h : H t = some (.dK (tapeL d m))) (x : Int) : DPut H t (.str "digits") (.int x) (upd H t (.dK (tapeL x m))) := by
  rw [← put_d d m x]
  exact DPut.k (k := kD) h (by show 2 < sizeLine; rw [sizeLine_eq]; decide)
theorem dput_x {H : Hp} {t : Addr} {d m : Int} (h : H t = some (.dK (tapeL d m))) (x : Int) : DPut H t (.str "mixed") (.int x) (upd H t (.dK (tapeL d x))) := by
  rw [← put_x d m x]
  exact DPut.k (k := kX) h (by show 2 < sizeLine; rw [sizeLine_eq]; decide)
theorem TapeAt.put {H : Hp} {t : Addr} {d m : Int} (o : TapeOk d m) : TapeAt (upd H t (.dK (tapeL d m))) t := ⟨d, m, upd_same, o⟩
/-- what a law promises -/
def spLaw (K : PySem.W.Frag) : Sp := fun vs H Q _ => ∃ (a : Addr) (ns : List Int), vs = [.ref a] ∧ SqL K H a (ns.map V.int) ∧ ns.length ≤ 63 ∧ (∀ z ∈ ns, nbits z ≤ 1048576) ∧ ∀ H2, Q (.bl true) H2
end Gk
/-! Gk9: len of an own instance, properties. -/
namespace Gk
open PySem PySem.Spec PyProof.Rows L2
/-- len(o), o of a class that defines it -/
def rLenOwn (C : Addr) (sp : Sp) : List V → Hp → VK → Prop := fun xs H Q => ∃ (a dx : Addr) (fs : List (Str × V)), xs = [.ref a] ∧ H a = some (.ins C dx fs) ∧ sp [.ref a] H (fun r H2 => ∃ n : Int, r = .int n ∧ 0 ≤ n ∧ n < 2 ^ 63 ∧ Q (.int n) H2) E0
theorem call_lenOwn {X : Cx} {C f : Addr} {k : Nat} {ps : List Str} {sp : Sp} (D : Dm X.prog X.w X.K X.mg X.base C k "__len__" f ps sp) (hr : Room (k + 1) X.A) : CallR X (.builtin "len") (rLenOwn C sp) := by
  intro pins s σ H xs us Q I r h
  obtain ⟨a, dx, fs, rfl, ha, h⟩ := h
  obtain ⟨u, rfl, ru⟩ := vals1 r
  cases ru
  obtain ⟨fd, F, hb⟩ := D.ex
  obtain ⟨mA, J, _⟩ := ins_get I.hok ha
  obtain ⟨od, J, _⟩ := J.look
  obtain ⟨m, hF⟩ := I.fr
  refine PySem.W.len_K hF I.ok.mod.kin J D.me.at_ D.me.fn ?_
  refine thn (run_below (A := X.A.in1) F rfl hr.in1 hb pass0 I (show Vals [V.ref a] [Value.ref a] from .cons rfl .nil) h) fun u2 s2 q => ?_
  obtain ⟨z, H2, I2, rz, n, rfl, n0, n1, q2⟩ := q
  obtain ⟨t, rfl⟩ := (show ∃ t, u2 = Value.int n t from rz)
  exact ⟨⟨n0, n1⟩, .int n, H2, I2.tok _, ⟨_, rfl⟩, q2⟩
/-- a property and its promise -/
structure Pr (P : Program) (w : World) (K : PySem.W.Frag) (mg : Str → Option Value) (base : Heap) (C : Addr) (k : Nat) (m : Str) (sp : Sp) : Prop where
  ex : ∃ p g fd, PropOf K C m p g ∧ FnOk P w K mg base CX0 k g fd ["self"] sp ∧ Binds K fd ["self"] []
theorem pe_pr {X : Cx} {C : Addr} {k : Nat} {m : Str} {sp : Sp} {e : Expr} {pos : Pos} {ta : TE} (he : PE X e ta) (c : Cls X.K C) (D : Pr X.prog X.w X.K X.mg X.base C k m sp) (hr : Room (k + 1) X.A)
    (hab : attributeBase e m X.env (eval e X.env) = eval e X.env := by rfl) : PE X (.Attribute e m pos) (tProp C sp [] E0 ta) := by
  obtain ⟨p, g, fd, hp, F, b⟩ := D.ex
  exact pe_prop he c hp F hr b .nil pass0 hab
end Gk
/-! Gk10: readings of the masks' operators; what the laws want of covering. -/
namespace Gk
open PySem PySem.Spec PyProof.Rows L2
section
variable {K : PySem.W.Frag} {C : Addr} {H : Hp} {v u : V} {qs rs : List Pth} {Q : VK} {E : XK}
theorem IsM.ins (h : IsM C H v qs) : ∃ x dx r, v = .ref x ∧ H x = some (.ins C dx [("rows", .ref r)]) := by
  obtain ⟨x, dx, r, _, e, hx, _⟩ := h
  exact ⟨x, dx, r, e, hx⟩
theorem rd_and (i : IsM C H v qs) (j : IsM C H u rs) (lm : qs.length + rs.length ≤ MOST) (k : ∀ H2 z ts, Kp T0 H H2 → IsM C H2 z ts → ts.length ≤ qs.length + rs.length → Canon (bothP qs rs) ts → Q z H2) : rOwn C (spAndM C) E v u H Q := by
  obtain ⟨x, dx, r, rfl, hx⟩ := i.ins
  obtain ⟨y, dy, t, rfl, hy⟩ := j.ins
  exact ⟨x, y, dx, dy, _, _, rfl, rfl, hx, hy, _, _, qs, rs, rfl, i, j, lm, k⟩
theorem rd_or (i : IsM C H v qs) (j : IsM C H u rs) (lm : qs.length + rs.length ≤ MOST) (k : ∀ H2 z ts, Kp T0 H H2 → IsM C H2 z ts → ts.length ≤ qs.length + rs.length → Canon (qs ++ rs) ts → Q z H2) : rOwn C (spOrM C) E v u H Q := by
  obtain ⟨x, dx, r, rfl, hx⟩ := i.ins
  obtain ⟨y, dy, t, rfl, hy⟩ := j.ins
  exact ⟨x, y, dx, dy, _, _, rfl, rfl, hx, hy, _, _, qs, rs, rfl, i, j, lm, k⟩
theorem rd_eq (i : IsM C H v qs) (j : IsM C H u rs) (k : Q (.bl (decide (qs = rs))) H) : rOwn C (spEqM C) E v u H Q := by
  obtain ⟨x, dx, r, rfl, hx⟩ := i.ins
  obtain ⟨y, dy, t, rfl, hy⟩ := j.ins
  exact ⟨x, y, dx, dy, _, _, rfl, rfl, hx, hy, _, _, qs, rs, rfl, i, j, k⟩
theorem rd_ne (i : IsM C H v qs) (j : IsM C H u rs) (k : Q (.bl (!decide (qs = rs))) H) : rOwnNe C (spEqM C) E v u H Q := by
  obtain ⟨x, dx, r, rfl, hx⟩ := i.ins
  obtain ⟨y, dy, t, rfl, hy⟩ := j.ins
  exact ⟨x, y, dx, dy, _, _, rfl, rfl, hx, hy, _, _, qs, rs, rfl, i, j, _, rfl, k⟩
theorem rd_m {m : Str} {R : Prop} (i : IsM C H v qs) (n : (m == ("rows" : Str)) = false) (k : R) : ∃ a dx fs, v = .ref a ∧ H a = some (.ins C dx fs) ∧ fs.lookup m = none ∧ R := by
  obtain ⟨x, dx, r, rfl, hx⟩ := i.ins
  refine ⟨x, dx, _, rfl, hx, ?_, k⟩
  rw [List.lookup_cons, n]
  rfl
theorem rd_within (i : IsM C H v qs) (j : IsM C H u rs) (k : ∀ H2, Kp T0 H H2 → Q (.bl (withinP qs rs)) H2) : spWithinM C [v, u] H Q E := ⟨v, u, qs, rs, rfl, i, j, k⟩
theorem rd_in {p : Pth} {b : Bool} (i : IsM C H v qs) (ip : IsP H u p) (o : OkP p ∧ p ≠ []) (k : ∀ H2, Kp T0 H H2 → Q (.bl (if b then !coversP qs p else coversP qs p)) H2) : rOwnIn C (spInM K C) E b u v H Q := by
  obtain ⟨x, dx, r, rfl, hx⟩ := i.ins
  exact ⟨x, dx, _, rfl, hx, _, _, qs, rfl, i, .inl ⟨p, ip, o.1, o.2, fun H2 k2 => ⟨_, rfl, k H2 k2⟩⟩⟩
theorem rd_len (i : IsM C H v qs) (k : Q (.int (qs.length : Nat)) H) : rLenOwn C (spLenM C) [v] H Q := by
  have l := i.len
  obtain ⟨x, dx, r, rfl, hx⟩ := i.ins
  refine ⟨x, dx, _, rfl, hx, _, qs, rfl, i, _, rfl, Int.natCast_nonneg _, ?_, k⟩
  have : MOST = 100000 := rfl
  omega
theorem rd_paths (i : IsM C H v qs) (k : ∀ l ys, H l = none → Ps H ys qs → Q (.ref l) (upd H l (.lst ys))) : ∃ a dx fs, v = .ref a ∧ H a = some (.ins C dx fs) ∧ spPathsM C (.ref a :: []) H Q E := by
  obtain ⟨x, dx, r, rfl, hx⟩ := i.ins
  exact ⟨x, dx, _, rfl, hx, _, qs, rfl, i, k⟩
end
/-! ### the tape's changes seen from outside -/
theorem Kp.tape {H H2 : Hp} {t : Addr} {o : HO} (n : H t = none) (k : Kp (At t) (upd H t o) H2) : Kp T0 H H2 := by
  intro b x _ e
  have nb : b ≠ t := ne_of_none e n
  exact k b x nb (by rw [upd_ne nb]; exact e)
theorem sqp_drawn {K : PySem.W.Frag} {H : Hp} {l : Addr} {ys : List V} {ps : List Pth} {NM : List Str} (hn : NM.all isNm = true) (d : H l = some (.lst ys)) (hp : Ps H ys ps) (o : ∀ p ∈ ps, Drawn NM p) : SqP K H l ys ps :=
  ⟨.inl (SqL.of d), hp, fun p h => drawn_ok hn (o p h)⟩

/-! ### covering -/
def CM (qs : List Pth) : Prop := ∃ ps, Canon ps qs
theorem Canon.cm {ps qs : List Pth} (c : Canon ps qs) : CM qs := ⟨ps, c⟩
theorem cm_ext {qs rs : List Pth} (a : CM qs) (b : CM rs) (h : ∀ x, coversP qs x = coversP rs x) : qs = rs := by
  obtain ⟨_, c⟩ := a
  obtain ⟨_, d⟩ := b
  exact canon_ext c d h
theorem cov_and {qs rs ts : List Pth} (c : Canon (bothP qs rs) ts) (x : Pth) : coversP ts x = (coversP qs x && coversP rs x) := (c.covers x).trans (covers_both qs rs x)
theorem cov_or {qs rs ts : List Pth} (c : Canon (qs ++ rs) ts) (x : Pth) : coversP ts x = (coversP qs x || coversP rs x) := (c.covers x).trans (covers_app qs rs x)
theorem bool_ext {a b : Bool} (h : a = true ↔ b = true) : a = b := by
  cases a <;> cases b <;> simp_all
theorem within_or {qs rs ts : List Pth} (c : Canon (qs ++ rs) ts) (b : CM rs) : withinP qs rs = decide (ts = rs) := by
  refine bool_ext ?_
  rw [within_iff, decide_eq_true_eq]
  constructor
  · intro h
    refine cm_ext c.cm b fun x => ?_
    rw [cov_or c]
    cases e : coversP qs x with
    | false => rfl
    | true => rw [h x e]; rfl
  · intro h x hx
    rw [← h, cov_or c, hx]
    rfl
theorem within_and {qs rs ts : List Pth} (c : Canon (bothP qs rs) ts) (a : CM qs) : withinP qs rs = decide (ts = qs) := by
  refine bool_ext ?_
  rw [within_iff, decide_eq_true_eq]
  constructor
  · intro h
    refine cm_ext c.cm a fun x => ?_
    rw [cov_and c]
    cases e : coversP qs x with
    | false => rfl
    | true => rw [h x e]; rfl
  · intro h x hx
    rw [← h, cov_and c] at hx
    exact (Bool.and_eq_true_iff.mp hx).2
theorem eq_within {qs rs : List Pth} (a : CM qs) (b : CM rs) : decide (qs = rs) = (withinP qs rs && withinP rs qs) := by
  refine bool_ext ?_
  rw [Bool.and_eq_true, within_iff, within_iff, decide_eq_true_eq]
  constructor
  · rintro rfl
    exact ⟨fun _ h => h, fun _ h => h⟩
  · rintro ⟨h, g⟩
    exact cm_ext a b fun x => bool_ext ⟨h x, g x⟩
theorem within_cov {qs rs : List Pth} (h : ∀ x, coversP qs x = true → coversP rs x = true) : withinP qs rs = true := within_iff.mpr h
/-- some of a mask's paths are a mask -/
theorem canon_filter {ps qs : List Pth} (c : Canon ps qs) (f : Pth → Bool) : Canon (qs.filter f) (qs.filter f) := by
  refine ⟨c.asc.filter _, fun q => ⟨fun h => ⟨h, fun g hg ne => ?_⟩, fun h => h.1⟩⟩
  cases e : beginsP q g with
  | false => rfl
  | true => exact absurd (c.anti (List.mem_filter.mp h).1 (List.mem_filter.mp hg).1 e) ne
/-- a mask without one of its paths -/
theorem less_cov {ps qs : List Pth} (c : Canon ps qs) {p : Pth} (hp : p ∈ qs) : coversP (qs.filter fun q => !decide (q = p)) p = false := by
  refine covers_false.mpr fun f hf => ?_
  obtain ⟨mf, e⟩ := List.mem_filter.mp hf
  cases b : beginsP p f with
  | false => rfl
  | true =>
    rw [c.anti hp mf b] at e
    simp at e
theorem less_len : ∀ {qs : List Pth} {p : Pth}, Asc qs → p ∈ qs → (qs.filter fun q => !decide (q = p)).length + 1 = qs.length
  | q :: qs, p, a, h => by
    have a2 := List.Pairwise.of_cons a
    have a1 : ∀ {r : Pth}, r ∈ qs → ltP q r = true := fun m => List.rel_of_pairwise_cons a m
    by_cases e : q = p
    · subst e
      have n : q ∉ qs := fun m => by
        have l := a1 m
        rw [ltP_irrefl] at l
        cases l
      have f : (qs.filter fun r => !decide (r = q)) = qs := List.filter_eq_self.mpr fun r hr => by
        rw [decide_eq_false (fun z => n (by rw [← z]; exact hr))]
        rfl
      rw [List.filter_cons_of_neg (by rw [decide_eq_true rfl]; exact Bool.false_ne_true), f]
      rfl
    · have m : p ∈ qs := (List.mem_cons.mp h).resolve_left fun z => e z.symm
      rw [List.filter_cons_of_pos (by rw [decide_eq_false e]; rfl), List.length_cons, List.length_cons, less_len a2 m]
/-! ### rows of masks -/
/-- small masks -/
abbrev Ms (C : Addr) (H : Hp) : List V → List (List Pth) → Prop := Paired fun v qs => IsM C H v qs ∧ qs.length ≤ 6
theorem Ms.keep {T : Addr → Prop} {C : Addr} {H H2 : Hp} {vs : List V} {qss : List (List Pth)} (h : Ms C H vs qss) (k : Kp T H H2) (hT : Loose T H) : Ms C H2 vs qss := Paired.mapP h fun _ _ z => ⟨z.1.keep k hT, z.2⟩
theorem Ms.keep0 {C : Addr} {H H2 : Hp} {vs : List V} {qss : List (List Pth)} (h : Ms C H vs qss) (k : Kp T0 H H2) : Ms C H2 vs qss := h.keep k (loose0 H)
theorem Ms.snoc {C : Addr} {H : Hp} : ∀ {vs : List V} {qss : List (List Pth)} {v : V} {qs : List Pth}, Ms C H vs qss → IsM C H v qs → qs.length ≤ 6 → Ms C H (vs ++ [v]) (qss ++ [qs])
  | _, _, _, _, .nil, h, l => .cons ⟨h, l⟩ .nil
  | _, _, _, _, .cons r t, h, l => .cons r (Ms.snoc t h l)
theorem Ms.get {C : Addr} {H : Hp} : ∀ {vs : List V} {qss : List (List Pth)} {i : Nat} {v : V}, Ms C H vs qss → vs[i]? = some v → ∃ qs, IsM C H v qs ∧ qs.length ≤ 6
  | _, _, _, _, .nil, e => nomatch e
  | _, _, 0, _, .cons r _, e => by
    cases Option.some.inj e
    exact ⟨_, r⟩
  | _, _, _ + 1, _, .cons _ t, e => Ms.get t e
theorem Ms.three {C : Addr} {H : Hp} {vs : List V} {qss : List (List Pth)} (h : Ms C H vs qss) (l : vs.length = 3) :
    ∃ x y z q r s, vs = [x, y, z] ∧ (IsM C H x q ∧ q.length ≤ 6) ∧ (IsM C H y r ∧ r.length ≤ 6) ∧ (IsM C H z s ∧ s.length ≤ 6) := by
  match vs, qss, h, l with
  | [x, y, z], _, .cons a (.cons b (.cons c .nil)), _ => exact ⟨x, y, z, _, _, _, rfl, a, b, c⟩
theorem loose_lst {H : Hp} {D : Addr} {xs : List V} (d : H D = some (.lst xs)) : Loose (At D) H := by
  intro a o e q
  rw [show a = D from e, d] at q
  cases q
  exact ⟨(fun _ e => nomatch e), fun _ _ _ e => nomatch e⟩
theorem clamp {lo hi : Int} (h : lo ≤ hi) (n : Nat) : lo ≤ (if (if (n : Int) < hi then (n : Int) else hi) > lo then (if (n : Int) < hi then (n : Int) else hi) else lo) ∧ (if (if (n : Int) < hi then (n : Int) else hi) > lo then (if (n : Int) < hi then (n : Int) else hi) else lo) ≤ hi := by
  constructor
  · split
    · omega
    · omega
  · split
    · split <;> omega
    · omega
theorem less_within (qs : List Pth) (f : Pth → Bool) : withinP (qs.filter f) qs = true := within_cov fun x h => by
  obtain ⟨g, mg, b⟩ := covers_iff.mp h
  exact covers_iff.mpr ⟨g, (List.mem_filter.mp mg).1, b⟩
theorem cov_mem {qs : List Pth} {p : Pth} (h : p ∈ qs) : coversP qs p = true := covers_iff.mpr ⟨p, h, begins_self p⟩
theorem not_within {qs rs : List Pth} {p : Pth} (h : p ∈ qs) (n : coversP rs p = false) : withinP qs rs = false := by
  cases e : withinP qs rs with
  | false => rfl
  | true => rw [within_iff.mp e p (cov_mem h)] at n; cases n
end Gk
/-! Gk12: promises of defs that are called while no repr is under way (repr of data wants to know that). -/
namespace Gk
open PySem PySem.Spec PyProof.Rows L2
/-- no repr is under way -/
def Free (A : Around) : Prop := A.guards = some []
structure FnG (P : Program) (w : World) (K : PySem.W.Frag) (mg : Str → Option Value) (base : Heap) (k : Nat) (f : Addr) (fd : FuncData) (ps : List Str) (sp : Sp) : Prop where
  len : ∀ vs H Q E, sp vs H Q E → vs.length = ps.length
  run : ∀ (A : Around) (outer : List Env) (s : Shared) (H : Hp) (args : Args) (us : List Value) (vs : List V) (Q : VK) (E : XK), Free A → Room k A → Env0 P w K mg base A outer s H → BindsTo s fd args (ps.zip us) → Vals vs us → sp vs H Q E →
    codeAny (model P w) A (.call (.ref f) args) (CR CX0 outer P w H s Q E) s
theorem fnG_ok {P : Program} {w : World} {K : PySem.W.Frag} {mg : Str → Option Value} {base : Heap} {k : Nat} {f : Addr} {fd : FuncData} {ps : List Str} {sp : Sp} (F : FnOk P w K mg base CX0 k f fd ps sp) : FnG P w K mg base k f fd ps sp :=
  ⟨F.len, fun A outer s H args us vs Q E _ hr e b r h => F.run A outer s H args us vs Q E hr e b r h⟩
theorem Free.deeper {A : Around} (h : Free A) (e : Env) : Free (A.deeper e) := h
theorem Free.in1 {A : Around} (h : Free A) : Free A.in1 := h
section
variable {P : Program} {w : World} {K : PySem.W.Frag} {mg : Str → Option Value} {base : Heap}
theorem fnG_by {nm qual : Str} {st : Stmt} {f : Addr} {fd : FuncData} {N ps : List Str} {k : Nat} {sp : Sp} (F : Fun K nm qual st f fd) (S : FnScope N ps (defScope st)) (len : ∀ vs H Q E, sp vs H Q E → vs.length = ps.length)
    (hbody : ∀ (cdv : Value) (A : Around) (outer : List Env) (s : Shared) (H : Hp) (vs : List V) (Q : VK) (E : XK), Free A → Room k (A.deeper (envOfC qual (defScope st) s.heap.objs.size f cdv)) → sp vs H Q E →
      ∃ t, PSs (cxOf CX0 P w K mg base N qual (defScope st) f cdv A outer s H E).nox (defBody st) t ∧ t { nx := fun _ H2 => Q .non H2, rt := Q } (start N vs) H) : FnG P w K mg base (k + 1) f fd ps sp := by
  obtain ⟨oc, od, kV, doc, pm, an, cdv, ct, osl, rfl, lk, hcd⟩ := F.ex
  refine ⟨len, fun A outer s H args us vs Q E hg room en bnd rel pr => ?_⟩
  have nl := len vs H Q E pr
  have inK : K.In s.heap := en.mod.kin.keeps fun b o e => (en.bs b o e).1
  have noLim : s.heap.NoLimit := en.mod.nolimit.keeps fun b o e => (en.bs b o e).1
  have kinds : ∀ y ∈ ps.zip us, (defScope st).names.lookup y.1 = some .local ∨ ((defScope st).names.lookup y.1 = some .cell ∧ ((cellsFrom (s.heap.objs.size + 1) (defScope st).names []).lookup y.1).isSome = true) := by
    intro y my
    obtain ⟨m1, _⟩ := List.of_mem_zip (show (y.1, y.2) ∈ ps.zip us from my)
    exact (S.par y.1 m1).imp id fun c => ⟨c, PySem.W.cellsFrom_some _ _ _ (.inl c)⟩
  refine codeAny_call_function room.depth (inK _ _ lk) rfl S.co S.gen rfl (PySem.W.codeRec_of inK hcd) (bnd _ _ _ _ (wpAny_newFunctionEnv_cells S.kind kinds fun ev hev s1 x => ?_))
  cases hev
  refine ⟨noLim.keeps x.toInCall.keep, codeAny_func ?_⟩
  obtain ⟨t, ht, go⟩ := hbody cdv A outer s H vs Q E hg (room.deeper _) pr
  have inv : Inv (cxOf CX0 P w K mg base N qual (defScope st) f cdv A outer s H E) [] (start N vs) H s1 := inv_start S room.hd en nl rel x
  have done : ∀ {st2 : L2.St} {H2 : Hp} {s2 : Shared} {v : V} {u : Value}, Inv (cxOf CX0 P w K mg base N qual (defScope st) f cdv A outer s H E) [] st2 H2 s2 → RelV v u → Q v H2 → CE outer P w H s Q u s2 :=
    fun {st2 H2 s2 v u} J rv q => ⟨v, H2, J.os, J.bare, J.base, J.hok, rv, q⟩
  refine wpAny_mono (ht.nox.run [] s1 (start N vs) H _ inv go) (fun fl s2 h => ?_) fun _ _ h => h
  match fl, h with
  | .ret u, ⟨v, st2, H2, J, rv, q⟩ => exact done J rv q
  | .next, ⟨st2, H2, J, q⟩ => exact done (v := V.non) (u := Value.none) J rfl q
  | .brk, ⟨_, _, _, q⟩ => exact q.elim
  | .cont, ⟨_, _, _, q⟩ => exact q.elim
end
/-- a def of the module and such a promise -/
structure DfG (P : Program) (w : World) (K : PySem.W.Frag) (mg : Str → Option Value) (base : Heap) (k : Nat) (f : Addr) (x : Str) (ps : List Str) (sp : Sp) : Prop where
  ex : ∃ fd, FnG P w K mg base k f fd ps sp ∧ Binds K fd ps []
  mgx : mg x = some (.ref f)
  kp : PySem.W.keepIn K (.ref f) = true
section
variable {X : Cx} {k : Nat} {f : Addr} {x : Str} {ps : List Str} {sp : Sp} {p pos : Pos} {e : Expr} {es : List Expr} {t : TA}
theorem pe_dfG (D : DfG X.prog X.w X.K X.mg X.base k f x ps sp) (hf : Free X.A) (hr : Room k X.A) (hg : Gl X x) (ha : PA X (e :: es) t) (hdb : (x == ("__debug__" : Str)) = false := by decide)
    (he : starEach (e :: es) X.env = (false, eval e X.env) :: starEach es X.env := by rfl) (hpl : (backTo pos (starEach es X.env)).any (·.1) = false := by rfl) :
    PE X (.Call (.Name x p) (e :: es) [] pos) (tCall sp [] E0 t) := by
  obtain ⟨fd, F, hb⟩ := D.ex
  constructor
  intro pins s st H Q I h
  refine wpAny_Call_Name_kw (ld_glob I hg D.mgx ?_ hdb)
  refine PySem.W.callWith_K (h₀ := X.base) I.ok.mod.kin D.kp (thn (ha.run pos pins s st H _ I h) fun us s1 z => ?_) he hpl
  obtain ⟨vs, H1, I1, r, q⟩ := z
  refine ⟨I1.kIn, ?_⟩
  rw [List.append_nil] at q
  have hl : us.length = ps.length := r.length.symm.trans (F.len _ _ _ _ q)
  have bd := hb s1 us I1.kIn (by rw [List.append_nil]; exact hl)
  rw [List.append_nil] at bd
  refine wpAny_call (codeAny_mono (F.run X.A X.stack s1 H1 ⟨us, []⟩ us vs Q E0 hf hr I1.env0 bd r q) ?_)
  intro res s2 q2
  match res, q2 with
  | .error e, q2 => exact pass0 pins st H1 s1 e s2 I1 q2
  | .ok (.ret u), q2 => exact I1.after q2
  | .ok .next, q2 => exact q2.elim
  | .ok .brk, q2 => exact q2.elim
  | .ok .cont, q2 => exact q2.elim
end
end Gk
/-! Gk13: a law's end where its promise is an FnG. -/
namespace Gk
open PySem PySem.Spec PyProof.Rows L2
/-- the script, seen through an abstract heap that tracks it alone, or nothing -/
theorem script_seen {P : Program} {w : World} {K : PySem.W.Frag} {s : Shared} {a : Addr} {vs : List Value} {ns : List Int} (KX : K.In s.heap) (ha : s.heap.get? a = some { cls := .type "list", data := .seq vs.toArray }) (hi : IntsAre vs ns) (hl : ns.length ≤ sizeLine) :
    ∃ H : Hp, Only H ∧ SqL K H a (ns.map V.int) ∧ HOk P w H s.heap ∧ (∀ b o, K.lookup b = some o → H b = none) ∧ ∀ b (o : Obj) es ep, s.heap.get? b = some o → o.data = .dict es ep → H b = none := by
  have rel := vals_ints hi
  cases hk : K.lookup a with
  | some o =>
    have same := KX a o hk
    rw [ha] at same
    cases same
    refine ⟨fun _ => none, fun _ => .inl rfl, .inr ⟨_, vs.toArray, _, hk, rfl, rfl, rfl, ?_, by simpa using rel⟩, (fun b u z => nomatch (show (none : Option HO) = some u from z)), fun _ _ _ => rfl, fun _ _ _ _ _ _ => rfl⟩
    rw [List.size_toArray, hi.length]
    exact hl
  | none =>
    let so : Obj := { cls := .type "list", data := .seq vs.toArray }
    refine ⟨fun b => if b = a then some (.frz so (.lst (ns.map V.int))) else none, fun b => ?_, .inl (.inr ⟨so, if_pos rfl⟩), fun b u z => ?_, fun b o e => ?_, fun b o es ep e d => ?_⟩
    · by_cases c : b = a
      · exact .inr ⟨_, _, if_pos c⟩
      · exact .inl (if_neg c)
    · by_cases c : b = a
      · cases (if_pos c).symm.trans z
        cases c
        exact ⟨ha, by rw [List.length_map]; exact hl, vs, _, rel, ha⟩
      · cases (if_neg c).symm.trans z
    · refine if_neg fun c => ?_
      cases c
      rw [hk] at e
      cases e
    · refine if_neg fun c => ?_
      cases c
      rw [ha] at e
      cases e
      exact nomatch (show Data.seq vs.toArray _ = Data.dict es ep from d)
theorem callerFree : Free callerA := rfl
theorem lawG_call {P : Program} {w : World} {K : PySem.W.Frag} {mg mb : Str → Option Value} {k : Nat} {fa a : Addr} {fd : FuncData} {x : Str} {sp : Sp} {s : Shared} {vs : List Value} {ns : List Int}
    (KX : K.In s.heap) (hm : s.heap.Ns mainGlobals mg) (hb : s.heap.Ns builtinsNs mb) (hbb : ∀ y : Str, y ≠ "__name__" → mb y = bootBuiltins y) (lim : s.heap.NoLimit) (hg : s.gens = #[])
    (ha : s.heap.get? a = some { cls := .type "list", data := .seq vs.toArray }) (hi : IntsAre vs ns) (hl : ns.length ≤ sizeLine) (room : Room k callerA)
    (F : ∀ base : Heap, K.In base → base.Ns mainGlobals mg → FnG P w K mg base k fa fd [x] sp) (bnd : ∀ (s : Shared) (u : Value), BindsTo s fd ⟨[u], []⟩ [(x, u)])
    (hsp : ∀ H : Hp, Only H → SqL K H a (ns.map V.int) → sp [.ref a] H (fun v _ => v = .bl true) fun _ _ _ => False) :
    codeAny (model P w) callerA (.call (.ref fa) ⟨[.ref a], []⟩) (fun r s2 => r = .ok (.ret (.bool true)) ∧ OldK s.heap s2.heap ∧ s2.os = s.os ∧ AllBare s2.gens) s := by
  obtain ⟨H, only, seen, ok, noK, noD⟩ := script_seen (P := P) (w := w) KX ha hi hl
  have nsOf : ∀ {b : Addr} {m : Str → Option Value}, s.heap.Ns b m → (hidT s.heap H).Ns b m := by
    rintro b m ⟨o, es, ep, e, d, r⟩
    exact ⟨o, es, ep, hidT_get e (noD b o es ep e d), d, r⟩
  have inB : K.In (hidT s.heap H) := fun b o e => hidT_get (KX b o e) (noK b o e)
  obtain ⟨mc, l1, l2⟩ := lim
  have md : Mod K mg (hidT s.heap H) := ⟨inB, nsOf hm, ⟨mb, nsOf hb, hbb⟩, mc, nsOf l1, l2⟩
  have en : Env0 P w K mg (hidT s.heap H) callerA [] s H := ⟨rfl, md, fun b o e => of_hidT e, Nat.le_of_eq (hidT_size _ _), trivial, (fun b z => nomatch (show b ∈ ([] : List Addr) from z)), ok, .of_eq hg⟩
  refine codeAny_mono ((F _ inB (nsOf hm)).run callerA [] s H ⟨[.ref a], []⟩ [.ref a] [.ref a] _ _ callerFree room en (bnd s (.ref a)) (.cons rfl .nil) (hsp H only seen)) fun r s2 q => ?_
  match r, q with
  | .error e, q => exact (show False from q).elim
  | .ok .next, q => exact q.elim
  | .ok .brk, q => exact q.elim
  | .ok .cont, q => exact q.elim
  | .ok (.ret u), ⟨v, H2, os, bare, un, ok2, rv, qv⟩ =>
    cases (show v = V.bl true from qv)
    cases rv
    refine ⟨rfl, OldK.of_keep fun b o e => ?_, os, bare⟩
    rcases only b with z | ⟨ob, xs, z⟩
    · exact un.keep b o e z (fun m => nomatch (show b ∈ ([] : List Addr) from m)) (fun m => nomatch m)
    · obtain ⟨g1, _⟩ := ok b _ z
      obtain ⟨g2, _⟩ := ok2 b _ (un.frzs b ob _ z)
      rw [e] at g1
      cases g1
      exact g2
theorem walkG {l : PySem.W.OpenLaw} {n k : Nat} {q : Program} {loose : List Str} {XP : (Str → Option Value) → Heap → Prop} {YP : World → Heap → Prop} {d : DefRec} {K : Params → PySem.W.Frag} {sp : World → Sp} {x : Str}
    (hn : l.most = some n) (hn2 : n ≤ sizeLine) (hdf : d.params.defaults = []) (hr : Room k callerA) (hY : ∀ (w : World) (h : Heap), YP w h → (K w.params).In h)
    (F : ∀ (w : World) (mg : Str → Option Value) (fa : Addr) (h : Heap), (K w.params).In h → h.Ns mainGlobals mg → mg d.name = some (.ref fa) →
      ∃ fd : FuncData, (∀ (s : Shared) (u : Value), BindsTo s fd ⟨[u], []⟩ [(x, u)]) ∧ ∀ base : Heap, (K w.params).In base → base.Ns mainGlobals mg → FnG l.prog w (K w.params) mg base k fa fd [x] (sp w))
    (hsp : ∀ (w : World) (H : Hp) (a : Addr) (ns : List Int), ns.length ≤ n → (∀ z ∈ ns, Builtin.Int.intBits z ≤ 1048576) → Only H → SqL (K w.params) H a (ns.map V.int) → sp w [.ref a] H (fun v _ => v = .bl true) fun _ _ _ => False) :
    PySem.W.WalkO q loose XP YP l.row.toRowW d [] (fun f vs => PySem.call f vs) := by
  refine Att.attach_callB hn hdf fun w s₀ s mg mb fa o pm cd doc a vs ns G Y ho hd hcd hmg hobj hints hlen hbits hg => ?_
  obtain ⟨fd, bnd, hF⟩ := F w mg fa _ (hY w _ Y) G.T.g hmg
  exact lawG_call (hY w _ Y) G.T.g G.T.b G.T.builtins G.T.nolimit hg hobj hints (Nat.le_trans hlen hn2) hr hF bnd fun H hO hS => hsp w H a ns hlen hbits hO hS
end Gk
/-! Gk14: repr of data, < of data. -/
namespace Gk
open PySem PySem.Spec PyProof.Rows L2
/-- a scalar -/
inductive Sc : V → PyData → Prop
  | non : Sc .non .none
  | bl (b : Bool) : Sc (.bl b) (.bool b)
  | int (i : Int) : Sc (.int i) (.int i)
  | str (x : Str) : Sc (.str x) (.str x)
def dKey : L2.Key → PyData
  | .inl i => .int i
  | .inr x => .str x
abbrev ScP (p : L2.Key × V) (q : PyData × PyData) : Prop := q.1 = dKey p.1 ∧ Sc p.2 q.2
/-- data of which repr is known: no dict, or a dict of scalars -/
inductive Sh (K : PySem.W.Frag) (H : Hp) : V → PyData → Prop
  | dp {v : V} {d : PyData} : Dp K H v d → Sh K H v d
  | dict {a : Addr} {kvs : List (L2.Key × V)} {ds : List (PyData × PyData)} : H a = some (.dK kvs) → Paired ScP kvs ds → Sh K H (.ref a) (.dict ds)
theorem Sh.keep0 {K : PySem.W.Frag} {H H2 : Hp} {v : V} {d : PyData} (h : Sh K H v d) (k : Kp T0 H H2) : Sh K H2 v d := by
  cases h with
  | dp h => exact .dp (dp_keep k h)
  | dict e p => exact .dict (k.at0 e) p
mutual
theorem dp_nodict {K : PySem.W.Frag} {H : Hp} : ∀ {v : V} {d : PyData}, Dp K H v d → d.hasDict = false
  | _, _, .non => rfl
  | _, _, .bl _ => rfl
  | _, _, .int _ => rfl
  | _, _, .str _ => rfl
  | _, _, .lst _ t => dpa_nodict t
  | _, _, .tup _ t => dpa_nodict t
theorem dpa_nodict {K : PySem.W.Frag} {H : Hp} : ∀ {vs : List V} {ds : List PyData}, DpAll K H vs ds → PyData.hasDictAll ds = false
  | _, _, .nil => rfl
  | _, _, .cons a t => by
    show (PyData.hasDict _ || PyData.hasDictAll _) = false
    rw [dp_nodict a, dpa_nodict t]
    rfl
end
section
variable {X : Cx}
def rRepr (K : PySem.W.Frag) : List V → Hp → VK → Prop := fun xs H Q => ∃ (v : V) (d : PyData), xs = [v] ∧ Sh K H v d ∧ d.showable = true ∧ d.depth ≤ 64 ∧ d.shown.length ≤ sizeLine ∧ Q (.str d.shown) H
theorem sc_reads {v : V} {u : Value} {d : PyData} {h : Heap} (s : Sc v d) (r : RelV v u) : Reads h u d [] := by
  cases s with
  | non => cases r; exact .none
  | bl b => cases r; exact .bool b
  | int i => obtain ⟨t, rfl⟩ := (show ∃ t, u = Value.int i t from r); exact .int i t
  | str x => obtain ⟨t, rfl⟩ := (show ∃ t, u = Value.str x t from r); exact .str x t
theorem all_cons0 {h : Heap} {v : Value} {vs : List Value} {d : PyData} {ds : List PyData} (a : Reads h v d []) (b : ReadsAll h vs ds []) : ReadsAll h (v :: vs) (d :: ds) [] := ReadsAll.cons a b
theorem dict_reads {P : Program} {w : World} {h : Heap} : ∀ {kvs : List (L2.Key × V)} {vs : List (L2.Key × Value)} {es : List DictEntry} {ds : List (PyData × PyData)}, Paired ScP kvs ds → KV kvs vs → Pairs (mixKind P w) es vs →
    ReadsAll h (es.map (·.key)) (ds.map (·.1)) [] ∧ ReadsAll h (es.map (·.val)) (ds.map (·.2)) []
  | _, _, _, _, .nil, .nil, .nil => ⟨.nil, .nil⟩
  | _, _, _, _, .cons p ps, .cons r rs, .cons k e t => by
    obtain ⟨i1, i2⟩ := dict_reads (h := h) ps rs t
    obtain ⟨r1, r2⟩ := r
    obtain ⟨p1, p2⟩ := p
    refine ⟨all_cons0 ?_ i1, all_cons0 ?_ i2⟩
    · dsimp only
      rw [p1, r1]
      rcases keyIs_shape k with ⟨i, t, e1, e2⟩ | ⟨x, t, e1, e2⟩
      · rw [e1, e2]
        exact .int i t
      · rw [e1, e2]
        exact .str x t
    · dsimp only
      rw [e]
      exact sc_reads p2 r2
theorem call_reprD (hf : Free X.A) (hu : X.A.units + 70 < cLine) : CallR X (.builtin "repr") (rRepr X.K) := by
  intro pins s σ H xs us Q I r h
  obtain ⟨v, d, rfl, sh, sw, dd, sz, q⟩ := h
  obtain ⟨u, rfl, ru⟩ := vals1 r
  have fin : ∀ (h2 : Heap) (t : Tok) (tk : Nat), (∀ b o, s.heap.get? b = some o → h2.get? b = some o) → EP X pins σ Q (.str d.shown t) { s with heap := h2, toks := tk } := fun h2 t tk hk => ⟨.str d.shown, H, I.kept hk, ⟨t, rfl⟩, q⟩
  cases sh with
  | dp h =>
    cases h with
    | non =>
      cases ru
      exact PySem.P.repr_of_none (fin s.heap _ _ fun _ _ e => e)
    | bl b =>
      cases ru
      exact PySem.P.repr_of_bool (fin s.heap _ _ fun _ _ e => e)
    | int i =>
      obtain ⟨t, rfl⟩ := (show ∃ t, u = Value.int i t from ru)
      exact PySem.P.repr_of_int (of_decide_eq_true sw) (fin s.heap _ _ fun _ _ e => e)
    | str x =>
      obtain ⟨t, rfl⟩ := (show ∃ t, u = Value.str x t from ru)
      exact PySem.P.repr_of_str (fin s.heap _ _ fun _ _ e => e) sz
    | lst a t =>
      obtain ⟨as, rd⟩ := Dp.reads I _ _ u (.lst a t) ru
      cases ru
      refine repr_of_reads' rd sw (fun e => ?_) hf (by omega) (fun _ _ e => e) (fun h2 t tk hk => fin h2 t tk hk) sz
      rw [dp_nodict (.lst a t)] at e
      cases e
    | tup a t =>
      obtain ⟨as, rd⟩ := Dp.reads I _ _ u (.tup a t) ru
      cases ru
      refine repr_of_reads' rd sw (fun e => ?_) hf (by omega) (fun _ _ e => e) (fun h2 t tk hk => fin h2 t tk hk) sz
      rw [dp_nodict (.tup a t)] at e
      cases e
  | dict e p =>
    cases ru
    obtain ⟨_, ns, vs, kv, o, es, ep, ho, ex, hd, _, pr, _⟩ := dk_of I.hok e
    obtain ⟨q1, q2⟩ := dict_reads (h := s.heap) p kv pr
    refine repr_of_reads' (Reads.dict ho ex.1 hd q1 q2) sw (fun _ m => ?_) hf (by omega) (fun _ _ e => e) (fun h2 t tk hk => fin h2 t tk hk) sz
    rcases List.mem_cons.mp m with m | m
    · rw [← m] at ns
      simp at ns
    · exact absurd m (by simp)
/-- a < b, data that are alike -/
def rLtD (K : PySem.W.Frag) : R2 := fun x y H Q => ∃ d e, Dp K H x d ∧ Dp K H y e ∧ PySem.W.alike d e = true ∧ d ≠ .none ∧ d.depth ≤ 64 ∧ Q (.bl (PySem.W.dataLt d e)) H
theorem op_ltD (hu : X.A.units + 64 < cLine) : OpR X (compareOp .Lt) (rLtD X.K) := by
  intro pins s σ H x y v u Q I rx ry h
  obtain ⟨d, e, hd, he, al, nn, dp, q⟩ := h
  obtain ⟨as, r1⟩ := Dp.reads I d x v hd rx
  obtain ⟨bs, r2⟩ := Dp.reads I e y u he ry
  exact PySem.W.rcLt_alike d e X.A s v u as bs r1 r2 al nn (by omega) X.prog X.w X.xe _ ⟨.bl _, H, I, rfl, q⟩
end
end Gk
/-! Gk15: values by kind: texts, numbers, flags, others. -/
namespace Gk
open PySem PySem.Spec PyProof.Rows L2
def NoTy (K : PySem.W.Frag) (H : Hp) (T : String) (v : V) : Prop := ∃ t, TyX K H v t ∧ PySem.W.kitOne K t (.type T) = some false
inductive Kd
  | s (x : Str)
  | i (n : Int)
  | b (c : Bool)
  | o
def KdAt (K : PySem.W.Frag) (H : Hp) (v : V) : Kd → Prop
  | .s x => v = .str x ∧ x.length < sizeLine
  | .i n => v = .int n
  | .b c => v = .bl c
  | .o => NoTy K H "str" v ∧ NoTy K H "int" v ∧ NoTy K H "bool" v
theorem NoTy.keep0 {K : PySem.W.Frag} {H H2 : Hp} {T : String} {v : V} (h : NoTy K H T v) (k : Kp T0 H H2) : NoTy K H2 T v := by
  obtain ⟨t, a, b⟩ := h
  exact ⟨t, tyx_keep a k, b⟩
theorem KdAt.keep0 {K : PySem.W.Frag} {H H2 : Hp} {v : V} {kd : Kd} (h : KdAt K H v kd) (k : Kp T0 H H2) : KdAt K H2 v kd := by
  cases kd with
  | s x => exact h
  | i n => exact h
  | b c => exact h
  | o => exact ⟨h.1.keep0 k, h.2.1.keep0 k, h.2.2.keep0 k⟩
def nameK : Kd → Bool
  | .s x => isNm x
  | _ => false
def textK : Kd → Bool
  | .s x => isLet x 0 12
  | _ => false
def numK : Kd → Bool
  | .i n => decide (0 ≤ n)
  | _ => false
def flagK : Kd → Bool
  | .b _ => true
  | _ => false
/-- a def that tells something of a value by its kind -/
def spKd (K : PySem.W.Frag) (g : Kd → Bool) : Sp := fun vs H Q _ => ∃ (v : V) (kd : Kd), vs = [v] ∧ KdAt K H v kd ∧ ∀ H2, Kp T0 H H2 → Q (.bl (g kd)) H2
/-- every value of a kind is a text or none -/
theorem KdAt.str {K : PySem.W.Frag} {H : Hp} {v : V} {kd : Kd} (h : KdAt K H v kd) : (∃ x, kd = .s x ∧ v = .str x ∧ x.length < sizeLine) ∨ ((∀ x, kd ≠ .s x) ∧ NoStr K H v) := by
  cases kd with
  | s x => exact .inl ⟨x, rfl, h.1, h.2⟩
  | i n =>
    refine .inr ⟨(fun x e => nomatch e), .type "int", ?_, kit_ty (by decide +kernel)⟩
    rw [show v = .int n from h]
    exact .base (.int n)
  | b c =>
    refine .inr ⟨(fun x e => nomatch e), .type "bool", ?_, kit_ty (by decide +kernel)⟩
    rw [show v = .bl c from h]
    exact .base (.bl c)
  | o => exact .inr ⟨(fun x e => nomatch e), h.1⟩
theorem KdAt.item {K : PySem.W.Frag} {H : Hp} {v : V} {kd : Kd} (h : KdAt K H v kd) : ItN K H v (nameK kd) := by
  rcases h.str with ⟨x, rfl, e, l⟩ | ⟨ne, ns⟩
  · exact .inl ⟨x, e, l, rfl⟩
  · refine .inr ⟨ns, ?_⟩
    cases kd with
    | s x => exact absurd rfl (ne x)
    | _ => rfl
/-- isinstance(v, T) for T of str, int, bool -/
def isK (T : String) : Kd → Bool
  | .s _ => T == "str"
  | .i _ => T == "int"
  | .b _ => T == "int" || T == "bool"
  | .o => false
theorem KdAt.isi {K : PySem.W.Frag} {H : Hp} {v : V} {kd : Kd} {T : String} (h : KdAt K H v kd) (hT : T = "str" ∨ T = "int" ∨ T = "bool") : ∃ t, TyX K H v t ∧ PySem.W.kitOne K t (.type T) = some (isK T kd) := by
  cases kd with
  | s x =>
    refine ⟨.type "str", ?_, ?_⟩
    · rw [h.1]
      exact .base (.str x)
    · rcases hT with rfl | rfl | rfl
      · exact (kit_ty (show kitB "str" "str" = some ("str" == "str") by decide +kernel))
      · exact (kit_ty (show kitB "str" "int" = some ("int" == "str") by decide +kernel))
      · exact (kit_ty (show kitB "str" "bool" = some ("bool" == "str") by decide +kernel))
  | i n =>
    refine ⟨.type "int", ?_, ?_⟩
    · rw [show v = .int n from h]
      exact .base (.int n)
    · rcases hT with rfl | rfl | rfl
      · exact (kit_ty (show kitB "int" "str" = some ("str" == "int") by decide +kernel))
      · exact (kit_ty (show kitB "int" "int" = some ("int" == "int") by decide +kernel))
      · exact (kit_ty (show kitB "int" "bool" = some ("bool" == "int") by decide +kernel))
  | b c =>
    refine ⟨.type "bool", ?_, ?_⟩
    · rw [show v = .bl c from h]
      exact .base (.bl c)
    · rcases hT with rfl | rfl | rfl
      · exact (kit_ty (show kitB "bool" "str" = some ("str" == "int" || "str" == "bool") by decide +kernel))
      · exact (kit_ty (show kitB "bool" "int" = some ("int" == "int" || "int" == "bool") by decide +kernel))
      · exact (kit_ty (show kitB "bool" "bool" = some ("bool" == "int" || "bool" == "bool") by decide +kernel))
  | o =>
    rcases hT with rfl | rfl | rfl
    · exact h.1
    · exact h.2.1
    · exact h.2.2
/-- the reading of isinstance(v, T) -/
theorem rd_isi {K : PySem.W.Frag} {H : Hp} {v : V} {kd : Kd} {T : String} {Q : VK} (h : KdAt K H v kd) (hT : T = "str" ∨ T = "int" ∨ T = "bool") (k : Q (.bl (isK T kd)) H) : rIsi K [v, .ty T] H Q := by
  obtain ⟨t, ty, e⟩ := h.isi hT
  exact ⟨v, .ty T, t, .type T, isK T kd, rfl, .ty T, ty, e, k⟩
/-- value_key: texts by length and themselves, others as they are -/
def spKey (K : PySem.W.Frag) : Sp := fun vs H Q _ => ∃ (v : V) (kd : Kd), vs = [v] ∧ KdAt K H v kd ∧ ((∃ x, kd = .s x ∧ ∀ p, H p = none → Q (.ref p) (upd H p (.tup [.int (x.length : Nat), .str x]))) ∨ ((∀ x, kd ≠ .s x) ∧ Q v H))
end Gk
/-! Gk16: texts repeated; what k01's own defs promise. -/
namespace Gk
open PySem PySem.Spec PyProof.Rows L2
open PySem.Builtin PySem.Builtin.Str in
theorem short_tool {k : Nat} (h : k ≤ 1000000) : tooLong k = false := by
  have : ¬ k > 2 ^ 24 := by omega
  simpa [tooLong, sizeLine] using this
def repS (x : Str) (n : Nat) : Str := ⟨(List.replicate n x.cps).foldl (· ++ ·) #[]⟩
theorem repS_one (x : Str) : repS x 1 = x := by
  unfold repS
  show (⟨#[] ++ x.cps⟩ : Str) = x
  rw [Array.empty_append]
def rMulS : R2 := fun x y H Q => ∃ (z : Str) (n : Nat), x = .str z ∧ y = .int (n : Int) ∧ n ≤ 1000 ∧ 1 ≤ z.length ∧ z.length ≤ 1000 ∧ Q (.str (repS z n)) H
theorem op_mulS {X : Cx} : OpR X (binaryOp .Mult) rMulS := by
  intro pins s σ H x y v u Q I rx ry h
  obtain ⟨z, n, rfl, rfl, hn, z1, hz, q⟩ := h
  obtain ⟨t, rfl⟩ := (show ∃ t, v = Value.str z t from rx)
  obtain ⟨t2, rfl⟩ := (show ∃ t, u = Value.int (n : Int) t from ry)
  have big : z.length * n ≤ 1000000 := Nat.mul_le_mul hz hn
  have fin : EP X pins σ Q (.str (repS z n) s.toks) { s with toks := s.toks + 1 } := ⟨.str (repS z n), H, I.tok _, ⟨_, rfl⟩, q⟩
  refine PySem.P.mul_str ?_ (fun h1 _ => ?_) (fun _ _ => ?_) ?_
  · rw [decide_eq_false (by omega), decide_eq_false (by omega)] <;> rfl
  · have : (z.length : Int) ≤ (2 ^ 63 - 1) / (n : Int) := by
      refine (Int.le_ediv_iff_mul_le (by omega)).mpr ?_
      have e : ((z.length : Int) * (n : Int)) = ((z.length * n : Nat) : Int) := by rw [Int.natCast_mul]
      rw [e]
      omega
    omega
  · rw [Int.toNat_natCast]
    exact short_tool big
  · by_cases c0 : (n : Int) < 1
    · rw [if_pos c0]
      have e : n = 0 := by omega
      subst e
      exact ⟨by decide, fin⟩
    · rw [if_neg c0]
      by_cases c1 : n = 1
      · have e : (((n : Int) == 1) || z.length == 0) = true := by rw [c1]; rfl
        rw [if_pos e]
        rw [c1, repS_one] at q
        exact ⟨.str z, H, I, ⟨_, rfl⟩, q⟩
      · have e : ¬ (((n : Int) == 1) || z.length == 0) = true := by
          rw [Bool.or_eq_true, beq_iff_eq, beq_iff_eq]
          omega
        rw [if_neg e, Int.toNat_natCast]
        exact ⟨fits_reps (short_tool big), fin⟩
/-! ### promises -/
def letters (x : Str) : Bool := x.cps.toList.all fun c => decide (c ∈ LET.cps.toList)
def spLett : Sp := fun vs H Q _ => ∃ x : Str, vs = [.str x] ∧ x.length < sizeLine ∧ PyData.strOk x = true ∧ ∀ H2, Kp T0 H H2 → Q (.bl (letters x)) H2
def notLet : R2 := fun x y H Q => ∃ (c : Nat) (z : Str), x = .str ⟨#[c]⟩ ∧ y = .str z ∧ Q (.bl (!decide (c ∈ z.cps.toList))) H
def sing (c : Nat) : Str := ⟨#[c]⟩
def others (l : List Nat) : List Nat := l.filter fun c => !decide (c ∈ LET.cps.toList)
theorem others_nil (l : List Nat) : (others l).isEmpty = l.all fun c => decide (c ∈ LET.cps.toList) := by
  unfold others
  induction l with
  | nil => rfl
  | cons c l ih =>
    by_cases h : c ∈ LET.cps.toList
    · rw [List.filter_cons_of_neg (by rw [decide_eq_true h]; exact Bool.false_ne_true), ih, List.all_cons, decide_eq_true h, Bool.true_and]
    · rw [List.filter_cons_of_pos (by rw [decide_eq_false h]; rfl), List.all_cons, decide_eq_false h, Bool.false_and]
      rfl
theorem isLet_letters (x : Str) (lo hi : Int) : isLet x lo hi = (decide (lo ≤ (x.length : Int)) && decide ((x.length : Int) ≤ hi) && letters x) := rfl
theorem dp_strs2 {K : PySem.W.Frag} {H : Hp} : ∀ l : List Str, DpAll K H (l.map V.str) (l.map PyData.str)
  | [] => .nil
  | x :: l => .cons (.str x) (dp_strs2 l)
theorem shaped_strs {l : List Str} (h : ∀ x ∈ l, PyData.strOk x = true) : SeqAt.shaped (.list (l.map PyData.str)) = true := by
  have h1 : PyData.canLayAll0 (l.map PyData.str) = true := by
    induction l with
    | nil => rfl
    | cons x l ih =>
      show (PyData.canLay0 (.str x) && PyData.canLayAll0 (l.map PyData.str)) = true
      rw [ih fun y hy => h y (List.mem_cons_of_mem _ hy), Bool.and_true]
      exact h x List.mem_cons_self
  have h2 : PyData.depthAll (l.map PyData.str) = 0 := by
    clear h1 h
    induction l with
    | nil => rfl
    | cons x l ih =>
      show max (PyData.depth (.str x)) (PyData.depthAll (l.map PyData.str)) = 0
      rw [ih] <;> rfl
  unfold SeqAt.shaped
  rw [show (PyData.list (l.map PyData.str)).canLay0 = true from h1, Bool.true_and]
  exact decide_eq_true (by show PyData.depthAll (l.map PyData.str) + 1 ≤ 64; omega)
/-- what is due of a value, as four bools in a new list -/
def dueL (kd : Kd) : List Bool := [nameK kd, textK kd, numK kd, flagK kd]
def OkK (kd : Kd) : Prop := ∀ x, kd = .s x → PyData.strOk x = true
def spDue (K : PySem.W.Frag) : Sp := fun vs H Q _ => ∃ (v : V) (kd : Kd), vs = [v] ∧ KdAt K H v kd ∧ OkK kd ∧ ∀ H2 l, Kp T0 H H2 → H2 l = some (.lst ((dueL kd).map V.bl)) → Q (.ref l) H2
end Gk
/-! Gk17: k01's things. -/
namespace Gk
open PySem PySem.Spec PyProof.Rows L2
structure Fine (d : PyData) : Prop where
  sw : d.showable = true
  dd : d.depth ≤ 64
  sz : d.shown.length ≤ 1000
theorem Fine.line {d : PyData} (h : Fine d) : d.shown.length ≤ sizeLine := Nat.le_trans h.sz (by rw [sizeLine_eq]; decide)
/-- a drawn value -/
def Thing (K : PySem.W.Frag) (H : Hp) (v : V) : Prop := ∃ kd d, KdAt K H v kd ∧ OkK kd ∧ Sh K H v d ∧ Fine d
theorem Thing.keep0 {K : PySem.W.Frag} {H H2 : Hp} {v : V} (h : Thing K H v) (k : Kp T0 H H2) : Thing K H2 v := by
  obtain ⟨kd, d, a, b, c, e⟩ := h
  exact ⟨kd, d, a.keep0 k, b, c.keep0 k, e⟩
def dB (bs : List Bool) : PyData := .list (bs.map PyData.bool)
theorem dp_bools {K : PySem.W.Frag} {H : Hp} : ∀ bs : List Bool, DpAll K H (bs.map V.bl) (bs.map PyData.bool)
  | [] => .nil
  | b :: bs => .cons (.bl b) (dp_bools bs)
theorem fine4 (a b c d : Bool) : Fine (dB [a, b, c, d]) := by
  have h1 : (dB [a, b, c, d]).showable = true := by cases a <;> cases b <;> cases c <;> cases d <;> rfl
  have h2 : (dB [a, b, c, d]).depth ≤ 64 := by cases a <;> cases b <;> cases c <;> cases d <;> decide +kernel
  have h3 : (dB [a, b, c, d]).shown.length ≤ 1000 := by cases a <;> cases b <;> cases c <;> cases d <;> decide +kernel
  exact ⟨h1, h2, h3⟩
def spRight (K : PySem.W.Frag) : Sp := fun vs H Q _ => ∃ v, vs = [v] ∧ Thing K H v ∧ ∀ H2, Kp T0 H H2 → Q (.bl true) H2
/-- the reading of repr -/
theorem rd_repr {K : PySem.W.Frag} {H : Hp} {v : V} {d : PyData} {Q : VK} (h : Sh K H v d) (f : Fine d) (k : Q (.str d.shown) H) : rRepr K [v] H Q := ⟨v, d, rfl, h, f.sw, f.dd, f.line, k⟩
/-- an item of the list that values are drawn from -/
inductive El (t : Addr) (H : Hp) : V → Prop
  | non : El t H .non
  | bl (b : Bool) : El t H (.bl b)
  | int (i : Int) : Fine (.int i) → El t H (.int i)
  | str (x : Str) : x.length ≤ 1000 → PyData.strOk x = true → Fine (.str x) → El t H (.str x)
  | tup (a : Addr) (l : List Str) : a ≠ t → H a = some (.tup (l.map V.str)) → Fine (.tuple (l.map PyData.str)) → El t H (.ref a)
  | lst (a : Addr) (l : List Str) : a ≠ t → H a = some (.lst (l.map V.str)) → Fine (.list (l.map PyData.str)) → El t H (.ref a)
  | dict (a : Addr) (kvs : List (L2.Key × V)) (ds : List (PyData × PyData)) : a ≠ t → H a = some (.dK kvs) → Paired ScP kvs ds → Fine (.dict ds) → El t H (.ref a)
theorem El.keep {t : Addr} {H H2 : Hp} {v : V} (h : El t H v) (k : Kp (At t) H H2) : El t H2 v := by
  cases h with
  | non => exact .non
  | bl b => exact .bl b
  | int i f => exact .int i f
  | str x l s f => exact .str x l s f
  | tup a l n e f => exact .tup a l n (k a _ n e) f
  | lst a l n e f => exact .lst a l n (k a _ n e) f
  | dict a kvs ds n e p f => exact .dict a kvs ds n (k a _ n e) p f
theorem noTy_of {K : PySem.W.Frag} {H : Hp} {v : V} {T U : String} (h : TyX K H v (.type U)) (k : kitB U T = some false) : NoTy K H T v := ⟨_, h, kit_ty k⟩
theorem El.thing {K : PySem.W.Frag} {t : Addr} {H : Hp} {v : V} (h : El t H v) : Thing K H v := by
  have other : ∀ U : String, TyX K H v (.type U) → kitB U "str" = some false → kitB U "int" = some false → kitB U "bool" = some false → KdAt K H v .o := fun U ty a b c => ⟨noTy_of ty a, noTy_of ty b, noTy_of ty c⟩
  have ok0 : OkK .o := fun x e => nomatch e
  cases h with
  | non => exact ⟨.o, .none, other "NoneType" (.base .non) (by decide +kernel) (by decide +kernel) (by decide +kernel), ok0, .dp .non, ⟨rfl, by decide +kernel, by decide +kernel⟩⟩
  | bl b => exact ⟨.b b, .bool b, rfl, (fun x e => nomatch e), .dp (.bl b), ⟨rfl, (by cases b <;> decide +kernel), (by cases b <;> decide +kernel)⟩⟩
  | int i f => exact ⟨.i i, .int i, rfl, (fun x e => nomatch e), .dp (.int i), f⟩
  | str x l s f =>
    refine ⟨.s x, .str x, ⟨rfl, ?_⟩, fun y e => ?_, .dp (.str x), f⟩
    · rw [sizeLine_eq]
      omega
    · injection e with e
      rw [← e]
      exact s
  | tup a l n e f => exact ⟨.o, _, other "tuple" (.base (.tup e)) (by decide +kernel) (by decide +kernel) (by decide +kernel), ok0, .dp (.tup (SqT.of e) (dp_strs2 l)), f⟩
  | lst a l n e f => exact ⟨.o, _, other "list" (.base (.lst e)) (by decide +kernel) (by decide +kernel) (by decide +kernel), ok0, .dp (.lst (SqL.of e) (dp_strs2 l)), f⟩
  | dict a kvs ds n e p f => exact ⟨.o, _, other "dict" (.base (.dK e)) (by decide +kernel) (by decide +kernel) (by decide +kernel), ok0, .dict e p, f⟩
def spAny (K : PySem.W.Frag) : Sp := fun vs H Q _ => ∃ t, vs = [.ref t] ∧ TapeAt H t ∧ ∀ H2 v, Kp (At t) H H2 → TapeAt H2 t → Thing K H2 v → Q v H2
/-! ### two values of a kind -/
inductive Pk
  | s (x y : Str)
  | i (n m : Int)
  | b (c d : Bool)
def Pk.fst : Pk → V
  | .s x _ => .str x
  | .i n _ => .int n
  | .b c _ => .bl c
def Pk.snd : Pk → V
  | .s _ y => .str y
  | .i _ m => .int m
  | .b _ d => .bl d
def Pk.ok : Pk → Prop
  | .s x y => x.length < sizeLine ∧ y.length < sizeLine
  | _ => True
def before : Pk → Bool
  | .s x y => decide ((x.length : Int) < (y.length : Int)) || (decide ((x.length : Int) = (y.length : Int)) && decide (x.cps.toList < y.cps.toList))
  | .i n m => decide (n < m)
  | .b c d => PySem.W.dataLt (.bool c) (.bool d)
def spBefore : Sp := fun vs H Q _ => ∃ pk : Pk, vs = [pk.fst, pk.snd] ∧ pk.ok ∧ Q (.bl (before pk)) H
theorem lt_nil : PyProof.Rows.lexLt itemOrd (PySem.W.keyToksAll []) (PySem.W.keyToksAll []) = false := by decide +kernel
theorem cps_irrefl (l : List Nat) : decide (l < l) = false := decide_eq_false (List.lt_irrefl l)
/-- texts by their length and themselves -/
theorem key_lt (n m : Int) (x y : Str) : PySem.W.dataLt (.tuple [.int n, .str x]) (.tuple [.int m, .str y]) = (decide (n < m) || (decide (n = m) && decide (x.cps.toList < y.cps.toList))) := by
  rw [PySem.W.dataLt_tuple]
  have a1 : PySem.W.alike (.int n) (.int m) = true := by unfold PySem.W.alike; rfl
  have a2 : PySem.W.alike (.str x) (.str y) = true := by unfold PySem.W.alike; rfl
  by_cases e : n = m
  · subst e
    rw [PySem.W.dataLt_all_yes a1 (by show decide (n = n) = true; exact decide_eq_true rfl), decide_eq_false (by omega : ¬ n < n), decide_eq_true rfl, Bool.false_or, Bool.true_and]
    by_cases c : x = y
    · subst c
      rw [PySem.W.dataLt_all_yes a2 (by show decide (x = x) = true; exact decide_eq_true rfl), lt_nil, cps_irrefl]
    · rw [PySem.W.dataLt_all_no a2 (by show decide (x = y) = false; exact decide_eq_false c), PySem.W.dataLt_str]
  · rw [PySem.W.dataLt_all_no a1 (by show decide (n = m) = false; exact decide_eq_false e), PySem.W.dataLt_int, decide_eq_false e, Bool.false_and, Bool.or_false]
/-! ### texts told by their letters -/
theorem rd_txt {K : PySem.W.Frag} {g : Kd → Bool} {H : Hp} {z : Str} {Q : VK} {E : XK} (l : z.length ≤ 1000) (k : ∀ H2, Kp T0 H H2 → Q (.bl (g (.s z))) H2) : spKd K g [.str z] H Q E :=
  ⟨_, .s z, rfl, ⟨rfl, by rw [sizeLine_eq]; omega⟩, k⟩
theorem letters_app (x y : Str) : letters (x ++ y) = (letters x && letters y) := by
  unfold letters
  show ((x.cps ++ y.cps).toList.all _) = _
  rw [Array.toList_append, List.all_append]
theorem letters_sing (c : Nat) : letters ⟨#[c]⟩ = decide (c ∈ LET.cps.toList) := by
  unfold letters
  show ([c].all _) = _
  rw [List.all_cons, List.all_nil, Bool.and_true]
theorem len_sing (c : Nat) : (⟨#[c]⟩ : Str).length = 1 := rfl
theorem nm_ok {z : Str} (h1 : 1 ≤ z.length) (h8 : z.length ≤ 8) (l : letters z = true) : nameK (.s z) = true := by
  show (decide (1 ≤ (z.length : Int)) && decide ((z.length : Int) ≤ 8) && letters z) = true
  rw [decide_eq_true (by omega), decide_eq_true (by omega), l] <;> rfl
theorem tx_ok {z : Str} (h : z.length ≤ 12) (l : letters z = true) : textK (.s z) = true := by
  show (decide ((0 : Int) ≤ (z.length : Int)) && decide ((z.length : Int) ≤ 12) && letters z) = true
  rw [decide_eq_true (by omega), decide_eq_true (by omega), l] <;> rfl
theorem nm_no {z : Str} (l : letters z = false) : nameK (.s z) = false := by
  show (_ && letters z) = false
  rw [l, Bool.and_false]
theorem tx_no {z : Str} (l : letters z = false) : textK (.s z) = false := by
  show (_ && letters z) = false
  rw [l, Bool.and_false]
theorem z_names : ∀ i, i < 15 → nameK (.s (repS "z" i)) = (decide (1 ≤ i) && decide (i ≤ 8)) := by decide +kernel
theorem z_texts : ∀ i, i < 15 → textK (.s (repS "z" i)) = decide (i ≤ 12) := by decide +kernel
theorem z_len : ∀ i, i < 15 → (repS "z" i).length ≤ 1000 := by decide +kernel
def OTH : Str := " !\"#$&'()*+,-./0123456789:;<=>?@ABCDEFGHIJKLMNOPQRSTUVWXYZ[\\]^_`{|}~\n\t"
theorem oth_no : ∀ c ∈ OTH.cps.toList, decide (c ∈ LET.cps.toList) = false := by decide +kernel
theorem mem_cps {x : Str} {i c : Nat} (h : x.cps[i]? = some c) : c ∈ x.cps.toList := by
  rw [← Array.getElem?_toList] at h
  exact List.mem_of_getElem? h
/-- a row of values of one kind -/
def RowK (xs : List V) : Prop := (∃ ss : List Str, xs = ss.map V.str ∧ ∀ s ∈ ss, s.length ≤ 1000) ∨ (∃ ns : List Int, xs = ns.map V.int) ∨ ∃ bs : List Bool, xs = bs.map V.bl
theorem RowK.two {xs : List V} (h : RowK xs) {i j : Nat} {v u : V} (hv : xs[i]? = some v) (hu : xs[j]? = some u) : ∃ pk : Pk, v = pk.fst ∧ u = pk.snd ∧ pk.ok := by
  have small : ∀ s : Str, s.length ≤ 1000 → s.length < sizeLine := fun s h => by rw [sizeLine_eq]; omega
  have mv := List.mem_of_getElem? hv
  have mu := List.mem_of_getElem? hu
  rcases h with ⟨ss, rfl, hs⟩ | ⟨ns, rfl⟩ | ⟨bs, rfl⟩
  · obtain ⟨x, hx, rfl⟩ := List.mem_map.mp mv
    obtain ⟨y, hy, rfl⟩ := List.mem_map.mp mu
    exact ⟨.s x y, rfl, rfl, small x (hs x hx), small y (hs y hy)⟩
  · obtain ⟨x, hx, rfl⟩ := List.mem_map.mp mv
    obtain ⟨y, hy, rfl⟩ := List.mem_map.mp mu
    exact ⟨.i x y, rfl, rfl, trivial⟩
  · obtain ⟨x, hx, rfl⟩ := List.mem_map.mp mv
    obtain ⟨y, hy, rfl⟩ := List.mem_map.mp mu
    exact ⟨.b x y, rfl, rfl, trivial⟩
def SOME : List Str := ["", "a", "b", "ab", "aa", "z", "ba", "abcdefghijkl", "abcdefghijkm", "zzz"]
theorem some_short : ∀ s ∈ SOME, s.length ≤ 1000 := by decide +kernel
/-- rows in the heap -/
inductive Rows (K : PySem.W.Frag) (H : Hp) : List V → Prop
  | nil : Rows K H []
  | cons {l : Addr} {xs ys : List V} : H l = some (.lst xs) → RowK xs → Rows K H ys → Rows K H (.ref l :: ys)
theorem Rows.get {K : PySem.W.Frag} {H : Hp} : ∀ {vs : List V} {i : Nat} {v : V}, Rows K H vs → vs[i]? = some v → ∃ l xs, v = .ref l ∧ H l = some (.lst xs) ∧ RowK xs
  | _, _, _, .nil, e => nomatch e
  | _, 0, _, .cons a b _, e => by
    cases Option.some.inj e
    exact ⟨_, _, rfl, a, b⟩
  | _, _ + 1, _, .cons _ _ t, e => Rows.get t e
theorem not_ne {p : Prop} [Decidable p] (h : p) : ¬ (!decide p) = true := by
  rw [decide_eq_true h]
  decide
end Gk
namespace Lw
open PySem L2 Gk
def topS (i : Nat) : Stmt := PySem.Challenge.pw_maskwrites_k01_names_and_values.main.body.getD i (.Pass ⟨0, 0, 0, 0⟩)
abbrev sIsLetters : Stmt := topS 4
abbrev sIsName : Stmt := topS 5

structure TxtN (K : PySem.W.Frag) (mg : Str → Option Value) : Prop where
  z_isinstance : mg "isinstance" = none
  z_str : mg "str" = none
  z_len : mg "len" = none
  z_all : mg "all" = none
  v_LETTERS : ∃ t, mg "LETTERS" = some (.str LET t)
  v_MOST_NAME : ∃ t, mg "MOST_NAME" = some (.int 8 t)
section
variable {P : Program} {w : World} {K : PySem.W.Frag} {mg : Str → Option Value} {base : Heap}
theorem scIsLetters : FnScope ["value", "least", "most", "sign"] ["value", "least", "most"] (defScope sIsLetters) := ⟨rfl, rfl, rfl, by decide +kernel, rfl, by decide +kernel, by decide +kernel⟩
theorem ok_is_letters {f : Addr} {fd : FuncData} (F : Fun K "is_letters" "is_letters" sIsLetters f fd) (T : TxtN K mg) : FnOk P w K mg base CX0 1 f fd ["value", "least", "most"] (spIsLetters K) := by
  refine F.ok scIsLetters (fun vs H Q E h => ?_) (fun cdv A outer s H vs Q E hr h => ?_)
  · obtain ⟨v, lo, hi, rfl, _⟩ := h
    rfl
  · obtain ⟨v, lo, hi, rfl, h⟩ := h
    obtain ⟨tL, mL⟩ := T.v_LETTERS
    refine ⟨_, pss_one (ps_ret (pe_and (pe_callB call_isi (by rfl) T.z_isinstance (by decide +kernel) (pa_cons (pv 0) (pa_cons (pe_bltn (v := .ty "str") (by rfl) T.z_str (by decide +kernel) rfl) pa_nil)))
      (pe_and (pe_chain op_le op_le (pv 1) (pe_callB call_len (by rfl) T.z_len PySem.boot_len (pa_cons (pv 0) pa_nil)) (pv 2))
      (pe_one (pe_callB (cr_all rfl) (by rfl) T.z_all (by decide +kernel) (pa_cons (pe_lc (own := [("sign", 3)]) (g := gName 3) (tt := tYes) rfl scIsLetters.nd (pi_str (pv 0))
        (blkOk_by (N := ["value", "least", "most", "sign"]) (sc := defScope sIsLetters) (by decide +kernel)) (fun _ _ _ _ _ => pg_name (i := 3) scIsLetters.nd rfl (Or.inl rfl)) (fun _ _ _ _ _ => pts_nil)
        (fun _ _ _ _ _ => pe_cmpR op_in_sign (pv 3) (pe_glob (v := .str LET) (by rfl) mL ⟨_, rfl⟩) (by rfl))) pa_nil)))))), ?_⟩
    rcases h with ⟨x, rfl, hx, k⟩ | ⟨⟨t, ty, kit⟩, k⟩
    · refine ⟨_, rfl, _, _, _, _, true, rfl, .ty "str", .base (.str x), kit_ty (by decide +kernel), true, rfl, ?_⟩
      refine iteT ?_
      refine ⟨_, rfl, _, rfl, _, _, rfl, ⟨Nat.le_of_lt hx, rfl⟩, _, _, rfl, rfl, _, rfl, ?_⟩
      have fls : ∀ H2 : Hp, Kp T0 H H2 → isLet x lo hi = false → Q (.bl false) H2 := fun H2 k2 e => by
        have q := k H2 k2
        rw [e] at q
        exact q
      refine ite2 (fun h1 => ?_) (fun h1 => ?_)
      · refine ⟨_, rfl, _, _, rfl, rfl, _, rfl, ?_⟩
        refine ite2 (fun h2 => ?_) (fun h2 => ?_)
        · refine ⟨_, rfl, x, rfl, fun D hD => ?_⟩
          refine lc_kp (T := T0) walk_str (i0 := 3) (fun i v => ∃ c, x.cps[i]? = some c ∧ v = .str ⟨#[c]⟩) (fun i ys _ => ys.length = i ∧ ∀ (j : Nat) v, ys[j]? = some v → ∃ b, v = .bl b ∧ ∃ c, x.cps[j]? = some c ∧ b = decide (c ∈ LET.cps.toList))
            (fun i H1 v H2 _ y => y) hD id hx (wipe1 _ 3) (fun _ _ => True.intro) ⟨rfl, fun j v e => by simp at e⟩ (fun i v ys H1 Ky Kn hi sx _ _ p ky _ => ?_) (fun ys H1 k1 d1 _ p => ?_)
          · obtain ⟨c, hc, rfl⟩ := sx
            refine yes_ ?_
            refine ⟨_, rfl, c, LET, rfl, rfl, ky _ _ (Kp.refl _) ⟨by rw [List.length_append, p.1]; rfl, snoc_at p.2 ⟨_, rfl, c, by rw [p.1]; exact hc, rfl⟩⟩⟩
          · obtain ⟨bs, eb, lb, hb⟩ := bools_of p.2
            refine ⟨D, bs, rfl, SqL.of (by rw [d1, eb]), ?_⟩
            have q := k H1 k1
            have ea := all_seq (fun c => decide (c ∈ LET.cps.toList)) x bs (lb.trans p.1) hb
            unfold isLet at q
            rw [h1, h2, Bool.true_and, Bool.true_and, ← ea] at q
            exact q
        · exact fls H (Kp.refl H) (by unfold isLet; rw [(Bool.not_eq_true _).mp h2, Bool.and_false, Bool.false_and])
      · exact ⟨false, rfl, iteF (fls H (Kp.refl H) (by unfold isLet; rw [(Bool.not_eq_true _).mp h1, Bool.false_and, Bool.false_and]))⟩
    · refine ⟨_, rfl, _, _, _, _, false, rfl, .ty "str", ty, kit, false, rfl, ?_⟩
      exact iteF k
theorem scIsName : FnScope ["value"] ["value"] (defScope sIsName) := ⟨rfl, rfl, rfl, by decide +kernel, rfl, by decide +kernel, by decide +kernel⟩
theorem ok_is_name {f fL : Addr} {fd : FuncData} (F : Fun K "is_name" "is_name" sIsName f fd) (T : TxtN K mg) (DL : Df P w K mg base 1 fL "is_letters" ["value", "least", "most"] (spIsLetters K)) :
    FnOk P w K mg base CX0 2 f fd ["value"] (spIsName K) := by
  refine F.ok scIsName (fun vs H Q E h => ?_) (fun cdv A outer s H vs Q E hr h => ?_)
  · obtain ⟨v, r, rfl, _⟩ := h
    rfl
  · obtain ⟨v, r, rfl, it, k⟩ := h
    obtain ⟨tM, mM⟩ := T.v_MOST_NAME
    refine ⟨_, pss_one (ps_ret (pe_df DL hr (by rfl) (pa_cons (pv 0) (pa_cons pe_int (pa_cons (pe_glob (v := .int 8) (by rfl) mM ⟨_, rfl⟩) pa_nil))))), ?_⟩
    refine ⟨_, rfl, _, 1, 8, rfl, ?_⟩
    rcases it with ⟨x, rfl, hx, rfl⟩ | ⟨ns, rfl⟩
    · exact .inl ⟨x, rfl, hx, k⟩
    · exact .inr ⟨ns, k H (Kp.refl H)⟩
end
end Lw
namespace Lw
open PySem L2 Gk
abbrev sIsText : Stmt := topS 6
abbrev sIsNumber : Stmt := topS 7
abbrev sIsFlag : Stmt := topS 8
abbrev sKey : Stmt := topS 9
structure TxtV (mg : Str → Option Value) : Prop where
  z_isinstance : mg "isinstance" = none
  z_str : mg "str" = none
  z_int : mg "int" = none
  z_bool : mg "bool" = none
  z_len : mg "len" = none
  v_MOST_TEXT : ∃ t, mg "MOST_TEXT" = some (.int 12 t)
section
variable {P : Program} {w : World} {K : PySem.W.Frag} {mg : Str → Option Value} {base : Heap}
theorem name_kd {f : Addr} {fd : FuncData} (F : FnOk P w K mg base CX0 2 f fd ["value"] (spIsName K)) : FnOk P w K mg base CX0 2 f fd ["value"] (spKd K nameK) :=
  F.imp fun vs H Q E h => by
    obtain ⟨v, kd, rfl, h, k⟩ := h
    exact ⟨v, _, rfl, h.item, k⟩
theorem scIsText : FnScope ["value"] ["value"] (defScope sIsText) := ⟨rfl, rfl, rfl, by decide +kernel, rfl, by decide +kernel, by decide +kernel⟩
theorem ok_is_text {f fL : Addr} {fd : FuncData} (F : Fun K "is_text" "is_text" sIsText f fd) (T : TxtV mg) (DL : Df P w K mg base 1 fL "is_letters" ["value", "least", "most"] (spIsLetters K)) :
    FnOk P w K mg base CX0 2 f fd ["value"] (spKd K textK) := by
  refine F.ok scIsText (fun vs H Q E h => ?_) (fun cdv A outer s H vs Q E hr h => ?_)
  · obtain ⟨v, r, rfl, _⟩ := h
    rfl
  · obtain ⟨v, kd, rfl, h, k⟩ := h
    obtain ⟨tM, mM⟩ := T.v_MOST_TEXT
    refine ⟨_, pss_one (ps_ret (pe_df DL hr (by rfl) (pa_cons (pv 0) (pa_cons pe_int (pa_cons (pe_glob (v := .int 12) (by rfl) mM ⟨_, rfl⟩) pa_nil))))), ?_⟩
    refine ⟨_, rfl, _, 0, 12, rfl, ?_⟩
    rcases h.str with ⟨x, rfl, e, l⟩ | ⟨ne, ns⟩
    · exact .inl ⟨x, e, l, k⟩
    · refine .inr ⟨ns, ?_⟩
      have q := k H (Kp.refl H)
      cases kd with
      | s x => exact absurd rfl (ne x)
      | _ => exact q
theorem scIsFlag : FnScope ["value"] ["value"] (defScope sIsFlag) := ⟨rfl, rfl, rfl, by decide +kernel, rfl, by decide +kernel, by decide +kernel⟩
theorem ok_is_flag {f : Addr} {fd : FuncData} (F : Fun K "is_flag" "is_flag" sIsFlag f fd) (T : TxtV mg) : FnOk P w K mg base CX0 1 f fd ["value"] (spKd K flagK) := by
  refine F.ok scIsFlag (fun vs H Q E h => ?_) (fun cdv A outer s H vs Q E hr h => ?_)
  · obtain ⟨v, r, rfl, _⟩ := h
    rfl
  · obtain ⟨v, kd, rfl, h, k⟩ := h
    refine ⟨_, pss_one (ps_ret (pe_callB call_isi (by rfl) T.z_isinstance (by decide +kernel) (pa_cons (pv 0) (pa_cons (pe_bltn (v := .ty "bool") (by rfl) T.z_bool (by decide +kernel) rfl) pa_nil)))), ?_⟩
    refine ⟨_, rfl, rd_isi h (.inr (.inr rfl)) ?_⟩
    have q := k H (Kp.refl H)
    cases kd <;> exact q
theorem scIsNumber : FnScope ["value"] ["value"] (defScope sIsNumber) := ⟨rfl, rfl, rfl, by decide +kernel, rfl, by decide +kernel, by decide +kernel⟩
theorem ok_is_number {f : Addr} {fd : FuncData} (F : Fun K "is_number" "is_number" sIsNumber f fd) (T : TxtV mg) : FnOk P w K mg base CX0 1 f fd ["value"] (spKd K numK) := by
  refine F.ok scIsNumber (fun vs H Q E h => ?_) (fun cdv A outer s H vs Q E hr h => ?_)
  · obtain ⟨v, r, rfl, _⟩ := h
    rfl
  · obtain ⟨v, kd, rfl, h, k⟩ := h
    refine ⟨_, pss_one (ps_ret (pe_and (pe_callB call_isi (by rfl) T.z_isinstance (by decide +kernel) (pa_cons (pv 0) (pa_cons (pe_bltn (v := .ty "int") (by rfl) T.z_int (by decide +kernel) rfl) pa_nil)))
      (pe_and (pe_not (pe_callB call_isi (by rfl) T.z_isinstance (by decide +kernel) (pa_cons (pv 0) (pa_cons (pe_bltn (v := .ty "bool") (by rfl) T.z_bool (by decide +kernel) rfl) pa_nil))))
      (pe_one (pe_cmpR op_ge (pv 0) pe_int (nomark _)))))), ?_⟩
    refine ⟨_, rfl, ?_⟩
    dsimp only [tCons, tC, tNil]
    refine rd_isi h (.inr (.inl rfl)) ?_
    refine ⟨_, rfl, ?_⟩
    have q := k H (Kp.refl H)
    cases kd with
    | s x => exact iteF q
    | o => exact iteF q
    | i n =>
      refine iteT ⟨_, rfl, ?_⟩
      dsimp only [tCons, tC, tNil]
      refine rd_isi h (.inr (.inr rfl)) ?_
      refine ⟨_, rfl, ?_⟩
      refine ⟨_, rfl, ?_⟩
      refine iteT ⟨_, rfl, _, _, ?_, rfl, q⟩
      exact h
    | b c =>
      refine iteT ⟨_, rfl, ?_⟩
      dsimp only [tCons, tC, tNil]
      refine rd_isi h (.inr (.inr rfl)) ?_
      refine ⟨_, rfl, ?_⟩
      refine ⟨_, rfl, ?_⟩
      exact iteF q
theorem scKey : FnScope ["value"] ["value"] (defScope sKey) := ⟨rfl, rfl, rfl, by decide +kernel, rfl, by decide +kernel, by decide +kernel⟩
theorem ok_key {f : Addr} {fd : FuncData} (F : Fun K "value_key" "value_key" sKey f fd) (T : TxtV mg) : FnOk P w K mg base CX0 1 f fd ["value"] (spKey K) := by
  refine F.ok scKey (fun vs H Q E h => ?_) (fun cdv A outer s H vs Q E hr h => ?_)
  · obtain ⟨v, r, rfl, _⟩ := h
    rfl
  · obtain ⟨v, kd, rfl, h, k⟩ := h
    refine ⟨_, pss_one (ps_ret (pe_ifExp (pt_val (pe_callB call_isi (by rfl) T.z_isinstance (by decide +kernel) (pa_cons (pv 0) (pa_cons (pe_bltn (v := .ty "str") (by rfl) T.z_str (by decide +kernel) rfl) pa_nil))))
      (pe_tup (pa_cons (pe_callB call_len (by rfl) T.z_len PySem.boot_len (pa_cons (pv 0) pa_nil)) (pa_cons (pv 0) pa_nil))) (pv 0))), ?_⟩
    refine ⟨_, rfl, ?_⟩
    dsimp only [tCons, tC, tNil]
    refine rd_isi h (.inl rfl) ?_
    refine ⟨_, rfl, ?_⟩
    rcases k with ⟨x, rfl, k⟩ | ⟨ne, k⟩
    · obtain ⟨rfl, l⟩ := h
      refine iteT ⟨_, rfl, _, _, rfl, ⟨Nat.le_of_lt l, rfl⟩, _, rfl, ?_⟩
      exact ⟨(by show 2 ≤ sizeLine; rw [PySem.sizeLine_eq]; decide), k⟩
    · cases kd with
      | s x => exact absurd rfl (ne x)
      | i n => exact iteF ⟨_, rfl, k⟩
      | b c => exact iteF ⟨_, rfl, k⟩
      | o => exact iteF ⟨_, rfl, k⟩
end
end Lw
namespace Lw
open PySem L2 Gk
abbrev sTape : Stmt := topS 11
abbrev sPick : Stmt := topS 12
abbrev sOneOf : Stmt := topS 13
abbrev NM : List Str := ["a", "b", "aa", "m"]
structure TxtT (mg : Str → Option Value) : Prop where
  z_int : mg "int" = none
  z_len : mg "len" = none
  z_range : mg "range" = none
  z_tuple : mg "tuple" = none
theorem boot_int : bootBuiltins "int" = some (.type "int") := by decide +kernel
theorem boot_tuple6 : bootBuiltins "tuple" = some (.type "tuple") := by decide +kernel
section
variable {P : Program} {w : World} {K : PySem.W.Frag} {mg : Str → Option Value} {base : Heap}
theorem scTape : FnScope ["script", "start", "mixed", "entry", "digits"] ["script", "start"] (defScope sTape) := ⟨rfl, rfl, rfl, by decide +kernel, rfl, by decide +kernel, by decide +kernel⟩
theorem ok_tape {f : Addr} {fd : FuncData} (F : Fun K "_law_well" "_law_well" sTape f fd) (T : TxtT mg) : FnOk P w K mg base CX0 1 f fd ["script", "start"] (spTape K) := by
  refine F.ok scTape (fun vs H Q E h => ?_) (fun cdv A outer s H vs Q E hr h => ?_)
  · obtain ⟨a, ns, st, rfl, _⟩ := h
    rfl
  · obtain ⟨a, ns, st, rfl, hs, ln, hb, s0, s1, k⟩ := h
    refine ⟨_, pss_cons (ps_set (i := 2) scTape.nd rfl (Or.inl rfl) (pe_op op_add pe_int (pe_op op_mul (pv 1) pe_int)))
      (pss_cons (ps_for PassesOwn.never rfl (pi_list (pv 0)) (pg_name (i := 3) scTape.nd rfl (Or.inl rfl))
        (pss_one (ps_set (i := 2) scTape.nd rfl (Or.inl rfl) (pe_op op_add (pe_op op_mod (pe_callTy call_int1 (by rfl) T.z_int boot_int (pa_cons
          (pe_op op_powB (pe_op op_add (pe_op op_add (pe_op op_mul (pv 2) pe_int) (pe_op op_mulB (pv 3) (pv 3))) pe_int) pe_int) pa_nil)) pe_int) pe_int))))
      (pss_cons (ps_set (i := 4) scTape.nd rfl (Or.inl rfl) (pe_ifExp (PW.pt (pw_and (pt_cmpR op_lt (pv 1) (pe_callB call_len (by rfl) T.z_len PySem.boot_len (pa_cons (pv 0) pa_nil)) (nomark _))
          (pw_and1 (pt_cmpR op_ge (pe_ix ix_list (pv 0) (pv 1) (fun _ _ => rfl)) (pe_op op_pow pe_int pe_int) (nomark _)))))
          (pe_op op_sub (pe_ix ix_list (pv 0) (pv 1) (fun _ _ => rfl)) (pe_op op_pow pe_int pe_int)) pe_int))
      (pss_one (ps_ret (pe_disp (pps_cons pe_str (pv 4) (pps_cons pe_str (pv 2) pps_nil)) (by rfl) (by rfl) (fun z => by cases z) (by decide)))))), ?_⟩
    have small : ∀ x : Int, 0 ≤ x → x < 4294967296 → CMul x 70121 := fun x h0 h1 => .inl ⟨by omega, by omega⟩
    refine ⟨_, rfl, _, _, rfl, rfl, .inl ⟨by omega, by omega⟩, _, _, rfl, rfl, ?_⟩
    refine ⟨_, rfl, a, rfl, ⟨_, hs⟩, for_list (K := K) (a := a) (xs := ns.map V.int) (fun _ σ H2 => H2 = H ∧ ∃ (m : Int) (c : Option V), σ = [some (.ref a), some (.int st), some (.int m), c, none] ∧ 0 ≤ m ∧ m < 4294967296)
      ⟨rfl, _, none, rfl, by omega, by omega⟩ (fun i σ H2 _ p => by rw [p.1]; exact hs) (fun i y σ H2 hi p => ?_) (fun σ H2 p => ?_)⟩
    · obtain ⟨rfl, m, c, rfl, m0, m1⟩ := p
      obtain ⟨z, hz, rfl⟩ : ∃ z, z ∈ ns ∧ y = V.int z := by
        rw [List.getElem?_map] at hi
        cases e : ns[i]? with
        | none => rw [e] at hi; cases hi
        | some z =>
          rw [e] at hi
          exact ⟨z, List.mem_of_getElem? e, (Option.some.inj hi).symm⟩
      have bz := hb z hz
      have bs := well_step m0 m1 bz
      have cz : CMulB z z := by unfold CMulB; omega
      have cp : CPowB (m * 70121 + z * z + 41) 2 := ⟨by decide, by omega⟩
      refine ⟨_, rfl, _, _, rfl, rfl, small m m0 m1, _, rfl, _, rfl, _, _, rfl, rfl, cz, _, _, rfl, rfl, _, _, rfl, rfl, _, _, rfl, rfl, cp, .inl ⟨_, rfl, _, _, rfl, rfl, (by show (0 : Int) < 2147483563; decide), _, _, rfl, rfl, ?_⟩⟩
      refine ⟨rfl, _, _, rfl, ?_, ?_⟩
      · have := Int.emod_nonneg ((m * 70121 + z * z + 41) ^ (2 : Int).toNat) (show (2147483563 : Int) ≠ 0 by decide)
        omega
      · have := Int.emod_lt_of_pos ((m * 70121 + z * z + 41) ^ (2 : Int).toNat) (show (0 : Int) < 2147483563 by decide)
        omega
    · obtain ⟨rfl, m, c, rfl, m0, m1⟩ := p
      have fin : ∀ d : Int, TapeOk d m → ∀ p, H2 p = none → Q (.ref p) (upd (upd H2 p (.dK [])) p (.dK (mergeK [] [(kD, .int d), (kX, .int m)]))) := by
        intro d ok p hp
        rw [upd_upd, merge_tape]
        exact k p d m hp ok
      have zero : TapeOk 0 m := ⟨Int.le_refl _, by decide, m0, m1⟩
      have pow : CPow 10 18 := ⟨by decide, by decide, by decide⟩
      refine ⟨_, rfl, _, rfl, _, ns.length, rfl, .inl ⟨_, hs, by rw [List.length_map]⟩, _, _, rfl, rfl, _, rfl, ?_⟩
      by_cases c1 : st < (ns.length : Int)
      · rw [decide_eq_true c1]
        refine iteT ?_
        obtain ⟨z, hz⟩ : ∃ z, ns[st.toNat]? = some z := ⟨_, List.getElem?_eq_getElem (by omega)⟩
        have ha : atI (ns.map V.int) st = some (.int z) := by
          have e : st = (st.toNat : Int) := by omega
          rw [e]
          exact atI_nat (by rw [List.getElem?_map, hz]; rfl)
        have bz := hb z (List.mem_of_getElem? hz)
        refine ⟨_, rfl, _, rfl, a, _, _, _, rfl, rfl, hs, ha, _, _, rfl, rfl, pow, _, _, rfl, rfl, _, rfl, ?_⟩
        by_cases c2 : (10 : Int) ^ (18 : Int).toNat ≤ z
        · rw [decide_eq_true c2]
          refine iteT ?_
          refine ⟨_, rfl, _, rfl, a, _, _, _, rfl, rfl, hs, ha, _, _, rfl, rfl, pow, _, _, rfl, rfl, ?_⟩
          refine fun p hp => ⟨_, rfl, _, rfl, upd_same, [(kD, .int (z - 10 ^ (18 : Int).toNat)), (kX, .int m)], rfl, (by show 2 ≤ 15; decide), fin _ ⟨by omega, ?_, m0, m1⟩ p hp⟩
          refine Nat.le_trans (intBits_le_of_natAbs (y := z) ?_ bz) (by decide)
          have e : (10 : Int) ^ (18 : Int).toNat = 1000000000000000000 := by decide
          rw [e] at c2 ⊢
          omega
        · rw [decide_eq_false c2]
          refine iteF ?_
          exact fun p hp => ⟨_, rfl, _, rfl, upd_same, [(kD, .int 0), (kX, .int m)], rfl, (by show 2 ≤ 15; decide), fin _ zero p hp⟩
      · rw [decide_eq_false c1]
        refine iteF ?_
        refine iteF ?_
        exact fun p hp => ⟨_, rfl, _, rfl, upd_same, [(kD, .int 0), (kX, .int m)], rfl, (by show 2 ≤ 15; decide), fin _ zero p hp⟩
theorem scPick : FnScope ["well", "bound", "found"] ["well", "bound"] (defScope sPick) := ⟨rfl, rfl, rfl, by decide +kernel, rfl, by decide +kernel, by decide +kernel⟩
theorem ok_pick {f : Addr} {fd : FuncData} (F : Fun K "_law_draw" "_law_draw" sPick f fd) (T : TxtT mg) : FnOk P w K mg base CX0 1 f fd ["well", "bound"] spPick := by
  refine F.ok scPick (fun vs H Q E h => ?_) (fun cdv A outer s H vs Q E hr h => ?_)
  · obtain ⟨t, n, rfl, _⟩ := h
    rfl
  · obtain ⟨t, n, rfl, ⟨d, m, ht, ok⟩, n1, n2, k⟩ := h
    have hu := hu_of hr
    refine ⟨_, pss_cons (ps_if (pt_cmpR op_ge (pe_dget hu (pv 0) pe_str (fun _ _ => rfl)) (pv 1) (nomark _))
        (pss_cons (ps_set (i := 2) scPick.nd rfl (Or.inl rfl) (pe_op op_mod (pe_callTy call_int1 (by rfl) T.z_int boot_int (pa_cons (pe_dget hu (pv 0) pe_str (fun _ _ => rfl)) pa_nil)) (pv 1)))
          (pss_cons (ps_dput hu (pv 0) pe_str (pe_op op_fdivW (pe_dget hu (pv 0) pe_str (fun _ _ => rfl)) (pv 1)) rfl) (pss_one (ps_ret (pv 2))))) pss_nil)
      (pss_cons (ps_dput hu (pv 0) pe_str (pe_op op_mod (pe_callTy call_int1 (by rfl) T.z_int boot_int (pa_cons (pe_op op_add (pe_op op_mul (pe_dget hu (pv 0) pe_str (fun _ _ => rfl)) pe_int) pe_int) pa_nil)) pe_int) rfl)
      (pss_one (ps_ret (pe_op op_mod (pe_op op_fdiv (pe_op op_mod (pe_callTy call_int1 (by rfl) T.z_int boot_int (pa_cons (pe_op op_pow (pe_op op_mod (pe_callTy call_int1 (by rfl) T.z_int boot_int
        (pa_cons (pe_op op_pow (pe_dget hu (pv 0) pe_str (fun _ _ => rfl)) pe_int) pa_nil)) pe_int) pe_int) pa_nil)) pe_int) pe_int) (pv 1))))), ?_⟩
    have np : (0 : Int) < n := by omega
    refine ⟨_, rfl, t, _, rfl, dget_d ht, _, rfl, _, _, rfl, rfl, _, rfl, ?_⟩
    by_cases c : n ≤ d
    · rw [decide_eq_true c]
      refine iteT ?_
      have cd : CDivW d n := wide_div np (b := 32) (by omega) (by decide) (by decide)
      refine ⟨_, rfl, t, _, rfl, dget_d ht, .inl ⟨_, rfl, _, rfl, _, _, rfl, rfl, np, ?_⟩⟩
      refine ⟨_, rfl, t, _, rfl, dget_d ht, _, rfl, _, _, rfl, rfl, cd, _, rfl, t, _, rfl, dput_d ht _, _, rfl, ?_⟩
      have o2 : TapeOk (d / n) m := ⟨Int.ediv_nonneg ok.d0 (by omega), Nat.le_trans (intBits_le_of_natAbs (y := d) (by have := Int.ediv_le_self n ok.d0; have := Int.ediv_nonneg ok.d0 (show 0 ≤ n by omega); omega) ok.db) (Nat.le_refl _), ok.m0, ok.m1⟩
      exact k _ _ ((Kp.refl H).put rfl) (TapeAt.put o2) (Int.emod_nonneg _ (by omega)) (Int.emod_lt_of_pos _ np)
    · rw [decide_eq_false c]
      refine iteF ?_
      have m0 := ok.m0
      have m1 := ok.m1
      refine ⟨_, rfl, t, _, rfl, dget_x ht, _, _, rfl, rfl, .inl ⟨by omega, by omega⟩, _, _, rfl, rfl, .inl ⟨_, rfl, _, _, rfl, rfl, (by show (0 : Int) < 2147483647; decide), _, rfl, t, _, rfl, dput_x ht _, ?_⟩⟩
      generalize ex : (m * 48821 + 6073) % 2147483647 = x
      have x0 : 0 ≤ x := by
        rw [← ex]
        exact Int.emod_nonneg _ (by decide)
      have x1 : x < 2147483647 := by
        rw [← ex]
        exact Int.emod_lt_of_pos _ (by decide)
      have o2 : TapeOk d x := ⟨ok.d0, ok.db, x0, by omega⟩
      refine ⟨_, rfl, t, _, rfl, dget_x upd_same, _, _, rfl, rfl, ⟨by decide, by decide, by omega⟩, .inl ⟨_, rfl, _, _, rfl, rfl, (by show (0 : Int) < 2147483587; decide), ?_⟩⟩
      generalize ey : x ^ (2 : Int).toNat % 2147483587 = y
      have y0 : 0 ≤ y := by
        rw [← ey]
        exact Int.emod_nonneg _ (by decide)
      have y1 : y < 2147483587 := by
        rw [← ey]
        exact Int.emod_lt_of_pos _ (by decide)
      refine ⟨_, _, rfl, rfl, ⟨by decide, by decide, by omega⟩, .inl ⟨_, rfl, _, _, rfl, rfl, (by show (0 : Int) < 1000000087; decide), _, _, rfl, rfl, ⟨by decide, by decide⟩, _, rfl, _, _, rfl, rfl, np, ?_⟩⟩
      exact k _ _ ((Kp.refl H).put rfl) (TapeAt.put o2) (Int.emod_nonneg _ (by omega)) (Int.emod_lt_of_pos _ np)
theorem scOneOf : FnScope ["well", "things"] ["well", "things"] (defScope sOneOf) := ⟨rfl, rfl, rfl, by decide +kernel, rfl, by decide +kernel, by decide +kernel⟩
theorem ok_one_of {f fP : Addr} {fd : FuncData} (F : Fun K "_law_choose" "_law_choose" sOneOf f fd) (T : TxtT mg) (DP : Df P w K mg base 1 fP "_law_draw" ["well", "bound"] spPick) : FnOk P w K mg base CX0 2 f fd ["well", "things"] (spOneOf K) := by
  refine F.ok scOneOf (fun vs H Q E h => ?_) (fun cdv A outer s H vs Q E hr h => ?_)
  · obtain ⟨t, l, xs, rfl, _⟩ := h
    rfl
  · obtain ⟨t, l, xs, rfl, ta, hl, l1, l2, k⟩ := h
    refine ⟨_, pss_one (ps_ret (pe_ix ix_list (pv 1) (pe_df DP hr (by rfl) (pa_cons (pv 0) (pa_cons (pe_callB call_len (by rfl) T.z_len PySem.boot_len (pa_cons (pv 1) pa_nil)) pa_nil))) (fun _ _ => rfl))), ?_⟩
    refine ⟨_, rfl, _, rfl, _, rfl, _, xs.length, rfl, .inl ⟨xs, hl, rfl⟩, t, _, rfl, ta, by omega, by omega, fun H2 r k2 ta2 r0 r1 => ?_⟩
    have hx : xs[r.toNat]? = some (xs[r.toNat]'(by omega)) := List.getElem?_eq_getElem _
    have er : r = (r.toNat : Int) := by omega
    refine ⟨l, xs, r, _, rfl, rfl, sqL_tape ta hl k2, (by rw [er]; exact atI_nat hx), k H2 _ k2 ta2 (List.getElem_mem _)⟩
end
end Lw
namespace Lw
open PySem L2 Gk
abbrev sLett : Stmt := topS 14
abbrev sDue : Stmt := topS 15
section
variable {P : Program} {w : World} {K : PySem.W.Frag} {mg : Str → Option Value} {base : Heap}
theorem scLett : FnScope ["thing", "sign"] ["thing"] (defScope sLett) := ⟨rfl, rfl, rfl, by decide +kernel, rfl, by decide +kernel, by decide +kernel⟩
theorem ok_lett {f : Addr} {fd : FuncData} (F : Fun K "_law_letters" "_law_letters" sLett f fd) : FnOk P w K mg base CX0 1 f fd ["thing"] spLett := by
  refine F.ok scLett (fun vs H Q E h => ?_) (fun cdv A outer s H vs Q E hr h => ?_)
  · obtain ⟨x, rfl, _⟩ := h
    rfl
  · obtain ⟨x, rfl, lx, so, k⟩ := h
    refine ⟨_, pss_one (ps_ret (pe_cmpR (op_eqD hr.units) (pe_lc (own := [("sign", 1)]) (g := gName 1) (tt := tTest (tOp notLet (tVar 1) (tC (.str LET)))) rfl scLett.nd (pi_str (pv 0))
      (blkOk_by (N := ["thing", "sign"]) (sc := defScope sLett) (by decide +kernel)) (fun _ _ _ _ _ => pg_name (i := 1) scLett.nd rfl (Or.inl rfl)) (fun _ _ _ _ _ => pts_one (pt_cmpR op_notIn_sign (pv 1) pe_str (by rfl))) (fun _ _ _ _ _ => pv 1)) (pe_lst pa_nil) (nomark _))), ?_⟩
    refine ⟨_, rfl, x, rfl, fun D hD => ?_⟩
    refine lc_kp (T := T0) walk_str (i0 := 1) (fun i v => ∃ c, x.cps[i]? = some c ∧ v = .str ⟨#[c]⟩) (fun i us _ => us = ((others (x.cps.toList.take i)).map sing).map V.str)
      (fun i H1 v H2 _ y => y) hD id lx (wipe1 _ 1) (fun _ _ => True.intro) rfl (fun i v us H1 Ky Kn hi sx k1 d1 q ky kn => ?_) (fun us H1 k1 d1 ly q => ?_)
    · obtain ⟨c, hc, rfl⟩ := sx
      have hc2 : x.cps.toList[i]? = some c := by rw [Array.getElem?_toList]; exact hc
      have nx := take_succ_filter hc2 fun c => !decide (c ∈ LET.cps.toList)
      refine ⟨_, rfl, c, LET, rfl, rfl, _, rfl, ?_⟩
      by_cases e : c ∈ LET.cps.toList
      · rw [decide_eq_true e] at nx ⊢
        refine iteF (kn _ (Kp.refl _) ?_)
        rw [q]
        unfold others
        rw [nx]
        rfl
      · rw [decide_eq_false e] at nx ⊢
        refine iteT ⟨_, rfl, ky _ _ (Kp.refl _) ?_⟩
        rw [q]
        unfold others
        rw [nx]
        simp [sing]
    · have q : us = ((others x.cps.toList).map sing).map V.str := by
        rw [q]
        have e : x.cps.toList.take x.cps.size = x.cps.toList := List.take_of_length_le (by rw [Array.length_toList]; exact Nat.le_refl _)
        first
          | rw [e]
          | (show ((others (List.take x.length x.cps.toList)).map sing).map V.str = _; rw [show x.length = x.cps.size from rfl, e])
      refine ⟨Nat.zero_le _, fun b hb => ?_⟩
      have kb : Kp T0 H1 (upd H1 b (.lst [])) := (Kp.refl H1).new hb
      have so2 : ∀ y ∈ (others x.cps.toList).map sing, PyData.strOk y = true := by
        intro y hy
        obtain ⟨c, hc, rfl⟩ := List.mem_map.mp hy
        have m := (List.mem_filter.mp hc).1
        unfold PyData.strOk at so ⊢
        rw [Array.all_eq_true'] at so ⊢
        intro d hd
        have e : d = c := by simpa [sing] using hd
        rw [e]
        exact so c (Array.mem_toList_iff.mp m)
      refine ⟨.list (((others x.cps.toList).map sing).map PyData.str), .list [], .lst (SqL.of (by rw [kb.at0 d1, q])) (dp_strs2 _), .lst (SqL.of upd_same) .nil, shaped_strs so2, by decide +kernel, ?_⟩
      have e2 : PyData.eqv (.list (((others x.cps.toList).map sing).map PyData.str)) (.list []) = (others x.cps.toList).isEmpty := by
        cases others x.cps.toList <;> rfl
      rw [e2, others_nil]
      exact k _ (k1.trans kb)
theorem scDue : FnScope ["thing", "is_word", "is_bool", "is_count", "fits"] ["thing"] (defScope sDue) := ⟨rfl, rfl, rfl, by decide +kernel, rfl, by decide +kernel, by decide +kernel⟩
theorem ok_due {f fL : Addr} {fd : FuncData} (F : Fun K "_law_due" "_law_due" sDue f fd) (T : TxtV mg) (DL : Df P w K mg base 1 fL "_law_letters" ["thing"] spLett) : FnOk P w K mg base CX0 2 f fd ["thing"] (spDue K) := by
  refine F.ok scDue (fun vs H Q E h => ?_) (fun cdv A outer s H vs Q E hr h => ?_)
  · obtain ⟨v, kd, rfl, _⟩ := h
    rfl
  · obtain ⟨v, kd, rfl, h, ok, k⟩ := h
    refine ⟨_, pss_cons (ps_par (i := 1) (j := 2) (by rfl) scDue.nd rfl rfl (by decide) rfl rfl (pa_cons (pe_callB call_isi (by rfl) T.z_isinstance (by decide +kernel) (pa_cons (pv 0) (pa_cons (pe_bltn (v := .ty "str") (by rfl) T.z_str (by decide +kernel) rfl) pa_nil)))
        (pa_cons (pe_callB call_isi (by rfl) T.z_isinstance (by decide +kernel) (pa_cons (pv 0) (pa_cons (pe_bltn (v := .ty "bool") (by rfl) T.z_bool (by decide +kernel) rfl) pa_nil))) pa_nil)) (by rfl))
      (pss_cons (ps_set (i := 3) scDue.nd rfl (Or.inl rfl) (pe_and (pe_callB call_isi (by rfl) T.z_isinstance (by decide +kernel) (pa_cons (pv 0) (pa_cons (pe_bltn (v := .ty "int") (by rfl) T.z_int (by decide +kernel) rfl) pa_nil)))
        (pe_and (pe_not (pv 2)) (pe_one (pe_cmpR op_ge (pv 0) pe_int (nomark _))))))
      (pss_cons (ps_set (i := 4) scDue.nd rfl (Or.inl rfl) (pe_and (pv 1) (pe_one (pe_df DL hr (by rfl) (pa_cons (pv 0) pa_nil)))))
      (pss_one (ps_ret (pe_lst (pa_cons (pe_and (pv 4) (pe_one (pe_chain op_le op_le pe_int (pe_callB call_len (by rfl) T.z_len PySem.boot_len (pa_cons (pv 0) pa_nil)) pe_int)))
        (pa_cons (pe_and (pv 4) (pe_one (pe_cmpR op_le (pe_callB call_len (by rfl) T.z_len PySem.boot_len (pa_cons (pv 0) pa_nil)) pe_int (nomark _)))) (pa_cons (pv 3) (pa_cons (pv 2) pa_nil))))))))), ?_⟩
    refine ⟨_, rfl, ?_⟩
    dsimp only [tCons, tC, tNil]
    refine rd_isi h (.inl rfl) ?_
    refine ⟨_, rfl, ?_⟩
    dsimp only [tCons, tC, tNil]
    refine rd_isi h (.inr (.inr rfl)) ?_
    refine ⟨_, _, rfl, ?_⟩
    refine ⟨_, rfl, ?_⟩
    dsimp only [tCons, tC, tNil]
    refine rd_isi h (.inr (.inl rfl)) ?_
    refine ⟨_, rfl, ?_⟩
    have l4 : 4 ≤ PySem.sizeLine := by rw [PySem.sizeLine_eq]; decide
    cases kd with
    | s x =>
      obtain ⟨rfl, lx⟩ := h
      refine iteF ?_
      refine ⟨_, rfl, _, rfl, ?_⟩
      refine iteT ⟨_, rfl, x, rfl, lx, ok x rfl, fun H2 k2 => ?_⟩
      have fin : ∀ b1 b2 : Bool, b1 = nameK (.s x) → b2 = textK (.s x) → 4 ≤ sizeLine ∧ ∀ p, H2 p = none → Q (.ref p) (upd H2 p (.lst [.bl b1, .bl b2, .bl false, .bl false])) := by
        rintro b1 b2 rfl rfl
        exact ⟨l4, fun p hp => k _ p (k2.new hp) upd_same⟩
      have en : nameK (.s x) = (decide (1 ≤ (x.length : Int)) && decide ((x.length : Int) ≤ 8) && letters x) := rfl
      have et : textK (.s x) = (decide ((0 : Int) ≤ (x.length : Int)) && decide ((x.length : Int) ≤ 12) && letters x) := rfl
      have e0 : decide ((0 : Int) ≤ (x.length : Int)) = true := decide_eq_true (by omega)
      refine ⟨_, rfl, _, rfl, ?_⟩
      cases e : letters x with
      | false =>
        refine iteF ?_
        refine ⟨_, rfl, _, rfl, ?_⟩
        refine iteF ?_
        refine ⟨_, rfl, _, rfl, fin _ _ ?_ ?_⟩
        · rw [en, e, Bool.and_false]
        · rw [et, e, Bool.and_false]
      | true =>
        refine iteT ?_
        refine ⟨_, rfl, _, _, rfl, ⟨Nat.le_of_lt lx, rfl⟩, _, _, rfl, rfl, _, rfl, ?_⟩
        refine ite2 (fun h1 => ?_) (fun h1 => ?_)
        · refine ⟨_, _, rfl, rfl, ?_⟩
          refine ⟨_, rfl, _, rfl, ?_⟩
          refine iteT ?_
          refine ⟨_, rfl, _, _, rfl, ⟨Nat.le_of_lt lx, rfl⟩, _, _, rfl, rfl, ?_⟩
          refine ⟨_, rfl, _, rfl, fin _ _ ?_ ?_⟩
          · rw [en, e, Bool.and_true, h1, Bool.true_and]
          · rw [et, e, Bool.and_true, e0, Bool.true_and]
        · refine ⟨_, rfl, _, rfl, ?_⟩
          refine iteT ?_
          refine ⟨_, rfl, _, _, rfl, ⟨Nat.le_of_lt lx, rfl⟩, _, _, rfl, rfl, ?_⟩
          refine ⟨_, rfl, _, rfl, fin _ _ ?_ ?_⟩
          · rw [en, (Bool.not_eq_true _).mp h1, Bool.false_and, Bool.false_and]
          · rw [et, e, Bool.and_true, e0, Bool.true_and]
    | i n =>
      cases h
      refine iteT ?_
      refine ⟨_, rfl, _, rfl, _, rfl, ?_⟩
      refine iteT ?_
      refine ⟨_, rfl, _, _, rfl, rfl, ?_⟩
      refine ⟨_, rfl, _, rfl, ?_⟩
      refine iteF ?_
      refine ⟨_, rfl, _, rfl, ?_⟩
      refine iteF ?_
      refine ⟨_, rfl, _, rfl, ?_⟩
      refine iteF ?_
      exact ⟨_, rfl, _, rfl, l4, fun p hp => k _ p ((Kp.refl H).new hp) upd_same⟩
    | b c =>
      cases h
      refine iteT ?_
      refine ⟨_, rfl, _, rfl, _, rfl, ?_⟩
      refine iteF ?_
      refine ⟨_, rfl, _, rfl, ?_⟩
      refine iteF ?_
      refine ⟨_, rfl, _, rfl, ?_⟩
      refine iteF ?_
      refine ⟨_, rfl, _, rfl, ?_⟩
      refine iteF ?_
      exact ⟨_, rfl, _, rfl, l4, fun p hp => k _ p ((Kp.refl H).new hp) upd_same⟩
    | o =>
      refine iteF ?_
      refine ⟨_, rfl, _, rfl, ?_⟩
      refine iteF ?_
      refine ⟨_, rfl, _, rfl, ?_⟩
      refine iteF ?_
      refine ⟨_, rfl, _, rfl, ?_⟩
      refine iteF ?_
      exact ⟨_, rfl, _, rfl, l4, fun p hp => k _ p ((Kp.refl H).new hp) upd_same⟩
end
end Lw
namespace Lw
open PySem L2 Gk
abbrev sRight : Stmt := topS 17
theorem boot_repr : bootBuiltins "repr" = some (.builtin "repr") := by decide +kernel
section
variable {P : Program} {w : World} {K : PySem.W.Frag} {mg : Str → Option Value} {base : Heap}
theorem scRight : FnScope ["thing", "seen", "told"] ["thing"] (defScope sRight) := ⟨rfl, rfl, rfl, by decide +kernel, rfl, by decide +kernel, by decide +kernel⟩
theorem ok_right {f fN fT fM fF fD : Addr} {fd : FuncData} (F : Fun K "_law_right" "_law_right" sRight f fd) (zr : mg "repr" = none) (DN : Df P w K mg base 2 fN "is_name" ["value"] (spKd K nameK)) (DT : Df P w K mg base 2 fT "is_text" ["value"] (spKd K textK))
    (DM : Df P w K mg base 1 fM "is_number" ["value"] (spKd K numK)) (DF : Df P w K mg base 1 fF "is_flag" ["value"] (spKd K flagK)) (DD : Df P w K mg base 2 fD "_law_due" ["thing"] (spDue K)) : FnG P w K mg base 3 f fd ["thing"] (spRight K) := by
  refine fnG_by F scRight (fun vs H Q E h => ?_) (fun cdv A outer s H vs Q E hf hr h => ?_)
  · obtain ⟨v, rfl, _⟩ := h
    rfl
  · obtain ⟨v, rfl, ⟨kd, d, h, ok, sh, fd⟩, k⟩ := h
    have un := hr.un
    have r1 : Room 1 _ := hr.mono (by decide)
    refine ⟨_, pss_cons (ps_set (i := 1) scRight.nd rfl (Or.inl rfl) (pe_callB (call_reprD hf (by show (A.deeper _).units + 70 < cLine; omega)) (by rfl) zr boot_repr (pa_cons (pv 0) pa_nil)))
      (pss_cons (ps_set (i := 2) scRight.nd rfl (Or.inl rfl) (pe_lst (pa_cons (pe_df DN hr (by rfl) (pa_cons (pv 0) pa_nil)) (pa_cons (pe_df DT hr (by rfl) (pa_cons (pv 0) pa_nil)) (pa_cons (pe_df DM r1 (by rfl) (pa_cons (pv 0) pa_nil)) (pa_cons (pe_df DF r1 (by rfl) (pa_cons (pv 0) pa_nil)) pa_nil))))))
      (pss_one (ps_ret (pe_and (pe_cmpR op_eq (pe_callB (call_reprD hf (by show (A.deeper _).units + 70 < cLine; omega)) (by rfl) zr boot_repr (pa_cons (pv 2) pa_nil))
        (pe_callB (call_reprD hf (by show (A.deeper _).units + 70 < cLine; omega)) (by rfl) zr boot_repr (pa_cons (pe_df DD hr (by rfl) (pa_cons (pv 0) pa_nil)) pa_nil)) (nomark _))
        (pe_one (pe_cmpR op_eq (pe_callB (call_reprD hf (by show (A.deeper _).units + 70 < cLine; omega)) (by rfl) zr boot_repr (pa_cons (pv 0) pa_nil)) (pv 1) (nomark _))))))), ?_⟩
    refine ⟨_, rfl, ?_⟩
    dsimp only [tNil]
    refine rd_repr sh fd ?_
    refine ⟨_, rfl, v, kd, rfl, h, fun H1 k1 => ?_⟩
    refine ⟨_, rfl, v, kd, rfl, h.keep0 k1, fun H2 k2 => ?_⟩
    have k2 := k1.trans k2
    refine ⟨_, rfl, v, kd, rfl, h.keep0 k2, fun H3 k3 => ?_⟩
    have k3 := k2.trans k3
    refine ⟨_, rfl, v, kd, rfl, h.keep0 k3, fun H4 k4 => ?_⟩
    have k4 := k3.trans k4
    refine ⟨(by show 4 ≤ sizeLine; rw [PySem.sizeLine_eq]; decide), fun l hl => ?_⟩
    have kl := k4.new (o := .lst [.bl (nameK kd), .bl (textK kd), .bl (numK kd), .bl (flagK kd)]) hl
    refine ⟨_, rfl, ?_⟩
    dsimp only [tNil]
    refine rd_repr (d := dB (dueL kd)) (.dp (.lst (SqL.of upd_same) (dp_bools (dueL kd)))) (fine4 _ _ _ _) ?_
    refine ⟨_, rfl, v, kd, rfl, h.keep0 kl, ok, fun H5 l2 k5 d5 => ?_⟩
    have k5 := kl.trans k5
    dsimp only [tNil]
    refine rd_repr (d := dB (dueL kd)) (.dp (.lst (SqL.of d5) (dp_bools (dueL kd)))) (fine4 _ _ _ _) ?_
    refine ⟨rfl, _, rfl, ?_⟩
    rw [decide_eq_true rfl]
    refine iteT ?_
    refine ⟨_, rfl, ?_⟩
    dsimp only [tNil]
    refine rd_repr (sh.keep0 k5) fd ?_
    refine ⟨_, rfl, rfl, ?_⟩
    rw [decide_eq_true rfl]
    exact k _ k5
end
end Lw
namespace Lw
open PySem L2 Gk
abbrev sAny : Stmt := topS 16
section
variable {P : Program} {w : World} {K : PySem.W.Frag} {mg : Str → Option Value} {base : Heap}
theorem scAny : FnScope ["well", "some"] ["well"] (defScope sAny) := ⟨rfl, rfl, rfl, by decide +kernel, rfl, by decide +kernel, by decide +kernel⟩
theorem ok_any {f fC : Addr} {fd : FuncData} (F : Fun K "_law_any" "_law_any" sAny f fd) (DC : Df P w K mg base 2 fC "_law_choose" ["well", "things"] (spOneOf K)) : FnOk P w K mg base CX0 3 f fd ["well"] (spAny K) := by
  refine F.ok scAny (fun vs H Q E h => ?_) (fun cdv A outer s H vs Q E hr h => ?_)
  · obtain ⟨t, rfl, _⟩ := h
    rfl
  · obtain ⟨t, rfl, ta, k⟩ := h
    refine ⟨_, pss_cons (ps_set (i := 1) scAny.nd rfl (Or.inl rfl) (pe_lst (pa_cons pe_non (pa_cons pe_bl (pa_cons pe_bl (pa_cons pe_int (pa_cons pe_int (pa_cons (pe_un un_neg pe_int) (pa_cons (pe_op op_pow pe_int pe_int) (pa_cons pe_str (pa_cons pe_str (pa_cons pe_str (pa_cons pe_str (pa_cons (pe_op op_mulS pe_str pe_int) (pa_cons (pe_op op_mulS pe_str pe_int) (pa_cons pe_str (pa_cons pe_str pa_nil)))))))))))))))))
      (pss_cons (ps_set (i := 1) scAny.nd rfl (Or.inl rfl) (pe_op op_cat (pv 1) (pe_lst (pa_cons pe_str (pa_cons pe_str (pa_cons pe_str (pa_cons pe_str (pa_cons (pe_tup pa_nil) (pa_cons (pe_tup (pa_cons pe_str pa_nil)) (pa_cons (pe_lst (pa_cons pe_str pa_nil)) (pa_cons (pe_lst pa_nil) (pa_cons pe_dnewK (pa_cons (pe_disp (pps_cons pe_str pe_int pps_nil) (by rfl) (by rfl) (fun z => by cases z) (by decide)) (pa_cons (pe_un un_neg pe_int) (pa_cons pe_int pa_nil)))))))))))))))
      (pss_one (ps_ret (pe_df DC hr (by rfl) (pa_cons (pv 0) (pa_cons (pv 1) pa_nil)))))), ?_⟩
    have pow : CPow 10 59 := ⟨by decide, by decide, by decide⟩
    have hz : (16777216 : Nat) = PySem.sizeLine := PySem.sizeLine_eq.symm
    have l1 : 1 ≤ PySem.sizeLine := by omega
    refine ⟨_, rfl, _, _, rfl, rfl, pow, _, 12, rfl, rfl, by decide, by decide, by decide, _, 13, rfl, rfl, by decide, by decide, by decide, ?_⟩
    refine ⟨(by show 15 ≤ sizeLine; omega), fun b hb => ?_⟩
    generalize ev : ([.non, .bl true, .bl false, .int 0, .int 1, .int (-1), .int (10 ^ (59 : Int).toNat), .str "", .str "a", .str "abcdefgh", .str "abcdefghi", .str (repS "a" 12), .str (repS "a" 13), .str "A", .str "a b"] : List V) = us
    have lu : us.length = 15 := by rw [← ev]; rfl
    have eu : ∀ G : Hp, ∀ v ∈ us, El t G v := by
      intro G v hv
      rw [← ev] at hv
      simp only [List.mem_cons, List.not_mem_nil, or_false] at hv
      rcases hv with rfl | rfl | rfl | rfl | rfl | rfl | rfl | rfl | rfl | rfl | rfl | rfl | rfl | rfl | rfl
      · exact .non
      · exact .bl _
      · exact .bl _
      · exact .int _ ⟨by decide +kernel, by decide +kernel, by decide +kernel⟩
      · exact .int _ ⟨by decide +kernel, by decide +kernel, by decide +kernel⟩
      · exact .int _ ⟨by decide +kernel, by decide +kernel, by decide +kernel⟩
      · exact .int _ ⟨by decide +kernel, by decide +kernel, by decide +kernel⟩
      all_goals exact .str _ (by decide +kernel) (by decide +kernel) ⟨rfl, by decide +kernel, by decide +kernel⟩
    have g0 := (Kp.refl (T := T0) H).new (o := .lst us) hb
    have e0 : (upd H b (.lst us)) b = some (.lst us) := upd_same
    have t0 : TapeAt (upd H b (.lst us)) t := ta.keep g0
    generalize upd H b (.lst us) = G0 at g0 e0 t0 ⊢
    refine ⟨_, rfl, ?_⟩
    refine ⟨Nat.zero_le _, fun q1 h1 => ?_⟩
    have n1 : q1 ≠ t := tape_fresh t0 h1
    have g1 := (Kp.refl (T := T0) G0).new (o := .tup []) h1
    have e1 : (upd G0 q1 (.tup [])) q1 = some (.tup []) := upd_same
    have t1 := t0.keep g1
    generalize upd G0 q1 (.tup []) = G1 at g1 e1 t1 ⊢
    refine ⟨l1, fun q2 h2 => ?_⟩
    have n2 : q2 ≠ t := tape_fresh t1 h2
    have g2 := (Kp.refl (T := T0) G1).new (o := .tup [.str "a"]) h2
    have e2 : (upd G1 q2 (.tup [.str "a"])) q2 = some (.tup [.str "a"]) := upd_same
    have t2 := t1.keep g2
    generalize upd G1 q2 (.tup [.str "a"]) = G2 at g2 e2 t2 ⊢
    refine ⟨l1, fun q3 h3 => ?_⟩
    have n3 : q3 ≠ t := tape_fresh t2 h3
    have g3 := (Kp.refl (T := T0) G2).new (o := .lst [.str "a"]) h3
    have e3 : (upd G2 q3 (.lst [.str "a"])) q3 = some (.lst [.str "a"]) := upd_same
    have t3 := t2.keep g3
    generalize upd G2 q3 (.lst [.str "a"]) = G3 at g3 e3 t3 ⊢
    refine ⟨Nat.zero_le _, fun q4 h4 => ?_⟩
    have n4 : q4 ≠ t := tape_fresh t3 h4
    have g4 := (Kp.refl (T := T0) G3).new (o := .lst []) h4
    have e4 : (upd G3 q4 (.lst [])) q4 = some (.lst []) := upd_same
    have t4 := t3.keep g4
    generalize upd G3 q4 (.lst []) = G4 at g4 e4 t4 ⊢
    refine fun q5 h5 => ?_
    have n5 : q5 ≠ t := tape_fresh t4 h5
    have g5 := (Kp.refl (T := T0) G4).new (o := .dK []) h5
    have e5 : (upd G4 q5 (.dK [])) q5 = some (.dK []) := upd_same
    have t5 := t4.keep g5
    generalize upd G4 q5 (.dK []) = G5 at g5 e5 t5 ⊢
    refine fun q6 h6 => ⟨upd_same, [(.inr "a", .int 1)], rfl, (by show 1 ≤ 15; decide), ?_⟩
    rw [upd_upd]
    have n6 : q6 ≠ t := tape_fresh t5 h6
    have g6 := (Kp.refl (T := T0) G5).new (o := .dK (mergeK [] [(.inr "a", .int 1)])) h6
    have e6 : (upd G5 q6 (.dK (mergeK [] [(.inr "a", .int 1)]))) q6 = some (.dK [(.inr "a", .int 1)]) := upd_same
    have t6 := t5.keep g6
    generalize upd G5 q6 (.dK (mergeK [] [(.inr "a", .int 1)])) = G6 at g6 e6 t6 ⊢
    refine ⟨_, rfl, ?_⟩
    refine ⟨(by show 12 ≤ sizeLine; omega), fun e he => ?_⟩
    have f56 := g5.trans g6
    have f46 := g4.trans f56
    have f36 := g3.trans f46
    have f26 := g2.trans f36
    have f16 := g1.trans f26
    generalize ew : ([.str "a.b", .str "a1", .str "top", .str "a\n", .ref q1, .ref q2, .ref q3, .ref q4, .ref q5, .ref q6, .int (-5), .int 7] : List V) = ws
    have lw : ws.length = 12 := by rw [← ew]; rfl
    have ews : ∀ v ∈ ws, El t G6 v := by
      intro v hv
      rw [← ew] at hv
      simp only [List.mem_cons, List.not_mem_nil, or_false] at hv
      rcases hv with rfl | rfl | rfl | rfl | rfl | rfl | rfl | rfl | rfl | rfl | rfl | rfl
      · exact .str _ (by decide +kernel) (by decide +kernel) ⟨rfl, by decide +kernel, by decide +kernel⟩
      · exact .str _ (by decide +kernel) (by decide +kernel) ⟨rfl, by decide +kernel, by decide +kernel⟩
      · exact .str _ (by decide +kernel) (by decide +kernel) ⟨rfl, by decide +kernel, by decide +kernel⟩
      · exact .str _ (by decide +kernel) (by decide +kernel) ⟨rfl, by decide +kernel, by decide +kernel⟩
      · exact .tup q1 [] n1 (f26.at0 e1) ⟨rfl, by decide +kernel, by decide +kernel⟩
      · exact .tup q2 ["a"] n2 (f36.at0 e2) ⟨rfl, by decide +kernel, by decide +kernel⟩
      · exact .lst q3 ["a"] n3 (f46.at0 e3) ⟨rfl, by decide +kernel, by decide +kernel⟩
      · exact .lst q4 [] n4 (f56.at0 e4) ⟨rfl, by decide +kernel, by decide +kernel⟩
      · exact .dict q5 [] [] n5 (g6.at0 e5) .nil ⟨rfl, by decide +kernel, by decide +kernel⟩
      · exact .dict q6 [(.inr "a", .int 1)] [(.str "a", .int 1)] n6 e6 (.cons ⟨rfl, .int 1⟩ .nil) ⟨by decide +kernel, by decide +kernel, by decide +kernel⟩
      · exact .int _ ⟨by decide +kernel, by decide +kernel, by decide +kernel⟩
      · exact .int _ ⟨by decide +kernel, by decide +kernel, by decide +kernel⟩
    have ge := (Kp.refl (T := T0) G6).new (o := .lst ws) he
    refine ⟨b, e, us, ws, rfl, rfl, (f16.trans ge).at0 e0, upd_same, (by rw [lu, lw]; omega), fun p hp => ?_⟩
    have gp := ge.new (o := .lst (us ++ ws)) hp
    have kk : Kp T0 H (upd (upd G6 e (.lst ws)) p (.lst (us ++ ws))) := (g0.trans f16).trans gp
    have tp := t6.keep gp
    refine ⟨_, rfl, _, rfl, t, p, us ++ ws, rfl, tp, SqL.of upd_same, (by rw [List.length_append, lu, lw]; decide), (by rw [List.length_append, lu, lw]; decide), fun H2 x k2 ta2 mx => ?_⟩
    refine k H2 x (kk.wide.trans k2) ta2 (El.thing (t := t) ?_)
    rcases List.mem_append.mp mx with m | m
    · exact eu H2 x m
    · exact (ews x m).keep (gp.wide.trans k2)
end
end Lw
namespace Lw
open PySem L2 Gk
abbrev sBefore : Stmt := topS 18
section
variable {P : Program} {w : World} {K : PySem.W.Frag} {mg : Str → Option Value} {base : Heap}
theorem scBefore : FnScope ["one", "other"] ["one", "other"] (defScope sBefore) := ⟨rfl, rfl, rfl, by decide +kernel, rfl, by decide +kernel, by decide +kernel⟩
theorem ok_before {f : Addr} {fd : FuncData} (F : Fun K "_law_before" "_law_before" sBefore f fd) (T : TxtV mg) : FnOk P w K mg base CX0 1 f fd ["one", "other"] spBefore := by
  refine F.ok scBefore (fun vs H Q E h => ?_) (fun cdv A outer s H vs Q E hr h => ?_)
  · obtain ⟨pk, rfl, _⟩ := h
    rfl
  · obtain ⟨pk, rfl, ok, k⟩ := h
    refine ⟨_, pss_cons (ps_if (pt_val (pe_callB call_isi (by rfl) T.z_isinstance (by decide +kernel) (pa_cons (pv 0) (pa_cons (pe_bltn (v := .ty "str") (by rfl) T.z_str (by decide +kernel) rfl) pa_nil))))
        (pss_one (ps_ret (pe_or (pe_cmpR op_lt (pe_callB call_len (by rfl) T.z_len PySem.boot_len (pa_cons (pv 0) pa_nil)) (pe_callB call_len (by rfl) T.z_len PySem.boot_len (pa_cons (pv 1) pa_nil)) (nomark _))
          (pe_one (pe_and (pe_cmpR op_eq (pe_callB call_len (by rfl) T.z_len PySem.boot_len (pa_cons (pv 0) pa_nil)) (pe_callB call_len (by rfl) T.z_len PySem.boot_len (pa_cons (pv 1) pa_nil)) (nomark _)) (pe_one (pe_cmpR op_lt_str (pv 0) (pv 1) (nomark _)))))))) pss_nil)
      (pss_one (ps_ret (pe_cmpR (op_ltD hr.units) (pv 0) (pv 1) (nomark _)))), ?_⟩
    refine ⟨_, rfl, ?_⟩
    dsimp only [tCons, tC, tNil]
    cases pk with
    | s x y =>
      obtain ⟨lx, ly⟩ := ok
      refine rd_isi (kd := .s x) ⟨rfl, lx⟩ (.inl rfl) ?_
      refine ⟨_, rfl, ?_⟩
      refine iteT ?_
      refine ⟨_, rfl, _, _, rfl, ⟨Nat.le_of_lt lx, rfl⟩, _, rfl, _, _, rfl, ⟨Nat.le_of_lt ly, rfl⟩, _, _, rfl, rfl, _, rfl, ?_⟩
      have kk : Q (.bl (decide ((x.length : Int) < (y.length : Int)) || (decide ((x.length : Int) = (y.length : Int)) && decide (x.cps.toList < y.cps.toList)))) H := k
      by_cases c1 : (x.length : Int) < (y.length : Int)
      · rw [decide_eq_true c1] at kk ⊢
        rw [Bool.true_or] at kk
        exact iteT kk
      · rw [decide_eq_false c1] at kk ⊢
        rw [Bool.false_or] at kk
        refine iteF ?_
        refine ⟨_, rfl, _, _, rfl, ⟨Nat.le_of_lt lx, rfl⟩, _, rfl, _, _, rfl, ⟨Nat.le_of_lt ly, rfl⟩, rfl, _, rfl, ?_⟩
        by_cases c2 : (x.length : Int) = (y.length : Int)
        · rw [decide_eq_true c2, Bool.true_and] at kk
          rw [decide_eq_true (show V.int (x.length : Int) = V.int (y.length : Int) from congrArg V.int c2)]
          exact iteT ⟨_, rfl, _, rfl, _, _, rfl, rfl, kk⟩
        · rw [decide_eq_false c2, Bool.false_and] at kk
          rw [decide_eq_false (show ¬ V.int (x.length : Int) = V.int (y.length : Int) from fun z => c2 (V.int.inj z))]
          exact iteF kk
    | i n m =>
      refine rd_isi (kd := .i n) rfl (.inl rfl) ?_
      refine ⟨_, rfl, ?_⟩
      refine iteF ?_
      refine ⟨_, rfl, _, rfl, .int n, .int m, .int n, .int m, rfl, (fun z => nomatch z), (by show (0 : Nat) ≤ 64; decide), ?_⟩
      rw [PySem.W.dataLt_int]
      exact k
    | b c d =>
      refine rd_isi (kd := .b c) rfl (.inl rfl) ?_
      refine ⟨_, rfl, ?_⟩
      refine iteF ?_
      exact ⟨_, rfl, _, rfl, .bool c, .bool d, .bl c, .bl d, rfl, (fun z => nomatch z), (by show (0 : Nat) ≤ 64; decide), k⟩
end
end Lw
namespace Lw
open PySem L2 Gk
abbrev sLaw : Stmt := topS 19
structure TxtL (mg : Str → Option Value) : Prop where
  z_len : mg "len" = none
  z_max : mg "max" = none
  z_min : mg "min" = none
  z_range : mg "range" = none
theorem boot_max : bootBuiltins "max" = some (.builtin "max") := by decide +kernel
theorem boot_min : bootBuiltins "min" = some (.builtin "min") := by decide +kernel
abbrev NL : List Str := ["script", "start", "well", "turn", "some", "texts", "numbers", "row", "one", "other", "sign", "size"]
section
variable {P : Program} {w : World} {K : PySem.W.Frag} {mg : Str → Option Value} {base : Heap}
theorem scLaw : FnScope NL ["script"] (defScope sLaw) := ⟨rfl, rfl, rfl, by decide +kernel, rfl, by decide +kernel, by decide +kernel⟩
theorem ok_law {f fT fA fR fC fK fB fN fX fM : Addr} {fd : FuncData} (F : Fun K "law" "law" sLaw f fd) (TL : TxtL mg)
    (DT : Df P w K mg base 1 fT "_law_well" ["script", "start"] (spTape K)) (DA : Df P w K mg base 3 fA "_law_any" ["well"] (spAny K)) (DR : DfG P w K mg base 3 fR "_law_right" ["thing"] (spRight K)) (DC : Df P w K mg base 2 fC "_law_choose" ["well", "things"] (spOneOf K))
    (DK : Df P w K mg base 1 fK "value_key" ["value"] (spKey K)) (DB : Df P w K mg base 1 fB "_law_before" ["one", "other"] spBefore) (DN : Df P w K mg base 2 fN "is_name" ["value"] (spKd K nameK)) (DX : Df P w K mg base 2 fX "is_text" ["value"] (spKd K textK))
    (DM : Df P w K mg base 1 fM "is_number" ["value"] (spKd K numK)) : FnG P w K mg base 4 f fd ["script"] (spLaw K) := by
  refine fnG_by F scLaw (fun vs H Q E h => ?_) (fun cdv A outer s H vs Q E hf hr h => ?_)
  · obtain ⟨a, ns, rfl, _⟩ := h
    rfl
  · obtain ⟨a, ns, rfl, hs, hl, hb, k⟩ := h
    have r3 : Room 3 _ := hr
    have r2 : Room 2 _ := hr.mono (by decide)
    have r1 : Room 1 _ := hr.mono (by decide)
    refine ⟨_, (pss_cons (ps_for PassesOwn.never rfl (pi_range1 (by rfl) TL.z_range (pa_cons (pe_callB (call_max2 rfl) (by rfl) TL.z_max boot_max (pa_cons pe_int (pa_cons (pe_callB (call_min2 rfl) (by rfl) TL.z_min boot_min (pa_cons pe_int (pa_cons (pe_callB call_len (by rfl) TL.z_len PySem.boot_len (pa_cons (pv 0) pa_nil)) pa_nil))) pa_nil))) pa_nil)) (pg_name (i := 1) scLaw.nd rfl (Or.inl rfl))
      (pss_cons (ps_set (i := 2) scLaw.nd rfl (Or.inr rfl) (pe_df DT r1 (by rfl) (pa_cons (pv 0) (pa_cons (pv 1) pa_nil))))
      (pss_cons (ps_for PassesOwn.never rfl (pi_range1 (by rfl) TL.z_range (pa_cons pe_int pa_nil)) (pg_name (i := 3) scLaw.nd rfl (Or.inl rfl))
      (pss_one (ps_if (pt_not (pt_val (pe_dfG DR hf r3 (by rfl) (pa_cons (pe_df DA r3 (by rfl) (pa_cons (pv 2) pa_nil)) pa_nil)))) (pss_one (ps_ret pe_bl)) pss_nil)))
      (pss_cons (ps_set (i := 4) scLaw.nd rfl (Or.inr rfl) (pe_lst (pa_cons pe_str (pa_cons pe_str (pa_cons pe_str (pa_cons pe_str (pa_cons pe_str (pa_cons pe_str (pa_cons pe_str (pa_cons pe_str (pa_cons pe_str (pa_cons pe_str pa_nil))))))))))))
      (pss_cons (ps_setLc (i := 5) (own := [("turn", 3)]) (g := gName 3) (tt := tYes) rfl scLaw.nd rfl rfl (sw_true rfl rfl rfl (by decide +kernel)) (pi_range1 (by rfl) TL.z_range (pa_cons pe_int pa_nil)) (blkOk_by (N := NL) (sc := defScope sLaw) (by decide +kernel)) (fun _ _ _ _ _ => (pg_name (i := 3) scLaw.nd rfl (Or.inl rfl))) (fun _ _ _ _ _ => pts_nil) (fun _ _ _ _ _ => (pe_df DC r2 (by rfl) (pa_cons (pv 2) (pa_cons (pv 4) pa_nil)))))
      (pss_cons (ps_setLc (i := 6) (own := [("turn", 3)]) (g := gName 3) (tt := tYes) rfl scLaw.nd rfl rfl (sw_true rfl rfl rfl (by decide +kernel)) (pi_range1 (by rfl) TL.z_range (pa_cons pe_int pa_nil)) (blkOk_by (N := NL) (sc := defScope sLaw) (by decide +kernel)) (fun _ _ _ _ _ => (pg_name (i := 3) scLaw.nd rfl (Or.inl rfl))) (fun _ _ _ _ _ => pts_nil) (fun _ _ _ _ _ => (pe_df DC r2 (by rfl) (pa_cons (pv 2) (pa_cons (pe_lst (pa_cons pe_int (pa_cons pe_int (pa_cons pe_int (pa_cons pe_int (pa_cons pe_int (pa_cons (pe_op op_pow pe_int pe_int) pa_nil))))))) pa_nil)))))
      (pss_one (ps_for PassesOwn.never rfl (pi_list (pe_lst (pa_cons (pv 5) (pa_cons (pv 6) (pa_cons (pe_lst (pa_cons pe_bl (pa_cons pe_bl (pa_cons pe_bl pa_nil)))) pa_nil))))) (pg_name (i := 7) scLaw.nd rfl (Or.inl rfl))
      (pss_one (ps_for PassesOwn.never rfl (pi_list (pv 7)) (pg_name (i := 8) scLaw.nd rfl (Or.inl rfl))
      (pss_one (ps_for PassesOwn.never rfl (pi_list (pv 7)) (pg_name (i := 9) scLaw.nd rfl (Or.inl rfl))
      (pss_one (ps_if (pt_cmpR op_ne (pe_cmpR (op_ltD hr.units) (pe_df DK r1 (by rfl) (pa_cons (pv 8) pa_nil)) (pe_df DK r1 (by rfl) (pa_cons (pv 9) pa_nil)) (nomark _)) (pe_df DB r1 (by rfl) (pa_cons (pv 8) (pa_cons (pv 9) pa_nil))) (nomark _)) (pss_one (ps_ret pe_bl)) pss_nil))))))))))))))
      (pss_cons (ps_for PassesOwn.never rfl (pi_str pe_str) (pg_name (i := 10) scLaw.nd rfl (Or.inl rfl))
      (pss_one (ps_if (PW.pt (pw_or (pt_not (pt_val (pe_df DN r2 (by rfl) (pa_cons (pv 10) pa_nil)))) (pw_or (pt_not (pt_val (pe_df DX r2 (by rfl) (pa_cons (pe_op op_add_str pe_str (pv 10)) pa_nil)))) (pw_or1 (pt_not (pt_val (pe_df DN r2 (by rfl) (pa_cons (pe_op op_add_str pe_str (pv 10)) pa_nil)))))))) (pss_one (ps_ret pe_bl)) pss_nil)))
      (pss_cons (ps_for PassesOwn.never rfl (pi_str pe_str) (pg_name (i := 10) scLaw.nd rfl (Or.inl rfl))
      (pss_cons (ps_if (PW.pt (pw_or (pt_val (pe_df DN r2 (by rfl) (pa_cons (pv 10) pa_nil))) (pw_or (pt_val (pe_df DX r2 (by rfl) (pa_cons (pe_op op_add_str pe_str (pv 10)) pa_nil))) (pw_or (pt_val (pe_df DX r2 (by rfl) (pa_cons (pe_op op_add_str (pv 10) pe_str) pa_nil))) (pw_or1 (pt_val (pe_df DN r2 (by rfl) (pa_cons (pe_op op_add_str (pe_op op_add_str pe_str (pv 10)) pe_str) pa_nil)))))))) (pss_one (ps_ret pe_bl)) pss_nil)
      (pss_one (ps_if (PW.pt (pw_or (pt_val (pe_df DN r2 (by rfl) (pa_cons (pe_op op_add_str pe_str (pv 10)) pa_nil))) (pw_or (pt_val (pe_df DX r2 (by rfl) (pa_cons (pe_op op_add_str pe_str (pv 10)) pa_nil))) (pw_or1 (pt_val (pe_df DX r2 (by rfl) (pa_cons (pe_op op_add_str (pe_op op_add_str pe_str (pv 10)) pe_str) pa_nil))))))) (pss_one (ps_ret pe_bl)) pss_nil))))
      (pss_cons (ps_for PassesOwn.never rfl (pi_range1 (by rfl) TL.z_range (pa_cons pe_int pa_nil)) (pg_name (i := 11) scLaw.nd rfl (Or.inl rfl))
      (pss_one (ps_if (PW.pt (pw_or (pt_cmpR op_ne (pe_df DN r2 (by rfl) (pa_cons (pe_op op_mulS pe_str (pv 11)) pa_nil)) (pe_chain op_le op_le pe_int (pv 11) pe_int) (nomark _)) (pw_or1 (pt_cmpR op_ne (pe_df DX r2 (by rfl) (pa_cons (pe_op op_mulS pe_str (pv 11)) pa_nil)) (pe_cmpR op_le (pv 11) pe_int (nomark _)) (nomark _))))) (pss_one (ps_ret pe_bl)) pss_nil)))
      (pss_one (ps_ret (pe_and (pe_cmpR op_is_bl (pe_df DM r1 (by rfl) (pa_cons (pe_op op_pow pe_int pe_int) pa_nil)) pe_bl (nomark _)) (pe_and (pe_cmpR op_is_bl (pe_df DM r1 (by rfl) (pa_cons pe_int pa_nil)) pe_bl (nomark _)) (pe_one (pe_cmpR op_is_bl (pe_df DM r1 (by rfl) (pa_cons (pe_op op_sub pe_int pe_int) pa_nil)) pe_bl (nomark _))))))))))), ?_⟩
    have hz : (16777216 : Nat) = PySem.sizeLine := PySem.sizeLine_eq.symm
    have em := clamp (lo := 2) (hi := 5) (by decide) ns.length
    refine ⟨_, rfl, _, ns.length, rfl, .inl ⟨_, hs, by rw [List.length_map]⟩, _, _, rfl, _, _, rfl, _, rfl, ?_, ?_, ?_⟩
    · omega
    · omega
    revert em
    generalize (if (if (ns.length : Int) < 5 then (ns.length : Int) else 5) > 2 then (if (ns.length : Int) < 5 then (ns.length : Int) else 5) else 2) = top
    intro em
    refine for_range (lo := 0) (n := top.toNat) (fun _ st H1 => Kp T0 H H1 ∧ ∃ o1 o2 o3 o4 o5 o6 o7 o8 o9 o10 o11 : Option V, st = [some (.ref a), o1, o2, o3, o4, o5, o6, o7, o8, o9, o10, o11])
      ⟨Kp.refl H, none, none, none, none, none, none, none, none, none, none, none, rfl⟩ (fun i st H1 hi p => ?_) (fun st H1 p => ?_)
    rotate_left
    · -- the signs
      obtain ⟨k1, o1, o2, o3, o4, o5, o6, o7, o8, o9, o10, o11, rfl⟩ := p
      refine ⟨LET, rfl, ?_⟩
      refine for_it walk_str (fun _ st H2 => ∃ o0 o1 o2 o3 o4 o5 o6 o7 o8 o9 o10 o11 : Option V, st = [o0, o1, o2, o3, o4, o5, o6, o7, o8, o9, o10, o11])
        ⟨_, _, _, _, _, _, _, _, _, _, _, _, rfl⟩ (fun _ _ _ _ _ => True.intro) (fun i v st H2 H3 hi q y => ?_) (fun st H2 q => ?_)
      · obtain ⟨o0, o1, o2, o3, o4, o5, o6, o7, o8, o9, o10, o11, rfl⟩ := q
        obtain ⟨rfl, c, hc, rfl⟩ := y
        have lc : letters ⟨#[c]⟩ = true := by rw [letters_sing, decide_eq_true (mem_cps hc)]
        have la : letters "a" = true := by decide +kernel
        have lab : letters "ab" = true := by decide +kernel
        -- not is_name(sign)
        refine ⟨_, rfl, ?_⟩
        dsimp only [tNil]
        refine rd_txt (by rw [len_sing]; decide) fun H4 k4 => ?_
        rw [nm_ok (by rw [len_sing]; decide) (by rw [len_sing]; decide) lc]
        refine ⟨_, rfl, iteF ?_⟩
        -- not is_text("a" + sign)
        refine ⟨_, rfl, _, _, rfl, rfl, (by show 1 + 1 ≤ sizeLine; omega), ?_⟩
        dsimp only [tNil]
        refine rd_txt (by rw [size_cat, len_sing]; decide) fun H5 k5 => ?_
        rw [tx_ok (by rw [size_cat, len_sing]; decide) (by rw [letters_app, la, lc]; rfl)]
        refine ⟨_, rfl, iteF ?_⟩
        -- not is_name("ab" + sign)
        refine ⟨_, rfl, _, _, rfl, rfl, (by show 2 + 1 ≤ sizeLine; omega), ?_⟩
        dsimp only [tNil]
        refine rd_txt (by rw [size_cat, len_sing]; decide) fun H6 k6 => ?_
        rw [nm_ok (by rw [size_cat, len_sing]; decide) (by rw [size_cat, len_sing]; decide) (by rw [letters_app, lab, lc]; rfl)]
        refine ⟨_, rfl, iteF ?_⟩
        exact ⟨_, _, _, _, _, _, _, _, _, _, _, _, rfl⟩
      obtain ⟨o0, o1, o2, o3, o4, o5, o6, o7, o8, o9, o10, o11, rfl⟩ := q
      refine ⟨OTH, rfl, ?_⟩
      refine for_it walk_str (fun _ st H2 => ∃ o0 o1 o2 o3 o4 o5 o6 o7 o8 o9 o10 o11 : Option V, st = [o0, o1, o2, o3, o4, o5, o6, o7, o8, o9, o10, o11])
        ⟨_, _, _, _, _, _, _, _, _, _, _, _, rfl⟩ (fun _ _ _ _ _ => True.intro) (fun i v st H2 H3 hi q y => ?_) (fun st H2 q => ?_)
      · obtain ⟨o0, o1, o2, o3, o4, o5, o6, o7, o8, o9, o10, o11, rfl⟩ := q
        obtain ⟨rfl, c, hc, rfl⟩ := y
        have lc : letters ⟨#[c]⟩ = false := by rw [letters_sing, oth_no c (mem_cps hc)]
        -- is_name(sign)
        refine ⟨_, rfl, ?_⟩
        dsimp only [tNil]
        refine rd_txt (by rw [len_sing]; decide) fun H4 k4 => ?_
        rw [nm_no lc]
        refine ⟨_, rfl, iteF ?_⟩
        -- is_text("a" + sign)
        refine ⟨_, rfl, _, _, rfl, rfl, (by show 1 + 1 ≤ sizeLine; omega), ?_⟩
        dsimp only [tNil]
        refine rd_txt (by rw [size_cat, len_sing]; decide) fun H5 k5 => ?_
        rw [tx_no (by rw [letters_app, lc, Bool.and_false])]
        refine ⟨_, rfl, iteF ?_⟩
        -- is_text(sign + "a")
        refine ⟨_, rfl, _, _, rfl, rfl, (by show 1 + 1 ≤ sizeLine; omega), ?_⟩
        dsimp only [tNil]
        refine rd_txt (by rw [size_cat, len_sing]; decide) fun H6 k6 => ?_
        rw [tx_no (by rw [letters_app, lc, Bool.false_and])]
        refine ⟨_, rfl, iteF ?_⟩
        -- is_name("a" + sign + "b")
        refine ⟨_, rfl, _, _, rfl, rfl, (by show 1 + 1 ≤ sizeLine; omega), _, _, rfl, rfl, (by rw [size_cat, len_sing]; show 1 + 1 + 1 ≤ sizeLine; omega), ?_⟩
        dsimp only [tNil]
        refine rd_txt (by rw [size_cat, size_cat, len_sing]; decide) fun H7 k7 => ?_
        rw [nm_no (by rw [letters_app, letters_app, lc, Bool.and_false, Bool.false_and])]
        refine ⟨_, rfl, iteF ?_⟩
        -- is_name("abcdefg" + sign)
        refine ⟨_, rfl, _, _, rfl, rfl, (by show 7 + 1 ≤ sizeLine; omega), ?_⟩
        dsimp only [tNil]
        refine rd_txt (by rw [size_cat, len_sing]; decide) fun H8 k8 => ?_
        rw [nm_no (by rw [letters_app, lc, Bool.and_false])]
        refine ⟨_, rfl, iteF ?_⟩
        -- is_text("abcdefghijk" + sign)
        refine ⟨_, rfl, _, _, rfl, rfl, (by show 11 + 1 ≤ sizeLine; omega), ?_⟩
        dsimp only [tNil]
        refine rd_txt (by rw [size_cat, len_sing]; decide) fun H9 k9 => ?_
        rw [tx_no (by rw [letters_app, lc, Bool.and_false])]
        refine ⟨_, rfl, iteF ?_⟩
        -- is_text("abcde" + sign + "f")
        refine ⟨_, rfl, _, _, rfl, rfl, (by show 5 + 1 ≤ sizeLine; omega), _, _, rfl, rfl, (by rw [size_cat, len_sing]; show 5 + 1 + 1 ≤ sizeLine; omega), ?_⟩
        dsimp only [tNil]
        refine rd_txt (by rw [size_cat, size_cat, len_sing]; decide) fun H10 k10 => ?_
        rw [tx_no (by rw [letters_app, letters_app, lc, Bool.and_false, Bool.false_and])]
        refine ⟨_, rfl, iteF ?_⟩
        exact ⟨_, _, _, _, _, _, _, _, _, _, _, _, rfl⟩
      obtain ⟨o0, o1, o2, o3, o4, o5, o6, o7, o8, o9, o10, o11, rfl⟩ := q
      -- the sizes
      refine ⟨_, rfl, (by decide), (by decide), ?_⟩
      refine for_range (lo := 0) (n := 15) (fun _ st H2 => ∃ o0 o1 o2 o3 o4 o5 o6 o7 o8 o9 o10 o11 : Option V, st = [o0, o1, o2, o3, o4, o5, o6, o7, o8, o9, o10, o11])
        ⟨_, _, _, _, _, _, _, _, _, _, _, _, rfl⟩ (fun i st H2 hi q => ?_) (fun st H2 q => ?_)
      · obtain ⟨o0, o1, o2, o3, o4, o5, o6, o7, o8, o9, o10, o11, rfl⟩ := q
        rw [show ((0 : Int) + (i : Int)) = (i : Int) from Int.zero_add _]
        -- is_name("z" * size) != (1 <= size <= 8)
        refine ⟨_, rfl, _, i, rfl, rfl, by omega, by decide, by decide, ?_⟩
        dsimp only [tNil]
        refine rd_txt (z_len i hi) fun H4 k4 => ?_
        rw [z_names i hi]
        have hd1 : decide (1 ≤ (i : Int)) = decide (1 ≤ i) := by rw [Bool.eq_iff_iff, decide_eq_true_eq, decide_eq_true_eq]; omega
        have hd8 : decide ((i : Int) ≤ 8) = decide (i ≤ 8) := by rw [Bool.eq_iff_iff, decide_eq_true_eq, decide_eq_true_eq]; omega
        have hd12 : decide ((i : Int) ≤ 12) = decide (i ≤ 12) := by rw [Bool.eq_iff_iff, decide_eq_true_eq, decide_eq_true_eq]; omega
        refine ⟨_, rfl, _, _, rfl, rfl, _, rfl, ?_⟩
        refine ite2 (fun h1 => ?_) (fun h1 => ?_)
        · refine ⟨_, _, rfl, rfl, rfl, _, rfl, ?_⟩
          rw [← hd1, h1, Bool.true_and]
          dsimp only
          rw [decide_eq_true (show V.bl (decide (i ≤ 8)) = V.bl (decide ((i : Int) ≤ 8)) from congrArg V.bl hd8.symm)]
          refine iteF ?_
          refine ⟨_, rfl, _, i, rfl, rfl, by omega, by decide, by decide, ?_⟩
          dsimp only [tNil]
          refine rd_txt (z_len i hi) fun H5 k5 => ?_
          rw [z_texts i hi]
          refine ⟨_, rfl, _, _, rfl, rfl, rfl, _, rfl, ?_⟩
          dsimp only
          rw [decide_eq_true (show V.bl (decide (i ≤ 12)) = V.bl (decide ((i : Int) ≤ 12)) from congrArg V.bl hd12.symm)]
          refine iteF ?_
          exact ⟨_, _, _, _, _, _, _, _, _, _, _, _, rfl⟩
        · refine ⟨rfl, _, rfl, ?_⟩
          rw [← hd1, (Bool.not_eq_true _).mp h1, Bool.false_and, decide_eq_true rfl]
          refine iteF ?_
          refine ⟨_, rfl, _, i, rfl, rfl, by omega, by decide, by decide, ?_⟩
          dsimp only [tNil]
          refine rd_txt (z_len i hi) fun H5 k5 => ?_
          rw [z_texts i hi]
          refine ⟨_, rfl, _, _, rfl, rfl, rfl, _, rfl, ?_⟩
          dsimp only
          rw [decide_eq_true (show V.bl (decide (i ≤ 12)) = V.bl (decide ((i : Int) ≤ 12)) from congrArg V.bl hd12.symm)]
          refine iteF ?_
          exact ⟨_, _, _, _, _, _, _, _, _, _, _, _, rfl⟩
      -- return is_number(10 ** 59) is True and is_number(0) is True and is_number(0 - 1) is False
      have pow : CPow 10 59 := ⟨by decide, by decide, by decide⟩
      have n1 : numK (.i (10 ^ (59 : Int).toNat)) = true := by decide +kernel
      refine ⟨_, _, rfl, rfl, pow, ?_⟩
      dsimp only [tNil]
      refine ⟨_, .i (10 ^ (59 : Int).toNat), rfl, rfl, fun H4 k4 => ?_⟩
      rw [n1]
      refine ⟨_, _, rfl, rfl, _, rfl, ?_⟩
      refine iteT ?_
      refine ⟨_, .i 0, rfl, rfl, fun H5 k5 => ?_⟩
      refine ⟨_, _, rfl, rfl, _, rfl, ?_⟩
      refine iteT ?_
      refine ⟨_, _, rfl, rfl, ?_⟩
      dsimp only [tNil]
      refine ⟨_, .i (0 - 1), rfl, rfl, fun H6 k6 => ?_⟩
      exact ⟨_, _, rfl, rfl, k _⟩
    obtain ⟨k1, o1, o2, o3, o4, o5, o6, o7, o8, o9, o10, o11, rfl⟩ := p
    refine ⟨_, rfl, _, rfl, a, ns, _, rfl, sqL_at hs k1 id, hl, hb, by omega, by omega, fun t d m nt ok => ?_⟩
    have ta : TapeAt (upd H1 t (.dK (tapeL d m))) t := TapeAt.put ok
    generalize eH : upd H1 t (.dK (tapeL d m)) = H2 at ta
    have kz : ∀ {H9 : Hp}, Kp (At t) H2 H9 → Kp T0 H H9 := fun k9 => k1.trans (Kp.tape (o := .dK (tapeL d m)) nt (by rw [eH]; exact k9))
    refine ⟨_, rfl, (by decide), (by decide), ?_⟩
    refine for_range (lo := 0) (n := 12) (fun _ st H3 => Kp (At t) H2 H3 ∧ TapeAt H3 t ∧ ∃ o1 o3 o4 o5 o6 o7 o8 o9 o10 o11 : Option V, st = [some (.ref a), o1, some (.ref t), o3, o4, o5, o6, o7, o8, o9, o10, o11])
      ⟨Kp.refl H2, ta, _, _, _, _, _, _, _, _, _, _, rfl⟩ (fun j st H3 hj p => ?_) (fun st H3 p => ?_)
    · obtain ⟨k3, ta3, o1, o3, o4, o5, o6, o7, o8, o9, o10, o11, rfl⟩ := p
      refine ⟨_, rfl, t, rfl, ta3, fun H4 v k4 ta4 th => ?_⟩
      dsimp only [tNil]
      refine ⟨v, rfl, th, fun H5 k5 => ?_⟩
      refine ⟨_, rfl, iteF ?_⟩
      exact ⟨(k3.trans k4).trans k5.wide, ta4.keep k5, _, _, _, _, _, _, _, _, _, _, rfl⟩
    obtain ⟨k3, ta3, p1, p3, p4, p5, p6, p7, p8, p9, p10, p11, rfl⟩ := p
    -- some
    refine ⟨(by show 10 ≤ sizeLine; omega), fun p hp => ?_⟩
    have np : p ≠ t := tape_fresh ta3 hp
    have g4 := (Kp.refl (T := T0) H3).new (o := .lst (SOME.map V.str)) hp
    have e4 : (upd H3 p (.lst (SOME.map V.str))) p = some (.lst (SOME.map V.str)) := upd_same
    have ta4 := ta3.keep g4
    have k4 : Kp (At t) H2 (upd H3 p (.lst (SOME.map V.str))) := k3.trans g4.wide
    have es : upd H3 p (.lst (SOME.map V.str)) = upd H3 p (.lst [.str "", .str "a", .str "b", .str "ab", .str "aa", .str "z", .str "ba", .str "abcdefghijkl", .str "abcdefghijkm", .str "zzz"]) := rfl
    rw [← es]
    generalize upd H3 p (.lst (SOME.map V.str)) = H4 at g4 e4 ta4 k4 ⊢
    -- texts
    refine ⟨_, rfl, (by decide), (by decide), fun D hD => ?_⟩
    have tD : ¬ At t D := tape_fresh ta4 hD
    refine lc_kp (T := At t) walk_range (i0 := 3) (fun i v => v = .int (0 + (i : Int))) (fun i us H5 => TapeAt H5 t ∧ ∃ ss : List Str, us = ss.map V.str ∧ ∀ s ∈ ss, s ∈ SOME)
      (fun i H5 v H6 _ y => y) hD tD (by rw [PySem.sizeLine_eq]; decide) (wipe1 _ 3) (fun _ _ => True.intro) ⟨ta4.new hD, [], rfl, fun r hr => nomatch hr⟩ (fun i u us H5 Ky Kn hi sx k5 d5 q ky _ => ?_) (fun us H5 k5 d5 lu q => ?_)
    · obtain ⟨ta5, ss, rfl, ms⟩ := q
      refine yes_ ?_
      refine ⟨_, rfl, _, rfl, t, p, SOME.map V.str, rfl, ta5, SqL.of (k5 p _ np e4), (by decide), (by decide), fun H6 x k6 ta6 mx => ?_⟩
      obtain ⟨s, hs2, rfl⟩ := List.mem_map.mp mx
      refine ky _ _ k6 ⟨ta6.over tD, ss ++ [s], by rw [List.map_append]; rfl, fun y hy => ?_⟩
      rcases List.mem_append.mp hy with h | h
      · exact ms y h
      · rw [List.mem_singleton.mp h]
        exact hs2
    obtain ⟨ta5, ss, rfl, ms⟩ := q
    have k5t : Kp (At t) H2 H5 := k4.trans k5
    have pow : CPow 10 40 := ⟨by decide, by decide, by decide⟩
    -- numbers
    refine ⟨_, rfl, (by decide), (by decide), fun N hN => ?_⟩
    have tN : ¬ At t N := tape_fresh ta5 hN
    refine lc_kp (T := At t) walk_range (i0 := 3) (fun i v => v = .int (0 + (i : Int))) (fun i us H6 => TapeAt H6 t ∧ ∃ zs : List Int, us = zs.map V.int)
      (fun i H6 v H7 _ y => y) hN tN (by rw [PySem.sizeLine_eq]; decide) (wipe1 _ 3) (fun _ _ => True.intro) ⟨ta5.new hN, [], rfl⟩ (fun i u us H6 Ky Kn hi sx k6 d6 q ky _ => ?_) (fun us H6 k6 d6 lu2 q => ?_)
    · obtain ⟨ta6, zs, rfl⟩ := q
      refine yes_ ?_
      refine ⟨_, rfl, _, _, rfl, rfl, pow, (by show 6 ≤ sizeLine; omega), fun b hb6 => ?_⟩
      refine ⟨t, b, ([0, 1, 2, 9, 10, 10 ^ (40 : Int).toNat] : List Int).map V.int, rfl, ta6.new hb6, SqL.of upd_same, (by decide), (by decide), fun H7 x k7 ta7 mx => ?_⟩
      obtain ⟨z, _, rfl⟩ := List.mem_map.mp mx
      have kb : Kp (At t) H6 (upd H6 b (.lst (([0, 1, 2, 9, 10, 10 ^ (40 : Int).toNat] : List Int).map V.int))) := (Kp.refl H6).new hb6
      exact ky _ _ (kb.trans k7) ⟨ta7.over tN, zs ++ [z], by rw [List.map_append]; rfl⟩
    obtain ⟨ta6, zs, rfl⟩ := q
    have d5 := k6 D _ tD d5
    have k6t := k5t.trans k6
    -- the rows
    refine ⟨_, rfl, _, rfl, (by show 3 ≤ sizeLine; omega), fun q hq => ⟨(by show 3 ≤ sizeLine; omega), fun r hr => ?_⟩⟩
    have g7 := (Kp.refl (T := T0) H6).new (o := .lst [.bl true, .bl false, .bl true]) hq
    have e7 : (upd H6 q (.lst [.bl true, .bl false, .bl true])) q = some (.lst [.bl true, .bl false, .bl true]) := upd_same
    generalize upd H6 q (.lst [.bl true, .bl false, .bl true]) = H7 at g7 e7 hr ⊢
    have g8 := (Kp.refl (T := T0) H7).new (o := .lst [.ref D, .ref N, .ref q]) hr
    have e8 : (upd H7 r (.lst [.ref D, .ref N, .ref q])) r = some (.lst [.ref D, .ref N, .ref q]) := upd_same
    generalize upd H7 r (.lst [.ref D, .ref N, .ref q]) = H8 at g8 e8 ⊢
    have g78 := g7.trans g8
    have rows : Rows K H8 [.ref D, .ref N, .ref q] := .cons (g78.at0 d5) (.inl ⟨ss, rfl, fun s h => some_short s (ms s h)⟩) (.cons (g78.at0 d6) (.inr (.inl ⟨zs, rfl⟩)) (.cons (g8.at0 e7) (.inr (.inr ⟨[true, false, true], rfl⟩)) .nil))
    have k8t : Kp T0 H H8 := kz (k6t.trans g78.wide)
    clear ta ta3 ta4 ta5 ta6 kz eH nt
    refine ⟨r, rfl, ⟨_, SqL.of e8⟩, ?_⟩
    refine for_it walk_list (fun _ st H9 => Kp T0 H8 H9 ∧ ∃ o1 o2 o3 o4 o5 o6 o7 o8 o9 o10 o11 : Option V, st = [some (.ref a), o1, o2, o3, o4, o5, o6, o7, o8, o9, o10, o11])
      ⟨Kp.refl H8, _, _, _, _, _, _, _, _, _, _, _, rfl⟩ (fun i st H9 _ q => SqL.of (q.1.at0 e8)) (fun i v st H9 H9b hi q y => ?_) (fun st H9 q => ?_)
    rotate_left
    · obtain ⟨k9, o1, o2, o3, o4, o5, o6, o7, o8, o9, o10, o11, rfl⟩ := q
      exact ⟨k8t.trans k9, _, _, _, _, _, _, _, _, _, _, _, rfl⟩
    obtain ⟨k9, o1, o2, o3, o4, o5, o6, o7, o8, o9, o10, o11, rfl⟩ := q
    obtain ⟨rfl, hv⟩ := y
    obtain ⟨l, xs, rfl, hl8, rk⟩ := rows.get hv
    have hl9 := k9.at0 hl8
    refine ⟨_, rfl, l, rfl, ⟨xs, SqL.of hl9⟩, ?_⟩
    refine for_it walk_list (fun _ st H10 => Kp T0 H9b H10 ∧ ∃ o1 o2 o3 o4 o5 o6 o8 o9 o10 o11 : Option V, st = [some (.ref a), o1, o2, o3, o4, o5, o6, some (.ref l), o8, o9, o10, o11])
      ⟨Kp.refl _, _, _, _, _, _, _, _, _, _, _, rfl⟩ (fun i st H10 _ q => SqL.of (q.1.at0 hl9)) (fun i2 v st H10 H10b hi2 q y => ?_) (fun st H10 q => ?_)
    rotate_left
    · obtain ⟨k10, o1, o2, o3, o4, o5, o6, o8, o9, o10, o11, rfl⟩ := q
      exact ⟨k9.trans k10, _, _, _, _, _, _, _, _, _, _, _, rfl⟩
    obtain ⟨k10, o1, o2, o3, o4, o5, o6, o8, o9, o10, o11, rfl⟩ := q
    obtain ⟨rfl, hone⟩ := y
    refine ⟨_, rfl, l, rfl, ⟨xs, SqL.of (k10.at0 hl9)⟩, ?_⟩
    refine for_it walk_list (fun _ st H11 => Kp T0 H10b H11 ∧ ∃ o1 o2 o3 o4 o5 o6 o9 o10 o11 : Option V, st = [some (.ref a), o1, o2, o3, o4, o5, o6, some (.ref l), some v, o9, o10, o11])
      ⟨Kp.refl _, _, _, _, _, _, _, _, _, _, rfl⟩ (fun i st H11 _ q => SqL.of (q.1.at0 (k10.at0 hl9))) (fun i3 u st H11 H11b hi3 q y => ?_) (fun st H11 q => ?_)
    rotate_left
    · obtain ⟨k11, o1, o2, o3, o4, o5, o6, o9, o10, o11, rfl⟩ := q
      exact ⟨k10.trans k11, _, _, _, _, _, _, _, _, _, _, rfl⟩
    obtain ⟨k11, o1, o2, o3, o4, o5, o6, o9, o10, o11, rfl⟩ := q
    obtain ⟨rfl, hother⟩ := y
    obtain ⟨pk, rfl, rfl, ok2⟩ := rk.two hone hother
    cases pk with
    | s x y =>
      obtain ⟨lx, ly⟩ := ok2
      refine ⟨_, rfl, .str x, .s x, rfl, ⟨rfl, lx⟩, .inl ⟨x, rfl, fun q1 h1 => ?_⟩⟩
      have g1 := (Kp.refl (T := T0) H11b).new (o := .tup [.int (x.length : Nat), .str x]) h1
      refine ⟨_, rfl, .str y, .s y, rfl, ⟨rfl, ly⟩, .inl ⟨y, rfl, fun q2 h2 => ?_⟩⟩
      have g2 := g1.new (o := .tup [.int (y.length : Nat), .str y]) h2
      refine ⟨.tuple [.int (x.length : Nat), .str x], .tuple [.int (y.length : Nat), .str y], .tup (SqT.of (by rw [upd_ne (ne_of_none upd_same h2)]; exact upd_same)) (.cons (.int _) (.cons (.str _) .nil)), .tup (SqT.of upd_same) (.cons (.int _) (.cons (.str _) .nil)), ?_, (fun z => nomatch z), (by show (1 : Nat) ≤ 64; decide), ?_⟩
      · simp [PySem.W.alike, PySem.W.alikeAll]
      rw [key_lt]
      refine ⟨_, rfl, _, rfl, .s x y, rfl, ⟨lx, ly⟩, rfl, _, rfl, ?_⟩
      dsimp only
      refine Eq.mpr (if_neg (not_ne ?_)) ?_
      · rfl
      exact ⟨k11.trans g2, _, _, _, _, _, _, _, _, _, rfl⟩
    | i n m =>
      refine ⟨_, rfl, .int n, .i n, rfl, rfl, .inr ⟨(fun x e => nomatch e), ?_⟩⟩
      refine ⟨_, rfl, .int m, .i m, rfl, rfl, .inr ⟨(fun x e => nomatch e), ?_⟩⟩
      refine ⟨.int n, .int m, .int _, .int _, rfl, (fun z => nomatch z), (by show (0 : Nat) ≤ 64; decide), ?_⟩
      rw [PySem.W.dataLt_int]
      refine ⟨_, rfl, _, rfl, .i n m, rfl, trivial, rfl, _, rfl, ?_⟩
      dsimp only
      refine Eq.mpr (if_neg (not_ne ?_)) ?_
      · rfl
      exact ⟨k11, _, _, _, _, _, _, _, _, _, rfl⟩
    | b c e =>
      refine ⟨_, rfl, .bl c, .b c, rfl, rfl, .inr ⟨(fun x e => nomatch e), ?_⟩⟩
      refine ⟨_, rfl, .bl e, .b e, rfl, rfl, .inr ⟨(fun x e => nomatch e), ?_⟩⟩
      refine ⟨.bool c, .bool e, .bl _, .bl _, rfl, (fun z => nomatch z), (by show (0 : Nat) ≤ 64; decide), ?_⟩
      refine ⟨_, rfl, _, rfl, .b c e, rfl, trivial, rfl, _, rfl, ?_⟩
      dsimp only
      refine Eq.mpr (if_neg (not_ne ?_)) ?_
      · rfl
      exact ⟨k11, _, _, _, _, _, _, _, _, _, rfl⟩
end
end Lw
namespace Lw
open PySem L2 Gk
theorem all_mk {l : PySem.W.OpenLaw} {w : World} {K : PySem.W.Frag} {h : Heap} {mg : Str → Option Value} {fa fIl fIn fTx fNu fFl fKe fTa fPi fOo fLt fDu fAn fRi fBf fLaw : Addr} {tLE tMO tTE : Tok} {odIl anIl odIn anIn odTx anTx odNu anNu odFl anFl odKe anKe odTa anTa odPi anPi odOo anOo odLt anLt odDu anDu odAn anAn odRi anRi odBf anBf odLaw anLaw : Option Addr} {slIl slIn slTx slNu slFl slKe slTa slPi slOo slLt slDu slAn slRi slBf slLaw : Array (Option Value)} {ocIl kVIl dcIl pmIl cdIl ctIl ocIn kVIn dcIn pmIn cdIn ctIn ocTx kVTx dcTx pmTx cdTx ctTx ocNu kVNu dcNu pmNu cdNu ctNu ocFl kVFl dcFl pmFl cdFl ctFl ocKe kVKe dcKe pmKe cdKe ctKe ocTa kVTa dcTa pmTa cdTa ctTa ocPi kVPi dcPi pmPi cdPi ctPi ocOo kVOo dcOo pmOo cdOo ctOo ocLt kVLt dcLt pmLt cdLt ctLt ocDu kVDu dcDu pmDu cdDu ctDu ocAn kVAn dcAn pmAn cdAn ctAn ocRi kVRi dcRi pmRi cdRi ctRi ocBf kVBf dcBf pmBf cdBf ctBf ocLaw kVLaw dcLaw pmLaw cdLaw ctLaw : Value} (X : K.In h) (G : h.Ns mainGlobals mg) (hfa : mg "law" = some (.ref fa))
    (aIl : PySem.W.nsIn K mainGlobals "is_letters" = some (some (.ref fIl)))
    (lIl : K.lookup fIl = some ⟨ocIl, odIl, .func (PySem.W.fnOf "is_letters" "is_letters" (defArgs sIsLetters) (defBody sIsLetters) (defScope sIsLetters) .none kVIl dcIl pmIl anIl cdIl ctIl), slIl⟩)
    (cIl : PySem.W.codeIn K cdIl "is_letters" = true)
    (kIl : PySem.W.keepIn K (.ref fIl) = true)
    (aIn : PySem.W.nsIn K mainGlobals "is_name" = some (some (.ref fIn)))
    (lIn : K.lookup fIn = some ⟨ocIn, odIn, .func (PySem.W.fnOf "is_name" "is_name" (defArgs sIsName) (defBody sIsName) (defScope sIsName) .none kVIn dcIn pmIn anIn cdIn ctIn), slIn⟩)
    (cIn : PySem.W.codeIn K cdIn "is_name" = true)
    (kIn : PySem.W.keepIn K (.ref fIn) = true)
    (aTx : PySem.W.nsIn K mainGlobals "is_text" = some (some (.ref fTx)))
    (lTx : K.lookup fTx = some ⟨ocTx, odTx, .func (PySem.W.fnOf "is_text" "is_text" (defArgs sIsText) (defBody sIsText) (defScope sIsText) .none kVTx dcTx pmTx anTx cdTx ctTx), slTx⟩)
    (cTx : PySem.W.codeIn K cdTx "is_text" = true)
    (kTx : PySem.W.keepIn K (.ref fTx) = true)
    (aNu : PySem.W.nsIn K mainGlobals "is_number" = some (some (.ref fNu)))
    (lNu : K.lookup fNu = some ⟨ocNu, odNu, .func (PySem.W.fnOf "is_number" "is_number" (defArgs sIsNumber) (defBody sIsNumber) (defScope sIsNumber) .none kVNu dcNu pmNu anNu cdNu ctNu), slNu⟩)
    (cNu : PySem.W.codeIn K cdNu "is_number" = true)
    (kNu : PySem.W.keepIn K (.ref fNu) = true)
    (aFl : PySem.W.nsIn K mainGlobals "is_flag" = some (some (.ref fFl)))
    (lFl : K.lookup fFl = some ⟨ocFl, odFl, .func (PySem.W.fnOf "is_flag" "is_flag" (defArgs sIsFlag) (defBody sIsFlag) (defScope sIsFlag) .none kVFl dcFl pmFl anFl cdFl ctFl), slFl⟩)
    (cFl : PySem.W.codeIn K cdFl "is_flag" = true)
    (kFl : PySem.W.keepIn K (.ref fFl) = true)
    (aKe : PySem.W.nsIn K mainGlobals "value_key" = some (some (.ref fKe)))
    (lKe : K.lookup fKe = some ⟨ocKe, odKe, .func (PySem.W.fnOf "value_key" "value_key" (defArgs sKey) (defBody sKey) (defScope sKey) .none kVKe dcKe pmKe anKe cdKe ctKe), slKe⟩)
    (cKe : PySem.W.codeIn K cdKe "value_key" = true)
    (kKe : PySem.W.keepIn K (.ref fKe) = true)
    (aTa : PySem.W.nsIn K mainGlobals "_law_well" = some (some (.ref fTa)))
    (lTa : K.lookup fTa = some ⟨ocTa, odTa, .func (PySem.W.fnOf "_law_well" "_law_well" (defArgs sTape) (defBody sTape) (defScope sTape) .none kVTa dcTa pmTa anTa cdTa ctTa), slTa⟩)
    (cTa : PySem.W.codeIn K cdTa "_law_well" = true)
    (kTa : PySem.W.keepIn K (.ref fTa) = true)
    (aPi : PySem.W.nsIn K mainGlobals "_law_draw" = some (some (.ref fPi)))
    (lPi : K.lookup fPi = some ⟨ocPi, odPi, .func (PySem.W.fnOf "_law_draw" "_law_draw" (defArgs sPick) (defBody sPick) (defScope sPick) .none kVPi dcPi pmPi anPi cdPi ctPi), slPi⟩)
    (cPi : PySem.W.codeIn K cdPi "_law_draw" = true)
    (kPi : PySem.W.keepIn K (.ref fPi) = true)
    (aOo : PySem.W.nsIn K mainGlobals "_law_choose" = some (some (.ref fOo)))
    (lOo : K.lookup fOo = some ⟨ocOo, odOo, .func (PySem.W.fnOf "_law_choose" "_law_choose" (defArgs sOneOf) (defBody sOneOf) (defScope sOneOf) .none kVOo dcOo pmOo anOo cdOo ctOo), slOo⟩)
    (cOo : PySem.W.codeIn K cdOo "_law_choose" = true)
    (kOo : PySem.W.keepIn K (.ref fOo) = true)
    (aLt : PySem.W.nsIn K mainGlobals "_law_letters" = some (some (.ref fLt)))
    (lLt : K.lookup fLt = some ⟨ocLt, odLt, .func (PySem.W.fnOf "_law_letters" "_law_letters" (defArgs sLett) (defBody sLett) (defScope sLett) .none kVLt dcLt pmLt anLt cdLt ctLt), slLt⟩)
    (cLt : PySem.W.codeIn K cdLt "_law_letters" = true)
    (kLt : PySem.W.keepIn K (.ref fLt) = true)
    (aDu : PySem.W.nsIn K mainGlobals "_law_due" = some (some (.ref fDu)))
    (lDu : K.lookup fDu = some ⟨ocDu, odDu, .func (PySem.W.fnOf "_law_due" "_law_due" (defArgs sDue) (defBody sDue) (defScope sDue) .none kVDu dcDu pmDu anDu cdDu ctDu), slDu⟩)
    (cDu : PySem.W.codeIn K cdDu "_law_due" = true)
    (kDu : PySem.W.keepIn K (.ref fDu) = true)
    (aAn : PySem.W.nsIn K mainGlobals "_law_any" = some (some (.ref fAn)))
    (lAn : K.lookup fAn = some ⟨ocAn, odAn, .func (PySem.W.fnOf "_law_any" "_law_any" (defArgs sAny) (defBody sAny) (defScope sAny) .none kVAn dcAn pmAn anAn cdAn ctAn), slAn⟩)
    (cAn : PySem.W.codeIn K cdAn "_law_any" = true)
    (kAn : PySem.W.keepIn K (.ref fAn) = true)
    (aRi : PySem.W.nsIn K mainGlobals "_law_right" = some (some (.ref fRi)))
    (lRi : K.lookup fRi = some ⟨ocRi, odRi, .func (PySem.W.fnOf "_law_right" "_law_right" (defArgs sRight) (defBody sRight) (defScope sRight) .none kVRi dcRi pmRi anRi cdRi ctRi), slRi⟩)
    (cRi : PySem.W.codeIn K cdRi "_law_right" = true)
    (kRi : PySem.W.keepIn K (.ref fRi) = true)
    (aBf : PySem.W.nsIn K mainGlobals "_law_before" = some (some (.ref fBf)))
    (lBf : K.lookup fBf = some ⟨ocBf, odBf, .func (PySem.W.fnOf "_law_before" "_law_before" (defArgs sBefore) (defBody sBefore) (defScope sBefore) .none kVBf dcBf pmBf anBf cdBf ctBf), slBf⟩)
    (cBf : PySem.W.codeIn K cdBf "_law_before" = true)
    (kBf : PySem.W.keepIn K (.ref fBf) = true)
    (aLaw : PySem.W.nsIn K mainGlobals "law" = some (some (.ref fLaw)))
    (lLaw : K.lookup fLaw = some ⟨ocLaw, odLaw, .func (PySem.W.fnOf "law" "law" (defArgs sLaw) (defBody sLaw) (defScope sLaw) .none kVLaw dcLaw pmLaw anLaw cdLaw ctLaw), slLaw⟩)
    (cLaw : PySem.W.codeIn K cdLaw "law" = true)
    (kLaw : PySem.W.keepIn K (.ref fLaw) = true)
    (z_isinstance : PySem.W.nsIn K mainGlobals "isinstance" = some none)
    (z_str : PySem.W.nsIn K mainGlobals "str" = some none)
    (z_len : PySem.W.nsIn K mainGlobals "len" = some none)
    (z_all : PySem.W.nsIn K mainGlobals "all" = some none)
    (z_int : PySem.W.nsIn K mainGlobals "int" = some none)
    (z_bool : PySem.W.nsIn K mainGlobals "bool" = some none)
    (z_range : PySem.W.nsIn K mainGlobals "range" = some none)
    (z_tuple : PySem.W.nsIn K mainGlobals "tuple" = some none)
    (z_max : PySem.W.nsIn K mainGlobals "max" = some none)
    (z_min : PySem.W.nsIn K mainGlobals "min" = some none)
    (z_repr : PySem.W.nsIn K mainGlobals "repr" = some none)
    (vLETTERS : PySem.W.nsIn K mainGlobals "LETTERS" = some (some (.str "abcdefghijklmnopqrstuvwxyz" tLE)))
    (vMOST : PySem.W.nsIn K mainGlobals "MOST_NAME" = some (some (.int 8 tMO)))
    (vTEXT : PySem.W.nsIn K mainGlobals "MOST_TEXT" = some (some (.int 12 tTE)))
    : ∃ fd : FuncData, (∀ (s : Shared) (v : Value), BindsTo s fd ⟨[v], []⟩ [("script", v)]) ∧ ∀ base : Heap, K.In base → base.Ns mainGlobals mg → FnG l.prog w K mg base 4 fa fd ["script"] (spLaw K) := by
  have e0 := hfa.symm.trans (PySem.W.mg_of X G aLaw)
  cases e0
  refine ⟨PySem.W.fnOf "law" "law" (defArgs sLaw) (defBody sLaw) (defScope sLaw) .none kVLaw dcLaw pmLaw anLaw cdLaw ctLaw, fun s v => .of_eq rfl, fun base _ _ => ?_⟩
  have m_isinstance := PySem.W.mg_none_of X G z_isinstance
  have m_str := PySem.W.mg_none_of X G z_str
  have m_len := PySem.W.mg_none_of X G z_len
  have m_all := PySem.W.mg_none_of X G z_all
  have m_int := PySem.W.mg_none_of X G z_int
  have m_bool := PySem.W.mg_none_of X G z_bool
  have m_range := PySem.W.mg_none_of X G z_range
  have m_tuple := PySem.W.mg_none_of X G z_tuple
  have m_max := PySem.W.mg_none_of X G z_max
  have m_min := PySem.W.mg_none_of X G z_min
  have m_repr := PySem.W.mg_none_of X G z_repr
  have m_vLETTERS := PySem.W.mg_of X G vLETTERS
  have m_vMOST := PySem.W.mg_of X G vMOST
  have m_vTEXT := PySem.W.mg_of X G vTEXT
  have FIl := fun_mk (st := sIsLetters) lIl cIl kIl
  have bIl := FIl.binds (ps := ["value", "least", "most"]) fun _ _ _ _ _ _ us hl => match us, hl with | [_, _, _], _ => rfl
  have FIn := fun_mk (st := sIsName) lIn cIn kIn
  have bIn := FIn.binds (ps := ["value"]) fun _ _ _ _ _ _ us hl => match us, hl with | [_], _ => rfl
  have FTx := fun_mk (st := sIsText) lTx cTx kTx
  have bTx := FTx.binds (ps := ["value"]) fun _ _ _ _ _ _ us hl => match us, hl with | [_], _ => rfl
  have FNu := fun_mk (st := sIsNumber) lNu cNu kNu
  have bNu := FNu.binds (ps := ["value"]) fun _ _ _ _ _ _ us hl => match us, hl with | [_], _ => rfl
  have FFl := fun_mk (st := sIsFlag) lFl cFl kFl
  have bFl := FFl.binds (ps := ["value"]) fun _ _ _ _ _ _ us hl => match us, hl with | [_], _ => rfl
  have FKe := fun_mk (st := sKey) lKe cKe kKe
  have bKe := FKe.binds (ps := ["value"]) fun _ _ _ _ _ _ us hl => match us, hl with | [_], _ => rfl
  have FTa := fun_mk (st := sTape) lTa cTa kTa
  have bTa := FTa.binds (ps := ["script", "start"]) fun _ _ _ _ _ _ us hl => match us, hl with | [_, _], _ => rfl
  have FPi := fun_mk (st := sPick) lPi cPi kPi
  have bPi := FPi.binds (ps := ["well", "bound"]) fun _ _ _ _ _ _ us hl => match us, hl with | [_, _], _ => rfl
  have FOo := fun_mk (st := sOneOf) lOo cOo kOo
  have bOo := FOo.binds (ps := ["well", "things"]) fun _ _ _ _ _ _ us hl => match us, hl with | [_, _], _ => rfl
  have FLt := fun_mk (st := sLett) lLt cLt kLt
  have bLt := FLt.binds (ps := ["thing"]) fun _ _ _ _ _ _ us hl => match us, hl with | [_], _ => rfl
  have FDu := fun_mk (st := sDue) lDu cDu kDu
  have bDu := FDu.binds (ps := ["thing"]) fun _ _ _ _ _ _ us hl => match us, hl with | [_], _ => rfl
  have FAn := fun_mk (st := sAny) lAn cAn kAn
  have bAn := FAn.binds (ps := ["well"]) fun _ _ _ _ _ _ us hl => match us, hl with | [_], _ => rfl
  have FRi := fun_mk (st := sRight) lRi cRi kRi
  have bRi := FRi.binds (ps := ["thing"]) fun _ _ _ _ _ _ us hl => match us, hl with | [_], _ => rfl
  have FBf := fun_mk (st := sBefore) lBf cBf kBf
  have bBf := FBf.binds (ps := ["one", "other"]) fun _ _ _ _ _ _ us hl => match us, hl with | [_, _], _ => rfl
  have FLaw := fun_mk (st := sLaw) lLaw cLaw kLaw
  have TN : TxtN K mg := ⟨m_isinstance, m_str, m_len, m_all, ⟨_, m_vLETTERS⟩, ⟨_, m_vMOST⟩⟩
  have TV : TxtV mg := ⟨m_isinstance, m_str, m_int, m_bool, m_len, ⟨_, m_vTEXT⟩⟩
  have TT : TxtT mg := ⟨m_int, m_len, m_range, m_tuple⟩
  have DIl : Df l.prog w K mg base 1 fIl "is_letters" ["value", "least", "most"] (spIsLetters K) := ⟨⟨_, ok_is_letters FIl TN, bIl⟩, PySem.W.mg_of X G aIl, kIl⟩
  have DIn : Df l.prog w K mg base 2 fIn "is_name" ["value"] (spKd K nameK) := ⟨⟨_, name_kd (ok_is_name FIn TN DIl), bIn⟩, PySem.W.mg_of X G aIn, kIn⟩
  have DTx : Df l.prog w K mg base 2 fTx "is_text" ["value"] (spKd K textK) := ⟨⟨_, ok_is_text FTx TV DIl, bTx⟩, PySem.W.mg_of X G aTx, kTx⟩
  have DNu : Df l.prog w K mg base 1 fNu "is_number" ["value"] (spKd K numK) := ⟨⟨_, ok_is_number FNu TV, bNu⟩, PySem.W.mg_of X G aNu, kNu⟩
  have DFl : Df l.prog w K mg base 1 fFl "is_flag" ["value"] (spKd K flagK) := ⟨⟨_, ok_is_flag FFl TV, bFl⟩, PySem.W.mg_of X G aFl, kFl⟩
  have DKe : Df l.prog w K mg base 1 fKe "value_key" ["value"] (spKey K) := ⟨⟨_, ok_key FKe TV, bKe⟩, PySem.W.mg_of X G aKe, kKe⟩
  have DTa : Df l.prog w K mg base 1 fTa "_law_well" ["script", "start"] (spTape K) := ⟨⟨_, ok_tape FTa TT, bTa⟩, PySem.W.mg_of X G aTa, kTa⟩
  have DPi : Df l.prog w K mg base 1 fPi "_law_draw" ["well", "bound"] (spPick) := ⟨⟨_, ok_pick FPi TT, bPi⟩, PySem.W.mg_of X G aPi, kPi⟩
  have DOo : Df l.prog w K mg base 2 fOo "_law_choose" ["well", "things"] (spOneOf K) := ⟨⟨_, ok_one_of FOo TT DPi, bOo⟩, PySem.W.mg_of X G aOo, kOo⟩
  have DLt : Df l.prog w K mg base 1 fLt "_law_letters" ["thing"] (spLett) := ⟨⟨_, ok_lett FLt, bLt⟩, PySem.W.mg_of X G aLt, kLt⟩
  have DDu : Df l.prog w K mg base 2 fDu "_law_due" ["thing"] (spDue K) := ⟨⟨_, ok_due FDu TV DLt, bDu⟩, PySem.W.mg_of X G aDu, kDu⟩
  have DAn : Df l.prog w K mg base 3 fAn "_law_any" ["well"] (spAny K) := ⟨⟨_, ok_any FAn DOo, bAn⟩, PySem.W.mg_of X G aAn, kAn⟩
  have DRi : DfG l.prog w K mg base 3 fRi "_law_right" ["thing"] (spRight K) := ⟨⟨_, ok_right FRi m_repr DIn DTx DNu DFl DDu, bRi⟩, PySem.W.mg_of X G aRi, kRi⟩
  have DBf : Df l.prog w K mg base 1 fBf "_law_before" ["one", "other"] (spBefore) := ⟨⟨_, ok_before FBf TV, bBf⟩, PySem.W.mg_of X G aBf, kBf⟩
  exact ok_law FLaw ⟨m_len, m_max, m_min, m_range⟩ DTa DAn DRi DOo DKe DBf DIn DTx DNu
theorem walk {l : PySem.W.OpenLaw} {q : Program} {loose : List Str} {XP : (Str → Option Value) → Heap → Prop} {YP : World → Heap → Prop} {d : DefRec} {K : Params → PySem.W.Frag} (hn : l.most = some 63) (hdf : d.params.defaults = [])
    (hY : ∀ (w : World) (h : Heap), YP w h → (K w.params).In h)
    (F : ∀ (w : World) (mg : Str → Option Value) (fa : Addr) (h : Heap), (K w.params).In h → h.Ns mainGlobals mg → mg d.name = some (.ref fa) →
      ∃ fd : FuncData, (∀ (s : Shared) (u : Value), BindsTo s fd ⟨[u], []⟩ [("script", u)]) ∧ ∀ base : Heap, (K w.params).In base → base.Ns mainGlobals mg → FnG l.prog w (K w.params) mg base 4 fa fd ["script"] (spLaw (K w.params))) :
    PySem.W.WalkO q loose XP YP l.row.toRowW d [] (fun f vs => PySem.call f vs) :=
  walkG (n := 63) (k := 4) (x := "script") (sp := fun w => spLaw (K w.params)) hn (by decide) hdf ⟨rfl, by decide, by decide⟩ hY F (fun _ _ a ns hl hb _ hS => ⟨a, ns, rfl, hS, hl, hb, fun _ => rfl⟩)
end Lw

open PySem PySem.W PyProof.Rows in
set_option maxRecDepth 100000 in
set_option maxHeartbeats 0 in
theorem PySem.Challenge.cw_maskwrites_k01_names_and_values_holds : PySem.Challenge.rw_maskwrites_k01_names_and_values.Holds := by
  w_on; o_law; k_head; (case hw => w_witness2)
  k_fill
  refine Lw.walk (l := PySem.Challenge.rw_maskwrites_k01_names_and_values) rfl rfl (fun w h Y => PySem.W.kIn_of Y) ?F
  case F =>
    intro w mg fa h KX G hmg
    refine' Lw.all_mk KX G hmg ?aIl ?lIl ?cIl ?kIl ?aIn ?lIn ?cIn ?kIn ?aTx ?lTx ?cTx ?kTx ?aNu ?lNu ?cNu ?kNu ?aFl ?lFl ?cFl ?kFl ?aKe ?lKe ?cKe ?kKe ?aTa ?lTa ?cTa ?kTa ?aPi ?lPi ?cPi ?kPi ?aOo ?lOo ?cOo ?kOo ?aLt ?lLt ?cLt ?kLt ?aDu ?lDu ?cDu ?kDu ?aAn ?lAn ?cAn ?kAn ?aRi ?lRi ?cRi ?kRi ?aBf ?lBf ?cBf ?kBf ?aLaw ?lLaw ?cLaw ?kLaw ?z_isinstance ?z_str ?z_len ?z_all ?z_int ?z_bool ?z_range ?z_tuple ?z_max ?z_min ?z_repr ?vLETTERS ?vMOST ?vTEXT
    (case aIl => k_is)
    (case lIl => k_is)
    (case cIl => k_is)
    (case kIl => k_is)
    (case aIn => k_is)
    (case lIn => k_is)
    (case cIn => k_is)
    (case kIn => k_is)
    (case aTx => k_is)
    (case lTx => k_is)
    (case cTx => k_is)
    (case kTx => k_is)
    (case aNu => k_is)
    (case lNu => k_is)
    (case cNu => k_is)
    (case kNu => k_is)
    (case aFl => k_is)
    (case lFl => k_is)
    (case cFl => k_is)
    (case kFl => k_is)
    (case aKe => k_is)
    (case lKe => k_is)
    (case cKe => k_is)
    (case kKe => k_is)
    (case aTa => k_is)
    (case lTa => k_is)
    (case cTa => k_is)
    (case kTa => k_is)
    (case aPi => k_is)
    (case lPi => k_is)
    (case cPi => k_is)
    (case kPi => k_is)
    (case aOo => k_is)
    (case lOo => k_is)
    (case cOo => k_is)
    (case kOo => k_is)
    (case aLt => k_is)
    (case lLt => k_is)
    (case cLt => k_is)
    (case kLt => k_is)
    (case aDu => k_is)
    (case lDu => k_is)
    (case cDu => k_is)
    (case kDu => k_is)
    (case aAn => k_is)
    (case lAn => k_is)
    (case cAn => k_is)
    (case kAn => k_is)
    (case aRi => k_is)
    (case lRi => k_is)
    (case cRi => k_is)
    (case kRi => k_is)
    (case aBf => k_is)
    (case lBf => k_is)
    (case cBf => k_is)
    (case kBf => k_is)
    (case aLaw => k_is)
    (case lLaw => k_is)
    (case cLaw => k_is)
    (case kLaw => k_is)
    (case z_isinstance => k_is)
    (case z_str => k_is)
    (case z_len => k_is)
    (case z_all => k_is)
    (case z_int => k_is)
    (case z_bool => k_is)
    (case z_range => k_is)
    (case z_tuple => k_is)
    (case z_max => k_is)
    (case z_min => k_is)
    (case z_repr => k_is)
    (case vLETTERS => k_is)
    (case vMOST => k_is)
    (case vTEXT => k_is)
#print axioms PySem.Challenge.cw_maskwrites_k01_names_and_values_holds

